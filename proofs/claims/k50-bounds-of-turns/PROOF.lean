import PyProof.Rows.All
import Wide.All
import OpenK.AllK
import Wide.FinOn
import HandS.ForMost
import HandS.Codes
import HandS.NoneIn
import HandS.TupAny
import HandS.Wide
import HandS.Rev
import HandS.IsInst
import HandS.Deep
import PyProof.NeKinds
import PyProof.DictUpdate
import KE.GoesNew
import KE.GoesEnum
import PyProof.CollectWalk
import PyProof.ListNew
import HandS.Dict
import PySem.Challenge.RW_deedwright_k50_whole_bounds_of_turns
set_option Elab.async false
set_option linter.all false
set_option maxRecDepth 100000
set_option maxHeartbeats 200000
/-! K50A: data, cells, heaps that bear them -/
namespace DL
open PySem PySem.Spec PyProof.Rows L2

/-- immutable data (lst, ins: frozen; obj: an address, whatever stands there; fz: a list of ints, maybe the asker's own) -/
inductive D where
  | non | bl (b : Bool) | int (i : Int) | str (x : Str) | obj (a : Addr) | ty (n : String)
  | tup (ds : List D) | lst (ds : List D)
  | ins (C : Addr) (ns : List Str) (ds : List D)
  | fz (is : List Int)

abbrev AP := Addr → Prop

mutual
def Rep (M : AP) (H : Hp) : D → V → Prop
  | .non, v => v = .non
  | .bl b, v => v = .bl b
  | .int i, v => v = .int i
  | .str x, v => v = .str x
  | .obj a, v => v = .ref a
  | .ty n, v => v = .ty n
  | .tup ds, v => ∃ a vs, v = .ref a ∧ ¬ M a ∧ H a = some (.tup vs) ∧ Reps M H ds vs
  | .lst ds, v => ∃ a vs, v = .ref a ∧ ¬ M a ∧ H a = some (.lst vs) ∧ Reps M H ds vs
  | .ins C ns ds, v => ∃ a dx vs, v = .ref a ∧ ¬ M a ∧ H a = some (.ins C dx (ns.zip vs)) ∧ ns.length = ds.length ∧ Reps M H ds vs
  | .fz is, v => ∃ a, v = .ref a ∧ ¬ M a ∧ Rd H a (.lst (is.map .int))
def Reps (M : AP) (H : Hp) : List D → List V → Prop
  | [], vs => vs = []
  | d :: ds, vs => ∃ v r, vs = v :: r ∧ Rep M H d v ∧ Reps M H ds r
end

/-- what is read in H outside M is read in H' outside M' -/
def Tr (M : AP) (H : Hp) (M' : AP) (H' : Hp) : Prop := ∀ a o, ¬ M a → H a = some o → ¬ M' a ∧ H' a = some o
theorem Tr.refl (M : AP) (H : Hp) : Tr M H M H := fun _ _ a b => ⟨a, b⟩
theorem Tr.trans {M M1 M2 : AP} {H H1 H2 : Hp} (a : Tr M H M1 H1) (b : Tr M1 H1 M2 H2) : Tr M H M2 H2 := fun x o h1 h2 =>
  let ⟨k1, k2⟩ := a x o h1 h2
  b x o k1 k2

mutual
theorem Rep.tr {M M' : AP} {H H' : Hp} (t : Tr M H M' H') : ∀ (d : D) (v : V), Rep M H d v → Rep M' H' d v
  | .non, v, h => by simpa only [Rep] using h
  | .bl b, v, h => by simpa only [Rep] using h
  | .int i, v, h => by simpa only [Rep] using h
  | .str x, v, h => by simpa only [Rep] using h
  | .obj a, v, h => by simpa only [Rep] using h
  | .ty n, v, h => by simpa only [Rep] using h
  | .tup ds, v, h => by
    simp only [Rep] at h ⊢
    obtain ⟨a, vs, h1, h2, h3, h4⟩ := h
    exact ⟨a, vs, h1, (t a _ h2 h3).1, (t a _ h2 h3).2, Reps.tr t ds vs h4⟩
  | .lst ds, v, h => by
    simp only [Rep] at h ⊢
    obtain ⟨a, vs, h1, h2, h3, h4⟩ := h
    exact ⟨a, vs, h1, (t a _ h2 h3).1, (t a _ h2 h3).2, Reps.tr t ds vs h4⟩
  | .ins C ns ds, v, h => by
    simp only [Rep] at h ⊢
    obtain ⟨a, dx, vs, h1, h2, h3, h5, h4⟩ := h
    exact ⟨a, dx, vs, h1, (t a _ h2 h3).1, (t a _ h2 h3).2, h5, Reps.tr t ds vs h4⟩
  | .fz is, v, h => by
    simp only [Rep] at h ⊢
    obtain ⟨a, h1, h2, h3⟩ := h
    rcases h3 with h3 | ⟨o, h3⟩
    · exact ⟨a, h1, (t a _ h2 h3).1, .inl (t a _ h2 h3).2⟩
    · exact ⟨a, h1, (t a _ h2 h3).1, .inr ⟨o, (t a _ h2 h3).2⟩⟩
theorem Reps.tr {M M' : AP} {H H' : Hp} (t : Tr M H M' H') : ∀ (ds : List D) (vs : List V), Reps M H ds vs → Reps M' H' ds vs
  | [], vs, h => by simpa only [Reps] using h
  | d :: ds, vs, h => by
    simp only [Reps] at h ⊢
    obtain ⟨v, r, h1, h2, h3⟩ := h
    exact ⟨v, r, h1, Rep.tr t d v h2, Reps.tr t ds r h3⟩
end

section
variable {M : AP} {H : Hp} {d : D} {ds es : List D} {v : V} {vs ws : List V}
theorem reps_nil : Reps M H [] [] := by simp only [Reps]
theorem reps_cons (a : Rep M H d v) (b : Reps M H ds vs) : Reps M H (d :: ds) (v :: vs) := by
  simp only [Reps]
  exact ⟨v, vs, rfl, a, b⟩
theorem Reps.len : ∀ {ds : List D} {vs : List V}, Reps M H ds vs → ds.length = vs.length
  | [], vs, h => by
    simp only [Reps] at h
    subst h
    rfl
  | d :: ds, vs, h => by
    simp only [Reps] at h
    obtain ⟨v, r, rfl, h2, h3⟩ := h
    rw [List.length_cons, List.length_cons, Reps.len h3]
theorem Reps.get : ∀ {ds : List D} {vs : List V} {i : Nat} {d : D}, Reps M H ds vs → ds[i]? = some d → ∃ v, vs[i]? = some v ∧ Rep M H d v
  | [], _, i, _, _, e => by simp at e
  | d :: ds, vs, 0, d', h, e => by
    simp only [Reps] at h
    obtain ⟨v, r, rfl, h2, h3⟩ := h
    simp at e
    subst e
    exact ⟨v, rfl, h2⟩
  | d :: ds, vs, i + 1, d', h, e => by
    simp only [Reps] at h
    obtain ⟨v, r, rfl, h2, h3⟩ := h
    simp at e
    obtain ⟨w, h4, h5⟩ := Reps.get h3 e
    exact ⟨w, by simpa using h4, h5⟩
theorem Reps.getv {i : Nat} (h : Reps M H ds vs) (e : vs[i]? = some v) : ∃ d, ds[i]? = some d ∧ Rep M H d v := by
  have hl := h.len
  have hi : i < vs.length := (List.getElem?_eq_some_iff.mp e).1
  have e2 : ds[i]? = some (ds[i]'(by omega)) := List.getElem?_eq_getElem (by omega)
  obtain ⟨w, h1, h2⟩ := h.get e2
  rw [e] at h1
  cases h1
  exact ⟨_, e2, h2⟩
theorem Reps.app : ∀ {ds es : List D} {vs ws : List V}, Reps M H ds vs → Reps M H es ws → Reps M H (ds ++ es) (vs ++ ws)
  | [], es, vs, ws, h, k => by
    simp only [Reps] at h
    subst h
    exact k
  | d :: ds, es, vs, ws, h, k => by
    simp only [Reps] at h
    obtain ⟨v, r, rfl, h2, h3⟩ := h
    exact reps_cons h2 (Reps.app h3 k)
theorem reps_one (a : Rep M H d v) : Reps M H [d] [v] := reps_cons a reps_nil
theorem Reps.take : ∀ (n : Nat) {ds : List D} {vs : List V}, Reps M H ds vs → Reps M H (ds.take n) (vs.take n)
  | 0, ds, vs, h => by simpa using reps_nil
  | n + 1, [], vs, h => by
    simp only [Reps] at h
    subst h
    exact reps_nil
  | n + 1, d :: ds, vs, h => by
    simp only [Reps] at h
    obtain ⟨v, r, rfl, h2, h3⟩ := h
    exact reps_cons h2 (Reps.take n h3)
theorem Reps.drop : ∀ (n : Nat) {ds : List D} {vs : List V}, Reps M H ds vs → Reps M H (ds.drop n) (vs.drop n)
  | 0, ds, vs, h => h
  | n + 1, [], vs, h => by
    simp only [Reps] at h
    subst h
    exact reps_nil
  | n + 1, d :: ds, vs, h => by
    simp only [Reps] at h
    obtain ⟨v, r, rfl, h2, h3⟩ := h
    exact Reps.drop n h3
theorem Reps.rev : ∀ {ds : List D} {vs : List V}, Reps M H ds vs → Reps M H ds.reverse vs.reverse
  | [], vs, h => by
    simp only [Reps] at h
    subst h
    exact reps_nil
  | d :: ds, vs, h => by
    simp only [Reps] at h
    obtain ⟨v, r, rfl, h2, h3⟩ := h
    rw [List.reverse_cons, List.reverse_cons]
    exact (Reps.rev h3).app (reps_one h2)
theorem Reps.set (a : Rep M H d v) : ∀ (i : Nat) {ds : List D} {vs : List V}, Reps M H ds vs → Reps M H (ds.set i d) (vs.set i v)
  | i, [], vs, h => by
    simp only [Reps] at h
    subst h
    exact reps_nil
  | 0, e :: ds, vs, h => by
    simp only [Reps] at h
    obtain ⟨w, r, rfl, h2, h3⟩ := h
    exact reps_cons a h3
  | i + 1, e :: ds, vs, h => by
    simp only [Reps] at h
    obtain ⟨w, r, rfl, h2, h3⟩ := h
    exact reps_cons h2 (Reps.set a i h3)
theorem Reps.dropLast (h : Reps M H ds vs) : Reps M H ds.dropLast vs.dropLast := by
  rw [List.dropLast_eq_take, List.dropLast_eq_take, h.len]
  exact h.take _
theorem Reps.flat (h : Reps M H ds vs) : ∀ k : Nat, Reps M H (List.replicate k ds).flatten (List.replicate k vs).flatten
  | 0 => reps_nil
  | k + 1 => by
    rw [List.replicate_succ, List.replicate_succ, List.flatten_cons, List.flatten_cons]
    exact h.app (Reps.flat h k)
/-- plain data has one value -/
theorem reps_map {α : Type} {f : α → D} {g : α → V} (hf : ∀ a, Rep M H (f a) (g a)) : ∀ l : List α, Reps M H (l.map f) (l.map g)
  | [] => reps_nil
  | a :: l => reps_cons (hf a) (reps_map hf l)
theorem reps_map_eq {α : Type} {f : α → D} {g : α → V} (hf : ∀ a v, Rep M H (f a) v → v = g a) : ∀ (l : List α) {vs : List V}, Reps M H (l.map f) vs → vs = l.map g
  | [], vs, h => by simpa only [List.map_nil, Reps] using h
  | a :: l, vs, h => by
    simp only [List.map_cons, Reps] at h
    obtain ⟨v, r, rfl, h2, h3⟩ := h
    rw [hf a v h2, reps_map_eq hf l h3, List.map_cons]
end

/-! ### slots -/
abbrev Rho := List (Option D)
def Slots (M : AP) (H : Hp) : Rho → L2.St → Prop
  | [], σ => σ = []
  | none :: r, σ => ∃ x s, σ = x :: s ∧ Slots M H r s
  | some d :: r, σ => ∃ v s, σ = some v :: s ∧ Rep M H d v ∧ Slots M H r s
theorem Slots.tr {M M' : AP} {H H' : Hp} (t : Tr M H M' H') : ∀ (r : Rho) (σ : L2.St), Slots M H r σ → Slots M' H' r σ
  | [], σ, h => h
  | none :: r, σ, h => by
    obtain ⟨x, s, h1, h2⟩ := h
    exact ⟨x, s, h1, Slots.tr t r s h2⟩
  | some d :: r, σ, h => by
    obtain ⟨v, s, h1, h2, h3⟩ := h
    exact ⟨v, s, h1, Rep.tr t d v h2, Slots.tr t r s h3⟩
section
variable {M : AP} {H : Hp}
theorem Slots.get : ∀ {r : Rho} {σ : L2.St} {i : Nat} {d : D}, Slots M H r σ → r[i]? = some (some d) → ∃ v, σ[i]? = some (some v) ∧ Rep M H d v
  | [], σ, i, d, h, e => by simp at e
  | none :: r, σ, 0, d, h, e => by simp at e
  | none :: r, σ, i + 1, d, h, e => by
    obtain ⟨x, s, rfl, h2⟩ := h
    obtain ⟨v, h3, h4⟩ := Slots.get (i := i) h2 (by simpa using e)
    exact ⟨v, by simpa using h3, h4⟩
  | some d' :: r, σ, 0, d, h, e => by
    obtain ⟨v, s, rfl, h2, h3⟩ := h
    simp at e
    subst e
    exact ⟨v, rfl, h2⟩
  | some d' :: r, σ, i + 1, d, h, e => by
    obtain ⟨v, s, rfl, h2, h3⟩ := h
    obtain ⟨w, h4, h5⟩ := Slots.get (i := i) h3 (by simpa using e)
    exact ⟨w, by simpa using h4, h5⟩
theorem Slots.set {d : D} {v : V} (a : Rep M H d v) : ∀ {r : Rho} {σ : L2.St} (i : Nat), Slots M H r σ → Slots M H (r.set i (some d)) (σ.set i (some v))
  | [], σ, i, h => by
    obtain rfl : σ = [] := h
    rfl
  | none :: r, σ, 0, h => by
    obtain ⟨x, s, rfl, h2⟩ := h
    exact ⟨v, s, rfl, a, h2⟩
  | none :: r, σ, i + 1, h => by
    obtain ⟨x, s, rfl, h2⟩ := h
    exact ⟨x, s.set i (some v), rfl, Slots.set a i h2⟩
  | some d' :: r, σ, 0, h => by
    obtain ⟨w, s, rfl, h2, h3⟩ := h
    exact ⟨v, s, rfl, a, h3⟩
  | some d' :: r, σ, i + 1, h => by
    obtain ⟨w, s, rfl, h2, h3⟩ := h
    exact ⟨w, s.set i (some v), rfl, h2, Slots.set a i h3⟩
/-- a slot forgotten, or emptied -/
theorem Slots.clear {x : Option V} : ∀ {r : Rho} {σ : L2.St} (i : Nat), Slots M H r σ → Slots M H (r.set i none) (σ.set i x)
  | [], σ, i, h => by
    obtain rfl : σ = [] := h
    rfl
  | none :: r, σ, 0, h => by
    obtain ⟨y, s, rfl, h2⟩ := h
    exact ⟨x, s, rfl, h2⟩
  | none :: r, σ, i + 1, h => by
    obtain ⟨y, s, rfl, h2⟩ := h
    exact ⟨y, s.set i x, rfl, Slots.clear i h2⟩
  | some d' :: r, σ, 0, h => by
    obtain ⟨w, s, rfl, h2, h3⟩ := h
    exact ⟨x, s, rfl, h3⟩
  | some d' :: r, σ, i + 1, h => by
    obtain ⟨w, s, rfl, h2, h3⟩ := h
    exact ⟨w, s.set i x, rfl, h2, Slots.clear i h3⟩
theorem Slots.forget : ∀ {r : Rho} {σ : L2.St} (i : Nat), Slots M H r σ → Slots M H (r.set i none) σ
  | [], σ, i, h => h
  | none :: r, σ, 0, h => h
  | none :: r, σ, i + 1, h => by
    obtain ⟨y, s, rfl, h2⟩ := h
    exact ⟨y, s, rfl, Slots.forget i h2⟩
  | some d' :: r, σ, 0, h => by
    obtain ⟨w, s, rfl, h2, h3⟩ := h
    exact ⟨some w, s, rfl, h3⟩
  | some d' :: r, σ, i + 1, h => by
    obtain ⟨w, s, rfl, h2, h3⟩ := h
    exact ⟨w, s, rfl, h2, Slots.forget i h3⟩
theorem slots_none : ∀ n : Nat, Slots M H (List.replicate n none) (List.replicate n none)
  | 0 => rfl
  | n + 1 => ⟨none, _, rfl, slots_none n⟩
theorem slots_args : ∀ {ds : List D} {vs : List V} (n : Nat), Reps M H ds vs → Slots M H (ds.map some ++ List.replicate n none) (vs.map some ++ List.replicate n none)
  | [], vs, n, h => by
    simp only [Reps] at h
    subst h
    exact slots_none n
  | d :: ds, vs, n, h => by
    simp only [Reps] at h
    obtain ⟨v, r, rfl, h2, h3⟩ := h
    exact ⟨v, _, rfl, h2, slots_args n h3⟩
end
end DL
set_option maxHeartbeats 200000
/-! K50B: mutable cells, what is lifted to data -/
namespace DL
open PySem PySem.Spec PyProof.Rows L2

inductive DO where
  | lst (ds : List D)
  | ins (C : Addr) (ns : List Str) (ds : List D)
  | dic (ks : List Str) (ds : List D)
abbrev Mu := List (Addr × DO)
def dom (mu : Mu) : List Addr := mu.map (·.1)
def mget : Mu → Addr → Option DO
  | [], _ => none
  | (b, o) :: r, a => if b = a then some o else mget r a
def mput : Mu → Addr → DO → Mu
  | [], _, _ => []
  | (b, u) :: r, a, o => if b = a then (b, o) :: r else (b, u) :: mput r a o
def mdel : Mu → Addr → Mu
  | [], _ => []
  | (b, u) :: r, a => if b = a then mdel r a else (b, u) :: mdel r a
def U (M0 : AP) (mu : Mu) : AP := fun a => M0 a ∨ a ∈ dom mu

theorem mget_dom : ∀ {mu : Mu} {a : Addr} {o : DO}, mget mu a = some o → a ∈ dom mu
  | [], a, o, h => by cases h
  | (b, u) :: r, a, o, h => by
    unfold mget at h
    by_cases e : b = a
    · rw [e]
      exact List.mem_cons_self
    · rw [if_neg e] at h
      exact List.mem_cons_of_mem _ (mget_dom h)
theorem dom_mget : ∀ {mu : Mu} {a : Addr}, a ∈ dom mu → ∃ o, mget mu a = some o
  | [], a, h => by cases h
  | (b, u) :: r, a, h => by
    unfold mget
    by_cases e : b = a
    · exact ⟨u, if_pos e⟩
    · rw [if_neg e]
      rcases List.mem_cons.mp h with q | q
      · exact absurd q.symm e
      · exact dom_mget q
theorem dom_mput : ∀ (mu : Mu) (a : Addr) (o : DO), dom (mput mu a o) = dom mu
  | [], a, o => rfl
  | (b, u) :: r, a, o => by
    unfold mput
    by_cases e : b = a
    · rw [if_pos e]; rfl
    · rw [if_neg e]
      show b :: dom (mput r a o) = b :: dom r
      rw [dom_mput r a o]
theorem get_put_same : ∀ {mu : Mu} {a : Addr} {o u : DO}, mget mu a = some u → mget (mput mu a o) a = some o
  | [], a, o, u, h => by cases h
  | (b, w) :: r, a, o, u, h => by
    unfold mget at h
    unfold mput
    by_cases e : b = a
    · rw [if_pos e]
      unfold mget
      rw [if_pos e]
    · rw [if_neg e] at h ⊢
      unfold mget
      rw [if_neg e]
      exact get_put_same h
theorem get_put_ne : ∀ {mu : Mu} {a c : Addr} {o : DO}, c ≠ a → mget (mput mu a o) c = mget mu c
  | [], a, c, o, h => rfl
  | (b, w) :: r, a, c, o, h => by
    unfold mput
    by_cases e : b = a
    · rw [if_pos e]
      unfold mget
      rw [if_neg (fun q => h (q.symm.trans e)), if_neg (fun q => h (q.symm.trans e))]
    · rw [if_neg e]
      unfold mget
      rw [get_put_ne (mu := r) h]
theorem put_put : ∀ {mu : Mu} {a : Addr} {o u : DO}, mput (mput mu a o) a u = mput mu a u
  | [], a, o, u => rfl
  | (b, w) :: r, a, o, u => by
    show mput (if b = a then (b, o) :: r else (b, w) :: mput r a o) a u = (if b = a then (b, u) :: r else (b, w) :: mput r a u)
    by_cases e : b = a
    · rw [if_pos e, if_pos e]
      show (if b = a then (b, u) :: r else (b, o) :: mput r a u) = _
      rw [if_pos e]
    · rw [if_neg e, if_neg e]
      show (if b = a then (b, u) :: mput r a o else (b, w) :: mput (mput r a o) a u) = _
      rw [if_neg e, put_put]
theorem mget_top {mu : Mu} {a : Addr} {o : DO} : mget ((a, o) :: mu) a = some o := by
  unfold mget
  rw [if_pos rfl]
theorem mget_next {mu : Mu} {a b : Addr} {o : DO} (h : b ≠ a) : mget ((b, o) :: mu) a = mget mu a := by
  show (if b = a then some o else mget mu a) = _
  rw [if_neg h]
theorem mput_top {mu : Mu} {a : Addr} {o u : DO} : mput ((a, o) :: mu) a u = (a, u) :: mu := by
  unfold mput
  rw [if_pos rfl]
theorem mput_next {mu : Mu} {a b : Addr} {o u : DO} (h : b ≠ a) : mput ((b, o) :: mu) a u = (b, o) :: mput mu a u := by
  show (if b = a then (b, u) :: mu else (b, o) :: mput mu a u) = _
  rw [if_neg h]
theorem mdel_not : ∀ {mu : Mu} {a : Addr}, a ∉ dom mu → mdel mu a = mu
  | [], a, h => rfl
  | (b, u) :: r, a, h => by
    unfold mdel
    rw [if_neg (fun e => h (by rw [e]; exact List.mem_cons_self)), mdel_not (fun q => h (List.mem_cons_of_mem _ q))]
theorem mdel_top {mu : Mu} {a : Addr} {o : DO} (h : a ∉ dom mu) : mdel ((a, o) :: mu) a = mu := by
  show (if a = a then mdel mu a else (a, o) :: mdel mu a) = mu
  rw [if_pos rfl, mdel_not h]
theorem dom_mdel : ∀ {mu : Mu} {a b : Addr}, b ∈ dom (mdel mu a) → b ∈ dom mu ∧ b ≠ a
  | [], a, b, h => by cases h
  | (c, u) :: r, a, b, h => by
    unfold mdel at h
    by_cases e : c = a
    · rw [if_pos e] at h
      exact ⟨List.mem_cons_of_mem _ (dom_mdel h).1, (dom_mdel h).2⟩
    · rw [if_neg e] at h
      rcases List.mem_cons.mp h with q | q
      · subst q
        exact ⟨List.mem_cons_self, e⟩
      · exact ⟨List.mem_cons_of_mem _ (dom_mdel q).1, (dom_mdel q).2⟩
theorem dom_mdel_of : ∀ {mu : Mu} {a b : Addr}, b ∈ dom mu → b ≠ a → b ∈ dom (mdel mu a)
  | [], a, b, h, n => by cases h
  | (c, u) :: r, a, b, h, n => by
    unfold mdel
    by_cases e : c = a
    · rw [if_pos e]
      rcases List.mem_cons.mp h with q | q
      · exact absurd (q.trans e) n
      · exact dom_mdel_of q n
    · rw [if_neg e]
      rcases List.mem_cons.mp h with q | q
      · exact q ▸ List.mem_cons_self
      · exact List.mem_cons_of_mem _ (dom_mdel_of q n)
theorem nodup_mdel : ∀ {mu : Mu} {a : Addr}, (dom mu).Nodup → (dom (mdel mu a)).Nodup
  | [], a, h => h
  | (c, u) :: r, a, h => by
    have h' := List.nodup_cons.mp (show (c :: dom r).Nodup from h)
    unfold mdel
    by_cases e : c = a
    · rw [if_pos e]
      exact nodup_mdel h'.2
    · rw [if_neg e]
      exact List.nodup_cons.mpr ⟨fun q => h'.1 (dom_mdel q).1, nodup_mdel h'.2⟩
theorem get_mdel : ∀ {mu : Mu} {a b : Addr}, b ≠ a → mget (mdel mu a) b = mget mu b
  | [], a, b, h => rfl
  | (c, u) :: r, a, b, h => by
    unfold mdel
    by_cases e : c = a
    · rw [if_pos e, get_mdel h]
      show _ = if c = b then some u else mget r b
      rw [if_neg (fun q => h (q.symm.trans e))]
    · rw [if_neg e]
      unfold mget
      rw [get_mdel h]

def CellOk (M : AP) (H : Hp) (a : Addr) : DO → Prop
  | .lst ds => ∃ vs, H a = some (.lst vs) ∧ Reps M H ds vs
  | .ins C ns ds => ∃ dx vs, H a = some (.ins C dx (ns.zip vs)) ∧ ns.length = ds.length ∧ Reps M H ds vs
  | .dic ks ds => ∃ vs, H a = some (.dK ((ks.map fun k => (Sum.inr k : Key)).zip vs)) ∧ (ks.length = ds.length ∧ ks.Nodup) ∧ Reps M H ds vs
structure Ok (M0 : AP) (mu : Mu) (H : Hp) : Prop where
  nd : (dom mu).Nodup
  live : ∀ a, U M0 mu a → ∃ o, H a = some o
  cell : ∀ a o, mget mu a = some o → CellOk (U M0 mu) H a o
structure Ext (mu : Mu) (H : Hp) (mu' : Mu) (H' : Hp) : Prop where
  keep : ∀ a o, a ∉ dom mu → H a = some o → H' a = some o
  new : ∀ a, a ∈ dom mu' → a ∈ dom mu ∨ H a = none
  alive : ∀ a o, H a = some o → ∃ o', H' a = some o'
theorem Ext.refl (mu : Mu) (H : Hp) : Ext mu H mu H := ⟨fun _ _ _ h => h, fun _ h => .inl h, fun _ o h => ⟨o, h⟩⟩
theorem Ext.trans {mu mu1 mu2 : Mu} {H H1 H2 : Hp} (a : Ext mu H mu1 H1) (b : Ext mu1 H1 mu2 H2) : Ext mu H mu2 H2 where
  keep := fun x o h1 h2 => b.keep x o (fun q => by
    rcases a.new x q with z | z
    · exact h1 z
    · rw [h2] at z; cases z) (a.keep x o h1 h2)
  new := fun x h => by
    rcases b.new x h with z | z
    · exact a.new x z
    · right
      cases e : H x with
      | none => rfl
      | some o =>
        obtain ⟨o', e'⟩ := a.alive x o e
        rw [z] at e'; cases e'
  alive := fun x o h => by
    obtain ⟨o1, h1⟩ := a.alive x o h
    exact b.alive x o1 h1
theorem Ext.tr {M0 : AP} {mu mu' : Mu} {H H' : Hp} (e : Ext mu H mu' H') : Tr (U M0 mu) H (U M0 mu') H' := by
  intro a o h1 h2
  refine ⟨fun q => ?_, e.keep a o (fun q => h1 (.inr q)) h2⟩
  rcases q with q | q
  · exact h1 (.inl q)
  · rcases e.new a q with z | z
    · exact h1 (.inr z)
    · rw [h2] at z; cases z
theorem Ext.live {M0 : AP} {mu mu' : Mu} {H H' : Hp} (e : Ext mu H mu' H') (h : ∀ a, M0 a → ∃ o, H a = some o) : ∀ a, M0 a → ∃ o, H' a = some o := fun a ha =>
  let ⟨o, q⟩ := h a ha
  e.alive a o q
theorem CellOk.tr {M M' : AP} {H H' : Hp} {a : Addr} {o : DO} (t : Tr M H M' H') (ha : H' a = H a) (h : CellOk M H a o) : CellOk M' H' a o := by
  cases o with
  | lst ds =>
    obtain ⟨vs, h1, h2⟩ := h
    exact ⟨vs, ha.trans h1, Reps.tr t _ _ h2⟩
  | ins C ns ds =>
    obtain ⟨dx, vs, h1, h3, h2⟩ := h
    exact ⟨dx, vs, ha.trans h1, h3, Reps.tr t _ _ h2⟩
  | dic ks ds =>
    obtain ⟨vs, h1, h3, h2⟩ := h
    exact ⟨vs, ha.trans h1, h3, Reps.tr t _ _ h2⟩

section
variable {M0 : AP} {mu : Mu} {H : Hp}
theorem Ok.fresh (h : Ok M0 mu H) {p : Addr} (hp : H p = none) : ¬ U M0 mu p := fun q => by
  obtain ⟨o, e⟩ := h.live p q
  rw [hp] at e; cases e
/-- a new frozen object -/
theorem ext_new {p : Addr} {o : HO} (hp : H p = none) : Ext mu H mu (upd H p o) where
  keep := fun a u _ h => by rw [upd_ne (ne_of_none h hp)]; exact h
  new := fun _ h => .inl h
  alive := fun a u h => ⟨u, by rw [upd_ne (ne_of_none h hp)]; exact h⟩
theorem Ok.ext0 {H' : Hp} (h : Ok M0 mu H) (e : Ext mu H mu H') (hk : ∀ a, a ∈ dom mu → H' a = H a) : Ok M0 mu H' where
  nd := h.nd
  live := fun a ha => let ⟨o, q⟩ := h.live a ha; e.alive a o q
  cell := fun a o q => (h.cell a o q).tr e.tr (hk a (mget_dom q))
theorem Ok.new (h : Ok M0 mu H) {p : Addr} {o : HO} (hp : H p = none) : Ok M0 mu (upd H p o) := h.ext0 (ext_new hp) fun a ha => upd_ne fun q => h.fresh hp (.inr (q ▸ ha))
/-- a cell is written -/
theorem ext_put {a : Addr} {o : HO} {u : DO} (ha : a ∈ dom mu) : Ext mu H (mput mu a u) (upd H a o) where
  keep := fun b v hb h => by rw [upd_ne fun q => hb (by rw [q]; exact ha)]; exact h
  new := fun b h => .inl (by rw [dom_mput] at h; exact h)
  alive := fun b v h => by
    by_cases q : b = a
    · exact ⟨o, by rw [q]; exact upd_same⟩
    · exact ⟨v, by rw [upd_ne q]; exact h⟩
theorem U_put {a : Addr} {u : DO} : U M0 (mput mu a u) = U M0 mu := by
  funext b
  unfold U
  rw [dom_mput]
theorem Ok.put (h : Ok M0 mu H) {a : Addr} {o : HO} {u : DO} (ha : a ∈ dom mu) (hc : CellOk (U M0 mu) (upd H a o) a u) : Ok M0 (mput mu a u) (upd H a o) where
  nd := by rw [dom_mput]; exact h.nd
  live := fun b hb => by
    rw [U_put] at hb
    obtain ⟨v, e⟩ := h.live b hb
    exact (ext_put (u := u) ha).alive b v e
  cell := fun b w q => by
    obtain ⟨w0, q0⟩ := dom_mget ha
    rw [U_put]
    by_cases e : b = a
    · subst e
      rw [get_put_same q0] at q
      cases q
      exact hc
    · rw [get_put_ne e] at q
      have t := (ext_put (H := H) (o := o) (u := u) ha).tr (M0 := M0)
      rw [U_put] at t
      exact (h.cell b w q).tr t (upd_ne e)
/-- a new cell -/
theorem ext_cell {p : Addr} {o : HO} {u : DO} (hp : H p = none) : Ext mu H ((p, u) :: mu) (upd H p o) where
  keep := fun a v _ h => by rw [upd_ne (ne_of_none h hp)]; exact h
  new := fun a h => by
    rcases List.mem_cons.mp (show a ∈ p :: dom mu from h) with q | q
    · exact .inr (by rw [q]; exact hp)
    · exact .inl q
  alive := fun a v h => ⟨v, by rw [upd_ne (ne_of_none h hp)]; exact h⟩
theorem Ok.newcell (h : Ok M0 mu H) {p : Addr} {o : HO} {u : DO} (hp : H p = none) (hc : CellOk (U M0 ((p, u) :: mu)) (upd H p o) p u) : Ok M0 ((p, u) :: mu) (upd H p o) where
  nd := List.nodup_cons.mpr ⟨fun q => h.fresh hp (.inr q), h.nd⟩
  live := fun a ha => by
    by_cases e : a = p
    · exact ⟨o, by rw [e]; exact upd_same⟩
    · rcases ha with q | q
      · obtain ⟨v, z⟩ := h.live a (.inl q)
        exact ⟨v, by rw [upd_ne e]; exact z⟩
      · rcases List.mem_cons.mp (show a ∈ p :: dom mu from q) with q | q
        · exact absurd q e
        · obtain ⟨v, z⟩ := h.live a (.inr q)
          exact ⟨v, by rw [upd_ne e]; exact z⟩
  cell := fun b w q => by
    by_cases e : b = p
    · subst e
      rw [mget_top] at q
      cases q
      exact hc
    · rw [mget_next (Ne.symm e)] at q
      exact (h.cell b w q).tr (ext_cell hp).tr (upd_ne e)
theorem U_del {a : Addr} (hm : ¬ M0 a) : ∀ b, U M0 (mdel mu a) b → U M0 mu b ∧ b ≠ a := fun b h => by
  rcases h with q | q
  · exact ⟨.inl q, fun e => hm (e ▸ q)⟩
  · exact ⟨.inr (dom_mdel q).1, (dom_mdel q).2⟩
theorem tr_del {a : Addr} (hm : ¬ M0 a) : Tr (U M0 mu) H (U M0 (mdel mu a)) H := fun b o h1 h2 => ⟨fun q => h1 (U_del hm b q).1, h2⟩
/-- a cell frozen -/
theorem Ok.del (h : Ok M0 mu H) {a : Addr} (hm : ¬ M0 a) : Ok M0 (mdel mu a) H where
  nd := nodup_mdel h.nd
  live := fun b hb => h.live b (U_del hm b hb).1
  cell := fun b w q => by
    have hb : b ≠ a := (dom_mdel (mget_dom q)).2
    rw [get_mdel hb] at q
    exact (h.cell b w q).tr (tr_del hm) rfl
def frz : DO → Option D
  | .lst ds => some (.lst ds)
  | .ins C ns ds => some (.ins C ns ds)
  | .dic _ _ => none
theorem Ok.frz (h : Ok M0 mu H) {a : Addr} {u : DO} {d : D} (hm : ¬ M0 a) (q : mget mu a = some u) (hf : frz u = some d) : Rep (U M0 (mdel mu a)) H d (.ref a) := by
  have na : ¬ U M0 (mdel mu a) a := fun z => (U_del hm a z).2 rfl
  have c := h.cell a u q
  cases u with
  | lst ds =>
    cases hf
    obtain ⟨vs, h1, h2⟩ := c
    simp only [Rep]
    exact ⟨a, vs, rfl, na, h1, Reps.tr (tr_del hm) _ _ h2⟩
  | ins C ns ds =>
    cases hf
    obtain ⟨dx, vs, h1, h3, h2⟩ := c
    simp only [Rep]
    exact ⟨a, dx, vs, rfl, na, h1, h3, Reps.tr (tr_del hm) _ _ h2⟩
  | dic ks ds => cases hf
theorem ext_del {mu' : Mu} {H' : Hp} {a : Addr} (e : Ext mu H mu' H') : Ext mu H (mdel mu' a) H' := ⟨e.keep, fun b hb => e.new b (dom_mdel hb).1, e.alive⟩
end

structure At (M0 : AP) (mu : Mu) (rho : Rho) (σ : L2.St) (H : Hp) : Prop where
  ok : Ok M0 mu H
  sl : Slots (U M0 mu) H rho σ
theorem At.to {M0 : AP} {mu mu' : Mu} {rho : Rho} {σ : L2.St} {H H' : Hp} (a : At M0 mu rho σ H) (o : Ok M0 mu' H') (e : Ext mu H mu' H') : At M0 mu' rho σ H' := ⟨o, a.sl.tr e.tr⟩
theorem At.set {M0 : AP} {mu : Mu} {rho : Rho} {σ : L2.St} {H : Hp} {d : D} {v : V} (a : At M0 mu rho σ H) (i : Nat) (r : Rep (U M0 mu) H d v) : At M0 mu (rho.set i (some d)) (σ.set i (some v)) H := ⟨a.ok, a.sl.set r i⟩

/-! ### readings over data -/
abbrev PD := D → Mu → Prop
abbrev DE := Rho → Mu → PD → Prop
abbrev DT := Rho → Mu → (Bool → Mu → Prop) → Prop
abbrev DA := Rho → Mu → (List D → Mu → Prop) → Prop
abbrev DOp := Rho → Mu → (Option Int → Mu → Prop) → Prop
abbrev DR := Mu → List D → PD → Prop
abbrev D2 := D → D → Mu → PD → Prop
structure DEnds where
  mu0 : Mu
  nx : Rho → Mu → Prop
  rt : D → Mu → Prop
  bk : Rho → Mu → Prop
  ct : Rho → Mu → Prop
abbrev DS := DEnds → Rho → Mu → Prop

def LE (te : TE) (de : DE) : Prop := ∀ (M0 : AP) (mu : Mu) (rho : Rho) (σ : L2.St) (H : Hp) (P : PD) (Q : VK), At M0 mu rho σ H → de rho mu P →
  (∀ d mu' v H', P d mu' → Ok M0 mu' H' → Ext mu H mu' H' → Rep (U M0 mu') H' d v → Q v H') → te σ H Q
def LT (tt : TT) (dt : DT) : Prop := ∀ (M0 : AP) (mu : Mu) (rho : Rho) (σ : L2.St) (H : Hp) (P : Bool → Mu → Prop) (Q : Bool → Hp → Prop), At M0 mu rho σ H → dt rho mu P →
  (∀ b mu' H', P b mu' → Ok M0 mu' H' → Ext mu H mu' H' → Q b H') → tt σ H Q
def LA (ta : TA) (da : DA) : Prop := ∀ (M0 : AP) (mu : Mu) (rho : Rho) (σ : L2.St) (H : Hp) (P : List D → Mu → Prop) (Q : List V → Hp → Prop), At M0 mu rho σ H → da rho mu P →
  (∀ ds mu' vs H', P ds mu' → Ok M0 mu' H' → Ext mu H mu' H' → Reps (U M0 mu') H' ds vs → Q vs H') → ta σ H Q
def LO (to : TO) (dop : DOp) : Prop := ∀ (M0 : AP) (mu : Mu) (rho : Rho) (σ : L2.St) (H : Hp) (P : Option Int → Mu → Prop) (Q : Option Int → Hp → Prop), At M0 mu rho σ H → dop rho mu P →
  (∀ o mu' H', P o mu' → Ok M0 mu' H' → Ext mu H mu' H' → Q o H') → to σ H Q
def L2R (r : R2) (dr : D2) : Prop := ∀ (M0 : AP) (mu : Mu) (H : Hp) (x y : D) (v w : V) (P : PD) (Q : VK), Ok M0 mu H → Rep (U M0 mu) H x v → Rep (U M0 mu) H y w → dr x y mu P →
  (∀ d mu' u H', P d mu' → Ok M0 mu' H' → Ext mu H mu' H' → Rep (U M0 mu') H' d u → Q u H') → r v w H Q
def LCR (r : List V → Hp → VK → Prop) (dr : DR) : Prop := ∀ (M0 : AP) (mu : Mu) (H : Hp) (ds : List D) (vs : List V) (P : PD) (Q : VK), Ok M0 mu H → Reps (U M0 mu) H ds vs → dr mu ds P →
  (∀ d mu' u H', P d mu' → Ok M0 mu' H' → Ext mu H mu' H' → Rep (U M0 mu') H' d u → Q u H') → r vs H Q
/-- H0, D.mu0: the def's entry; Hs, ms: since when the loop goes -/
structure Lf (M0 : AP) (H0 : Hp) (ms : Mu) (Hs : Hp) (E : Ends) (D : DEnds) : Prop where
  live : ∀ a, U M0 D.mu0 a → ∃ o, H0 a = some o
  nx : ∀ rho mu σ H, At M0 mu rho σ H → Ext D.mu0 H0 mu H → Ext ms Hs mu H → D.nx rho mu → E.nx σ H
  rt : ∀ d mu v H, Ok M0 mu H → Ext D.mu0 H0 mu H → Ext ms Hs mu H → Rep (U M0 mu) H d v → D.rt d mu → E.rt v H
  bk : ∀ rho mu σ H, At M0 mu rho σ H → Ext D.mu0 H0 mu H → Ext ms Hs mu H → D.bk rho mu → E.bk σ H
  ct : ∀ rho mu σ H, At M0 mu rho σ H → Ext D.mu0 H0 mu H → Ext ms Hs mu H → D.ct rho mu → E.ct σ H
def LS (ts : TS) (ds : DS) : Prop := ∀ (M0 : AP) (H0 : Hp) (ms : Mu) (Hs : Hp) (E : Ends) (D : DEnds), Lf M0 H0 ms Hs E D → ∀ rho mu σ H, At M0 mu rho σ H → Ext D.mu0 H0 mu H → Ext ms Hs mu H → ds D rho mu → ts E σ H

structure PEd (X : Cx) (e : Expr) (te : TE) (de : DE) : Prop where
  pe : PE X e te
  le : LE te de
structure PTd (X : Cx) (e : Expr) (tt : TT) (dt : DT) : Prop where
  pe : PT X e tt
  le : LT tt dt
structure PWd (X : Cx) (e : Expr) (tt : TT) (dt : DT) : Prop where
  pe : PW X e tt
  le : LT tt dt
structure PTsd (X : Cx) (es : List Expr) (tt : TT) (dt : DT) : Prop where
  pe : PTs X es tt
  le : LT tt dt
structure PAd (X : Cx) (es : List Expr) (ta : TA) (da : DA) : Prop where
  pe : PA X es ta
  le : LA ta da
structure POd (X : Cx) (e : Option Expr) (to : TO) (dop : DOp) : Prop where
  pe : PO X e to
  le : LO to dop
structure PSd (X : Cx) (st : Stmt) (ts : TS) (ds : DS) : Prop where
  pe : PS X st ts
  le : LS ts ds
structure PSsd (X : Cx) (st : List Stmt) (ts : TS) (ds : DS) : Prop where
  pe : PSs X st ts
  le : LS ts ds
structure OpRd (X : Cx) (f : Value → Value → Sem Value) (r : R2) (dr : D2) : Prop where
  pe : OpR X f r
  le : L2R r dr
structure CallRd (X : Cx) (f : Value) (r : List V → Hp → VK → Prop) (dr : DR) : Prop where
  pe : CallR X f r
  le : LCR r dr
/-- what a loop walks: the data, each as it comes, as long as what stood unchangeable stands -/
def Yld (M : AP) (H1 : Hp) (J : It) (ds : List D) : Prop := ∀ (M' : AP) (H' : Hp) (i : Nat), Tr M H1 M' H' →
  (∀ d, ds[i]? = some d → J.go i H' ∧ ∀ x H'', J.yld i H' x H'' → H'' = H' ∧ Rep M' H' d x) ∧ (ds.length ≤ i → J.stop i H')
def LI (wi : TI) (di : DA) : Prop := ∀ (M0 : AP) (mu : Mu) (rho : Rho) (σ : L2.St) (H : Hp) (P : List D → Mu → Prop) (R : It → Hp → Prop), At M0 mu rho σ H → di rho mu P →
  (∀ ds mu' J H', P ds mu' → Ok M0 mu' H' → Ext mu H mu' H' → Yld (U M0 mu') H' J ds → R J H') → wi σ H R
structure PId (X : Cx) (tg iter : Expr) (wi : TI) (di : DA) : Prop where
  pe : PI X tg iter wi
  le : LI wi di
end DL
set_option maxHeartbeats 200000
/-! K50C: the rules over data: names, constants, operators, tests, statements, loops -/
namespace DL
open PySem PySem.Spec PyProof.Rows L2

/-! ### names, constants, arguments -/
def dVar (i : Nat) : DE := fun rho mu P => match rho[i]? with
  | some (some d) => P d mu
  | _ => False
def dC (d : D) : DE := fun _ mu P => P d mu
theorem le_var (i : Nat) : LE (tVar i) (dVar i) := by
  intro M0 mu rho σ H P Q at_ h k
  unfold dVar at h
  split at h
  · rename_i d e
    obtain ⟨v, h1, h2⟩ := at_.sl.get e
    exact ⟨v, h1, k d mu v H h at_.ok (Ext.refl _ _) h2⟩
  · exact h.elim
def vOf : D → Option V
  | .non => some .non
  | .bl b => some (.bl b)
  | .int i => some (.int i)
  | .str x => some (.str x)
  | .obj a => some (.ref a)
  | .ty n => some (.ty n)
  | _ => none
theorem rep_of {M : AP} {H : Hp} {d : D} {v : V} (h : vOf d = some v) : Rep M H d v := by
  cases d <;> (try cases h) <;> simp only [Rep]
theorem rep_eq {M : AP} {H : Hp} {d : D} {v w : V} (h : vOf d = some v) (r : Rep M H d w) : w = v := by
  cases d <;> (try cases h) <;> simpa only [Rep] using r
theorem le_c {d : D} {v : V} (h : vOf d = some v) : LE (tC v) (dC d) := by
  intro M0 mu rho σ H P Q at_ hp k
  exact k d mu v H hp at_.ok (Ext.refl _ _) (rep_of h)
def dNil : DA := fun _ mu P => P [] mu
def dCons (de : DE) (da : DA) : DA := fun rho mu P => de rho mu fun d mu1 => da rho mu1 fun ds mu2 => P (d :: ds) mu2
theorem la_nil : LA tNil dNil := by
  intro M0 mu rho σ H P Q at_ h k
  exact k [] mu [] H h at_.ok (Ext.refl _ _) reps_nil
theorem la_cons {te : TE} {ta : TA} {de : DE} {da : DA} (h1 : LE te de) (h2 : LA ta da) : LA (tCons te ta) (dCons de da) := by
  intro M0 mu rho σ H P Q at_ h k
  refine h1 M0 mu rho σ H _ _ at_ h fun d mu1 v H1 hd o1 e1 r1 => ?_
  refine h2 M0 mu1 rho σ H1 _ _ (at_.to o1 e1) hd fun ds mu2 vs H2 hp o2 e2 r2 => ?_
  exact k (d :: ds) mu2 (v :: vs) H2 hp o2 (e1.trans e2) (reps_cons (Rep.tr e2.tr _ _ r1) r2)

section
variable {X : Cx} {e : Expr} {es : List Expr} {te : TE} {ta : TA} {de : DE} {da : DA} {pos p : Pos} {x : Str}
theorem dv (i : Nat) (hN : X.N[i]? = some x := by rfl) (hv : Vis X.env.scope x := by first | exact Or.inl rfl | exact Or.inr (Or.inl rfl) | exact Or.inr (Or.inr rfl)) (hd : (x == ("__debug__" : Str)) = false := by decide)
    (hcd : (x == ("__classdict__" : Str)) = false := by decide) : PEd X (.Name x pos) (tVar i) (dVar i) := ⟨pe_var hN hv hd hcd, le_var i⟩
theorem d_int {i j} : PEd X (.Constant (.int i) j pos) (tC (.int i)) (dC (.int i)) := ⟨pe_int, le_c rfl⟩
theorem d_bl {b j} : PEd X (.Constant (.bool b) j pos) (tC (.bl b)) (dC (.bl b)) := ⟨pe_bl, le_c rfl⟩
theorem d_non {j} : PEd X (.Constant .none j pos) (tC .non) (dC .non) := ⟨pe_non, le_c rfl⟩
theorem d_str {s j} : PEd X (.Constant (.str s) j pos) (tC (.str s)) (dC (.str s)) := ⟨pe_str, le_c rfl⟩
theorem d_glob {u : Value} {d : D} {v : V} (hg : Gl X x) (hm : X.mg x = some u) (r : RelV v u) (hv : vOf d = some v) (hn : x ≠ "__name__" := by decide) (hdb : (x == ("__debug__" : Str)) = false := by decide) : PEd X (.Name x pos) (tC v) (dC d) := ⟨by first | exact pe_glob hg hm r | exact pe_glob hg hm r hn hdb | exact pe_glob hg hm r hdb, le_c hv⟩
theorem d_ty {n : String} (hg : Gl X x) (hm : X.mg x = none) (hb : bootBuiltins x = some (.type n)) (hn : x ≠ "__name__" := by decide) (hdb : (x == ("__debug__" : Str)) = false := by decide) : PEd X (.Name x pos) (tC (.ty n)) (dC (.ty n)) := ⟨by first | exact pe_bltn hg hm hb rfl hn hdb | exact pe_bltn hg hm hb rfl hdb | exact pe_bltn hg hm hb rfl, le_c rfl⟩
theorem da_nil : PAd X [] tNil dNil := ⟨pa_nil, la_nil⟩
theorem da_cons (ha : PEd X e te de) (hr : PAd X es ta da) (hs : starEach (e :: es) X.env = (false, eval e X.env) :: starEach es X.env := by rfl) : PAd X (e :: es) (tCons te ta) (dCons de da) := ⟨pa_cons ha.pe hr.pe hs, la_cons ha.le hr.le⟩
end

/-! ### displays -/
def dTup (da : DA) : DE := fun rho mu P => da rho mu fun ds mu1 => ds.length ≤ 16000000 ∧ P (.tup ds) mu1
def dLst (da : DA) : DE := fun rho mu P => da rho mu fun ds mu1 => ds.length ≤ 16000000 ∧ P (.lst ds) mu1
def dLstM (da : DA) : DE := fun rho mu P => da rho mu fun ds mu1 => ds.length ≤ 16000000 ∧ ∀ p, p ∉ dom mu1 → P (.obj p) ((p, .lst ds) :: mu1)
theorem line_of {n : Nat} (h : n ≤ 16000000) : n ≤ sizeLine := Nat.le_trans h (by decide)
theorem line_lt {n : Nat} (h : n < 16000000) : n < sizeLine := Nat.lt_of_lt_of_le h (by decide)
section
variable {M0 : AP} {mu : Mu} {H : Hp} {ds : List D} {vs : List V} {p : Addr}
theorem new_tup (o : Ok M0 mu H) (r : Reps (U M0 mu) H ds vs) (hp : H p = none) : Rep (U M0 mu) (upd H p (.tup vs)) (.tup ds) (.ref p) := by
  simp only [Rep]
  exact ⟨p, vs, rfl, o.fresh hp, upd_same, Reps.tr (ext_new (mu := mu) hp).tr _ _ r⟩
theorem new_lst (o : Ok M0 mu H) (r : Reps (U M0 mu) H ds vs) (hp : H p = none) : Rep (U M0 mu) (upd H p (.lst vs)) (.lst ds) (.ref p) := by
  simp only [Rep]
  exact ⟨p, vs, rfl, o.fresh hp, upd_same, Reps.tr (ext_new (mu := mu) hp).tr _ _ r⟩
theorem new_lstM (o : Ok M0 mu H) (r : Reps (U M0 mu) H ds vs) (hp : H p = none) : Ok M0 ((p, .lst ds) :: mu) (upd H p (.lst vs)) :=
  o.newcell hp ⟨vs, upd_same, Reps.tr (ext_cell (mu := mu) hp).tr _ _ r⟩
theorem Ok.notdom (o : Ok M0 mu H) (hp : H p = none) : p ∉ dom mu := fun q => o.fresh hp (.inr q)
end
theorem le_tup {ta : TA} {da : DA} (h : LA ta da) : LE (tTup ta) (dTup da) := by
  intro M0 mu rho σ H P Q at_ hp k
  refine h M0 mu rho σ H _ _ at_ hp fun ds mu1 vs H1 hd o1 e1 r1 => ?_
  refine ⟨by rw [← r1.len]; exact line_of hd.1, fun p np => ?_⟩
  exact k _ mu1 _ _ hd.2 (o1.new np) (e1.trans (ext_new np)) (new_tup o1 r1 np)
theorem le_lst {ta : TA} {da : DA} (h : LA ta da) : LE (tLst ta) (dLst da) := by
  intro M0 mu rho σ H P Q at_ hp k
  refine h M0 mu rho σ H _ _ at_ hp fun ds mu1 vs H1 hd o1 e1 r1 => ?_
  refine ⟨by rw [← r1.len]; exact line_of hd.1, fun p np => ?_⟩
  exact k _ mu1 _ _ hd.2 (o1.new np) (e1.trans (ext_new np)) (new_lst o1 r1 np)
theorem le_lstM {ta : TA} {da : DA} (h : LA ta da) : LE (tLst ta) (dLstM da) := by
  intro M0 mu rho σ H P Q at_ hp k
  refine h M0 mu rho σ H _ _ at_ hp fun ds mu1 vs H1 hd o1 e1 r1 => ?_
  refine ⟨by rw [← r1.len]; exact line_of hd.1, fun p np => ?_⟩
  exact k _ _ _ _ (hd.2 p (o1.notdom np)) (new_lstM o1 r1 np) (e1.trans (ext_cell np)) (rep_of rfl)
section
variable {X : Cx} {es : List Expr} {ta : TA} {da : DA} {pos : Pos}
theorem d_tup {x1} (h : PAd X es ta da) : PEd X (.Tuple es x1 pos) (tTup ta) (dTup da) := ⟨pe_tup h.pe, le_tup h.le⟩
theorem d_lst (h : PAd X es ta da) : PEd X (.List es pos) (tLst ta) (dLst da) := ⟨pe_lst h.pe, le_lst h.le⟩
theorem d_lstM (h : PAd X es ta da) : PEd X (.List es pos) (tLst ta) (dLstM da) := ⟨pe_lst h.pe, le_lstM h.le⟩
end

/-! ### operators -/
def dOp (dr : D2) (da db : DE) : DE := fun rho mu P => da rho mu fun x mu1 => db rho mu1 fun y mu2 => dr x y mu2 P
theorem le_op {r : R2} {dr : D2} {ta tb : TE} {da db : DE} (hr : L2R r dr) (ha : LE ta da) (hb : LE tb db) : LE (tOp r ta tb) (dOp dr da db) := by
  intro M0 mu rho σ H P Q at_ h k
  refine ha M0 mu rho σ H _ _ at_ h fun x mu1 v H1 hd o1 e1 r1 => ?_
  refine hb M0 mu1 rho σ H1 _ _ (at_.to o1 e1) hd fun y mu2 w H2 hp o2 e2 r2 => ?_
  refine hr M0 mu2 H2 x y v w P Q o2 (Rep.tr e2.tr _ _ r1) r2 hp fun d mu3 u H3 hq o3 e3 r3 => ?_
  exact k d mu3 u H3 hq o3 ((e1.trans e2).trans e3) r3
/-- an answer that changes nothing -/
theorem l2_pure {r : R2} {dr : D2} (h : ∀ (M0 : AP) (mu : Mu) (H : Hp) (x y : D) (v w : V) (P : PD) (Q : VK), Ok M0 mu H → Rep (U M0 mu) H x v → Rep (U M0 mu) H y w → dr x y mu P →
    (∀ d u, P d mu → Rep (U M0 mu) H d u → Q u H) → r v w H Q) : L2R r dr := by
  intro M0 mu H x y v w P Q o rx ry hp k
  exact h M0 mu H x y v w P Q o rx ry hp fun d u hd r => k d mu u H hd o (Ext.refl _ _) r
def i2 (f : Int → Int → D) : D2 := fun x y mu P => match x, y with
  | .int i, .int j => P (f i j) mu
  | _, _ => False
def i2c (C : Int → Int → Prop) (f : Int → Int → D) : D2 := fun x y mu P => match x, y with
  | .int i, .int j => C i j ∧ P (f i j) mu
  | _, _ => False
theorem l2_i0 {g : Int → Int → V} {f : Int → Int → D} (hv : ∀ i j, vOf (f i j) = some (g i j)) : L2R (rI0 g) (i2 f) := by
  refine l2_pure fun M0 mu H x y v w P Q o rx ry hp k => ?_
  unfold i2 at hp
  split at hp
  · rename_i i j
    obtain rfl := rep_eq rfl rx
    obtain rfl := rep_eq rfl ry
    exact ⟨i, j, rfl, rfl, k _ _ hp (rep_of (hv i j))⟩
  · exact hp.elim
theorem l2_i {C : Int → Int → Prop} {g : Int → Int → V} {f : Int → Int → D} (hv : ∀ i j, vOf (f i j) = some (g i j)) : L2R (rI C g) (i2c C f) := by
  refine l2_pure fun M0 mu H x y v w P Q o rx ry hp k => ?_
  unfold i2c at hp
  split at hp
  · rename_i i j
    obtain rfl := rep_eq rfl rx
    obtain rfl := rep_eq rfl ry
    exact ⟨i, j, rfl, rfl, hp.1, k _ _ hp.2 (rep_of (hv i j))⟩
  · exact hp.elim
section
variable {X : Cx} {a b : Expr} {ta tb : TE} {da db : DE} {pos : Pos}
theorem d_op {op : Operator} {r : R2} {dr : D2} (ho : OpRd X (binaryOp op) r dr) (ha : PEd X a ta da) (hb : PEd X b tb db) : PEd X (.BinOp a op b pos) (tOp r ta tb) (dOp dr da db) := ⟨pe_op ho.pe ha.pe hb.pe, le_op ho.le ha.le hb.le⟩
theorem d_cmp {op : CmpOp} {r : R2} {dr : D2} (ho : OpRd X (compareOp op) r dr) (ha : PEd X a ta da) (hb : PEd X b tb db) (hm : behindInMarks op b = false := by first | exact nomark _ | rfl) : PEd X (.Compare a [op] [b] pos) (tOp r ta tb) (dOp dr da db) := ⟨pe_cmpR ho.pe ha.pe hb.pe hm, le_op ho.le ha.le hb.le⟩
theorem o_add : OpRd X (binaryOp .Add) (rI0 fun i j => .int (i + j)) (i2 fun i j => .int (i + j)) := ⟨op_add, l2_i0 fun _ _ => rfl⟩
theorem o_sub : OpRd X (binaryOp .Sub) (rI0 fun i j => .int (i - j)) (i2 fun i j => .int (i - j)) := ⟨op_sub, l2_i0 fun _ _ => rfl⟩
theorem o_mul : OpRd X (binaryOp .Mult) (rI CMul fun i j => .int (i * j)) (i2c CMul fun i j => .int (i * j)) := ⟨op_mul, l2_i fun _ _ => rfl⟩
theorem o_fdiv : OpRd X (binaryOp .FloorDiv) (rI CDivW fun i j => .int (i / j)) (i2c CDivW fun i j => .int (i / j)) := ⟨op_fdivW, l2_i fun _ _ => rfl⟩
theorem o_mod : OpRd X (binaryOp .Mod) (rI (fun _ j => 0 < j) fun i j => .int (i % j)) (i2c (fun _ j => 0 < j) fun i j => .int (i % j)) := ⟨op_mod, l2_i fun _ _ => rfl⟩
theorem o_pow : OpRd X (binaryOp .Pow) (rI CPow fun i j => .int (i ^ j.toNat)) (i2c CPow fun i j => .int (i ^ j.toNat)) := ⟨op_pow, l2_i fun _ _ => rfl⟩
theorem o_lt : OpRd X (compareOp .Lt) (rI0 fun i j => .bl (decide (i < j))) (i2 fun i j => .bl (decide (i < j))) := ⟨op_lt, l2_i0 fun _ _ => rfl⟩
theorem o_le : OpRd X (compareOp .LtE) (rI0 fun i j => .bl (decide (i ≤ j))) (i2 fun i j => .bl (decide (i ≤ j))) := ⟨op_le, l2_i0 fun _ _ => rfl⟩
theorem o_gt : OpRd X (compareOp .Gt) (rI0 fun i j => .bl (decide (j < i))) (i2 fun i j => .bl (decide (j < i))) := ⟨op_gt, l2_i0 fun _ _ => rfl⟩
theorem o_ge : OpRd X (compareOp .GtE) (rI0 fun i j => .bl (decide (j ≤ i))) (i2 fun i j => .bl (decide (j ≤ i))) := ⟨op_ge, l2_i0 fun _ _ => rfl⟩
end
/-- equal, of plain values of one kind, or None beside a text -/
def deq : D2 := fun x y mu P => match x, y with
  | .int i, .int j => P (.bl (decide (i = j))) mu
  | .str a, .str b => P (.bl (decide (a = b))) mu
  | .non, .str _ => P (.bl false) mu
  | .str _, .non => P (.bl false) mu
  | .non, .non => P (.bl true) mu
  | _, _ => False
def dne : D2 := fun x y mu P => match x, y with
  | .int i, .int j => P (.bl (!decide (i = j))) mu
  | .str a, .str b => P (.bl (!decide (a = b))) mu
  | _, _ => False
theorem l2_eq : L2R rEq deq := by
  refine l2_pure fun M0 mu H x y v w P Q o rx ry hp k => ?_
  unfold deq at hp
  split at hp
  · rename_i i j
    obtain rfl := rep_eq rfl rx
    obtain rfl := rep_eq rfl ry
    have e : decide (V.int i = V.int j) = decide (i = j) := by
      by_cases q : i = j
      · subst q; simp
      · rw [decide_eq_false q, decide_eq_false (fun z => q (V.int.inj z))]
    exact ⟨rfl, by rw [e]; exact k _ _ hp (rep_of rfl)⟩
  · rename_i i j
    obtain rfl := rep_eq rfl rx
    obtain rfl := rep_eq rfl ry
    have e : decide (V.str i = V.str j) = decide (i = j) := by
      by_cases q : i = j
      · subst q; simp
      · rw [decide_eq_false q, decide_eq_false (fun z => q (V.str.inj z))]
    exact ⟨rfl, by rw [e]; exact k _ _ hp (rep_of rfl)⟩
  · obtain rfl := rep_eq rfl rx
    obtain rfl := rep_eq rfl ry
    exact ⟨rfl, k _ _ hp (rep_of rfl)⟩
  · obtain rfl := rep_eq rfl rx
    obtain rfl := rep_eq rfl ry
    exact ⟨rfl, k _ _ hp (rep_of rfl)⟩
  · obtain rfl := rep_eq rfl rx
    obtain rfl := rep_eq rfl ry
    exact ⟨rfl, k _ _ hp (rep_of rfl)⟩
  · exact hp.elim
theorem l2_ne : L2R rNe dne := by
  refine l2_pure fun M0 mu H x y v w P Q o rx ry hp k => ?_
  unfold dne at hp
  split at hp
  · rename_i i j
    obtain rfl := rep_eq rfl rx
    obtain rfl := rep_eq rfl ry
    have e : decide (V.int i = V.int j) = decide (i = j) := by
      by_cases q : i = j
      · subst q; simp
      · rw [decide_eq_false q, decide_eq_false (fun z => q (V.int.inj z))]
    exact ⟨rfl, by rw [e]; exact k _ _ hp (rep_of rfl)⟩
  · rename_i i j
    obtain rfl := rep_eq rfl rx
    obtain rfl := rep_eq rfl ry
    have e : decide (V.str i = V.str j) = decide (i = j) := by
      by_cases q : i = j
      · subst q; simp
      · rw [decide_eq_false q, decide_eq_false (fun z => q (V.str.inj z))]
    exact ⟨rfl, by rw [e]; exact k _ _ hp (rep_of rfl)⟩
  · exact hp.elim
/-- is None -/
def isNon : D → Bool
  | .non => true
  | _ => false
theorem isNon_v {M : AP} {H : Hp} {d : D} {v : V} (r : Rep M H d v) : decide (v = V.non) = isNon d := by
  cases d <;> simp only [Rep] at r
  case tup ds => obtain ⟨a, vs, rfl, _⟩ := r; rfl
  case lst ds => obtain ⟨a, vs, rfl, _⟩ := r; rfl
  case ins C ns ds => obtain ⟨a, dx, vs, rfl, _⟩ := r; rfl
  case fz is => obtain ⟨a, rfl, _⟩ := r; rfl
  all_goals (subst r; rfl)
def disN : D2 := fun x y mu P => match y with
  | .non => P (.bl (isNon x)) mu
  | _ => False
def dnotN : D2 := fun x y mu P => match y with
  | .non => P (.bl (!isNon x)) mu
  | _ => False
def rIsNon : R2 := fun x y H Q => y = .non ∧ Q (.bl (decide (x = .non))) H
theorem l2_isN : L2R rIsNon disN := by
  refine l2_pure fun M0 mu H x y v w P Q o rx ry hp k => ?_
  unfold disN at hp
  split at hp
  · obtain rfl := rep_eq rfl ry
    exact ⟨rfl, by rw [isNon_v rx]; exact k _ _ hp (rep_of rfl)⟩
  · exact hp.elim
def rNotNon : R2 := fun x y H Q => y = .non ∧ Q (.bl (!decide (x = .non))) H
theorem l2_notN : L2R rNotNon dnotN := by
  refine l2_pure fun M0 mu H x y v w P Q o rx ry hp k => ?_
  unfold dnotN at hp
  split at hp
  · obtain rfl := rep_eq rfl ry
    exact ⟨rfl, by rw [isNon_v rx]; exact k _ _ hp (rep_of rfl)⟩
  · exact hp.elim
/-- texts put together -/
def dcatS : D2 := fun x y mu P => match x, y with
  | .str a, .str b => a.length + b.length ≤ 16000000 ∧ P (.str (a ++ b)) mu
  | _, _ => False
def rCatS : R2 := fun x y H Q => ∃ i j, x = .str i ∧ y = .str j ∧ i.length + j.length ≤ sizeLine ∧ Q (.str (i ++ j)) H
theorem l2_catS : L2R rCatS dcatS := by
  refine l2_pure fun M0 mu H x y v w P Q o rx ry hp k => ?_
  unfold dcatS at hp
  split at hp
  · rename_i i j
    obtain rfl := rep_eq rfl rx
    obtain rfl := rep_eq rfl ry
    exact ⟨i, j, rfl, rfl, line_of hp.1, k _ _ hp.2 (rep_of rfl)⟩
  · exact hp.elim

/-! ### lists and tuples seen -/
def lv (mu : Mu) : D → Option (List D)
  | .lst ds => some ds
  | .obj a => match mget mu a with
    | some (.lst ds) => some ds
    | _ => none
  | _ => none
def tv : D → Option (List D)
  | .tup ds => some ds
  | _ => none
section
variable {K : PySem.W.Frag} {M0 : AP} {mu : Mu} {H : Hp} {d : D} {ds : List D} {v : V}
theorem lv_at (o : Ok M0 mu H) (r : Rep (U M0 mu) H d v) (h : lv mu d = some ds) : ∃ a vs, v = .ref a ∧ H a = some (.lst vs) ∧ Reps (U M0 mu) H ds vs := by
  unfold lv at h
  split at h
  · cases h
    simp only [Rep] at r
    obtain ⟨a, vs, h1, _, h2, h3⟩ := r
    exact ⟨a, vs, h1, h2, h3⟩
  · rename_i a
    simp only [Rep] at r
    split at h
    · rename_i es e
      cases h
      obtain ⟨vs, h1, h2⟩ := o.cell a _ e
      exact ⟨a, vs, r, h1, h2⟩
    · cases h
  · cases h
theorem tv_at (r : Rep (U M0 mu) H d v) (h : tv d = some ds) : ∃ a vs, v = .ref a ∧ H a = some (.tup vs) ∧ Reps (U M0 mu) H ds vs := by
  cases d <;> simp only [tv] at h <;> try cases h
  simp only [Rep] at r
  obtain ⟨a, vs, h1, _, h2, h3⟩ := r
  exact ⟨a, vs, h1, h2, h3⟩
end
def sqv (mu : Mu) (d : D) : Option (List D) := match lv mu d with
  | some ds => some ds
  | none => match d with
    | .fz is => some (is.map .int)
    | d => tv d
theorem reps_ints {M : AP} {H : Hp} : ∀ is : List Int, Reps M H (is.map .int) (is.map .int)
  | [] => reps_nil
  | i :: is => reps_cons (by simp only [Rep]) (reps_ints is)
theorem sqv_at {K : PySem.W.Frag} {M0 : AP} {mu : Mu} {H : Hp} {d : D} {ds : List D} {v : V} (o : Ok M0 mu H) (r : Rep (U M0 mu) H d v) (h : sqv mu d = some ds) : ∃ a vs, v = .ref a ∧ (SqL K H a vs ∨ SqT K H a vs) ∧ Reps (U M0 mu) H ds vs := by
  unfold sqv at h
  split at h
  · rename_i es e
    cases h
    obtain ⟨a, vs, h1, h2, h3⟩ := lv_at o r e
    exact ⟨a, vs, h1, .inl (SqL.of h2), h3⟩
  · split at h
    · rename_i is _
      cases h
      simp only [Rep] at r
      obtain ⟨a, h1, _, h2⟩ := r
      exact ⟨a, _, h1, .inl (.inl h2), reps_ints is⟩
    · obtain ⟨a, vs, h1, h2, h3⟩ := tv_at r h
      exact ⟨a, vs, h1, .inr (SqT.of h2), h3⟩
/-- two lists put together: a new one, unchangeable -/
def dcatL : D2 := fun x y mu P => match lv mu x, lv mu y with
  | some a, some b => a.length + b.length ≤ 16000000 ∧ P (.lst (a ++ b)) mu
  | _, _ => False
theorem l2_catL : L2R rCat dcatL := by
  intro M0 mu H x y v w P Q o rx ry hp k
  unfold dcatL at hp
  split at hp
  · rename_i as bs e1 e2
    obtain ⟨a, vs, rfl, h1, r1⟩ := lv_at o rx e1
    obtain ⟨b, ws, rfl, h2, r2⟩ := lv_at o ry e2
    refine ⟨a, b, vs, ws, rfl, rfl, h1, h2, by rw [← r1.len, ← r2.len]; exact line_of hp.1, fun p np => ?_⟩
    exact k _ mu _ _ hp.2 (o.new np) (ext_new np) (new_lst o (r1.app r2) np)
  · exact hp.elim
def dcatT : D2 := fun x y mu P => match tv x, tv y with
  | some a, some b => a.length + b.length ≤ 16000000 ∧ P (.tup (a ++ b)) mu
  | _, _ => False
theorem l2_catT {K : PySem.W.Frag} : L2R (rCatA K) dcatT := by
  intro M0 mu H x y v w P Q o rx ry hp k
  unfold dcatT at hp
  split at hp
  · rename_i as bs e1 e2
    have rx' := rx
    have ry' := ry
    obtain ⟨a, vs, rfl, h1, r1⟩ := tv_at rx e1
    obtain ⟨b, ws, rfl, h2, r2⟩ := tv_at ry e2
    have l1 := r1.len
    have l2 := r2.len
    have ex : x = .tup as := by cases x <;> simp only [tv] at e1 <;> cases e1; rfl
    have ey : y = .tup bs := by cases y <;> simp only [tv] at e2 <;> cases e2; rfl
    subst ex ey
    refine ⟨a, b, vs, ws, rfl, rfl, SqT.of h1, SqT.of h2, by rw [← r1.len, ← r2.len]; exact line_of hp.1, fun z => ?_, fun _ z => ?_, fun _ _ p np => ?_⟩
    · have : as = [] := by rw [z] at l1; exact List.length_eq_zero_iff.mp l1
      subst this
      exact k _ mu _ _ hp.2 o (Ext.refl _ _) ry'
    · have : bs = [] := by rw [z] at l2; exact List.length_eq_zero_iff.mp l2
      subst this
      refine k _ mu _ _ hp.2 o (Ext.refl _ _) ?_
      rw [List.append_nil]
      exact rx'
    · exact k _ mu _ _ hp.2 (o.new np) (ext_new np) (new_tup o (r1.app r2) np)
  · exact hp.elim
def drepL : D2 := fun x y mu P => match lv mu x, y with
  | some a, .int k => 0 ≤ k ∧ k ≤ 1000 ∧ a.length ≤ 100 ∧ P (.lst (List.replicate k.toNat a).flatten) mu
  | _, _ => False
theorem l2_repL : L2R rRep drepL := by
  intro M0 mu H x y v w P Q o rx ry hp k
  unfold drepL at hp
  split at hp
  · rename_i as n e1
    obtain ⟨a, vs, rfl, h1, r1⟩ := lv_at o rx e1
    obtain rfl := rep_eq rfl ry
    obtain ⟨g1, g2, g3, g4⟩ := hp
    refine ⟨a, n, vs, rfl, rfl, h1, by omega, by omega, ?_, fun p np => ?_⟩
    · have l1 := r1.len
      have h5 : vs.length * n.toNat ≤ 100 * 1000 := Nat.mul_le_mul (by omega) (by omega)
      exact line_of (by omega)
    · exact k _ mu _ _ g4 (o.new np) (ext_new np) (new_lst o (r1.flat n.toNat) np)
  · exact hp.elim
section
variable {X : Cx}
theorem o_eq : OpRd X (compareOp .Eq) rEq deq := ⟨op_eq, l2_eq⟩
theorem o_ne : OpRd X (compareOp .NotEq) rNe dne := ⟨op_ne, l2_ne⟩
theorem o_isN : OpRd X (compareOp .Is) rIsNon disN := ⟨op_isN, l2_isN⟩
theorem o_notN : OpRd X (compareOp .IsNot) rNotNon dnotN := ⟨op_notN, l2_notN⟩
theorem o_catS : OpRd X (binaryOp .Add) rCatS dcatS := ⟨op_add_str, l2_catS⟩
theorem o_catL : OpRd X (binaryOp .Add) rCat dcatL := ⟨op_cat, l2_catL⟩
theorem o_catT : OpRd X (binaryOp .Add) (rCatA X.K) dcatT := ⟨op_catA, l2_catT⟩
theorem o_repL : OpRd X (binaryOp .Mult) rRep drepL := ⟨op_rep, l2_repL⟩
end
/-! ### an item, a part -/
theorem atI_rep {M : AP} {H : Hp} {ds : List D} {vs : List V} {i : Int} {d : D} (r : Reps M H ds vs) (h : atI ds i = some d) : ∃ v, atI vs i = some v ∧ Rep M H d v := by
  unfold atI at h ⊢
  rw [← r.len]
  cases e : ixN ds.length i with
  | none => rw [e] at h; cases h
  | some j =>
    rw [e] at h
    exact r.get h
def dix : D2 := fun x y mu P => match y with
  | .int i => match x with
    | .str z => z.length ≤ 16000000 ∧ (match atI z.cps.toList i with
      | some c => P (.str ⟨#[c]⟩) mu
      | none => False)
    | x => match sqv mu x with
      | some ds => (match atI ds i with
        | some d => P d mu
        | none => False)
      | none => False
  | _ => False
theorem l2_ix {K : PySem.W.Frag} : L2R (rIx K) dix := by
  refine l2_pure fun M0 mu H x y v w P Q o rx ry hp k => ?_
  unfold dix at hp
  split at hp
  · rename_i i
    obtain rfl := rep_eq rfl ry
    split at hp
    · rename_i z
      obtain rfl := rep_eq rfl rx
      obtain ⟨hz, hp⟩ := hp
      split at hp
      · rename_i c e
        exact .inr (.inr ⟨z, i, c, rfl, rfl, line_of hz, e, k _ _ hp (rep_of rfl)⟩)
      · exact hp.elim
    · split at hp
      · rename_i ds e
        split at hp
        · rename_i d e2
          obtain ⟨a, vs, rfl, h1, r1⟩ := sqv_at (K := K) o rx e
          obtain ⟨u, h3, h4⟩ := atI_rep r1 e2
          rcases h1 with h1 | h1
          · exact .inl ⟨a, vs, i, u, rfl, rfl, h1, h3, k _ _ hp h4⟩
          · exact .inr (.inl ⟨a, vs, i, u, rfl, rfl, h1, h3, k _ _ hp h4⟩)
        · exact hp.elim
      · exact hp.elim
  · exact hp.elim
def dcut (ds : List D) (lo hi : Option Int) : List D := (ds.drop (HT.sIx ds.length 0 lo)).take (HT.sIx ds.length ds.length hi - HT.sIx ds.length 0 lo)
theorem Reps.cut {M : AP} {H : Hp} {ds : List D} {vs : List V} (r : Reps M H ds vs) (lo hi : Option Int) : Reps M H (dcut ds lo hi) (cutV vs lo hi) := by
  unfold dcut cutV
  rw [r.len]
  exact (r.drop _).take _
theorem cut_whole {ds : List D} {lo hi : Option Int} (h : HT.sIx ds.length 0 lo = 0 ∧ HT.sIx ds.length ds.length hi = ds.length) : dcut ds lo hi = ds := by
  unfold dcut
  rw [h.1, h.2, List.drop_zero, Nat.sub_zero, List.take_length]
def dNoP : DOp := fun _ mu P => P none mu
def dPart (de : DE) : DOp := fun rho mu P => de rho mu fun d mu1 => match d with
  | .int i => P (some i) mu1
  | _ => False
def dSl (de : DE) (dl dh : DOp) : DE := fun rho mu P => de rho mu fun x mu1 => dl rho mu1 fun lo mu2 => dh rho mu2 fun hi mu3 => match x with
  | .str z => z.length ≤ 16000000 ∧ P (.str (cutS z lo hi)) mu3
  | x => match lv mu3 x with
    | some ds => P (.lst (dcut ds lo hi)) mu3
    | none => match tv x with
      | some ds => P (.tup (dcut ds lo hi)) mu3
      | none => False
theorem lo_no : LO tNoPart dNoP := by
  intro M0 mu rho σ H P Q at_ h k
  exact k none mu H h at_.ok (Ext.refl _ _)
theorem lo_part {te : TE} {de : DE} (h : LE te de) : LO (tPart te) (dPart de) := by
  intro M0 mu rho σ H P Q at_ hp k
  refine h M0 mu rho σ H _ _ at_ hp fun d mu1 v H1 hd o1 e1 r1 => ?_
  split at hd
  · rename_i i
    obtain rfl := rep_eq rfl r1
    exact ⟨i, rfl, k _ _ _ hd o1 e1⟩
  · exact hd.elim
def rSlAll (K : PySem.W.Frag) : V → Option Int → Option Int → Hp → VK → Prop := fun x lo hi H Q => (rSlL K x lo hi H Q ∨ rSlA K x lo hi H Q) ∨ rSlS x lo hi H Q
theorem sl_all {X : Cx} : SlR X (rSlAll X.K) := SlR.or (SlR.or sl_list sl_tupA) sl_str
theorem le_sl {K : PySem.W.Frag} {te : TE} {tl th : TO} {de : DE} {dl dh : DOp} (h : LE te de) (h1 : LO tl dl) (h2 : LO th dh) : LE (tSl (rSlAll K) te tl th) (dSl de dl dh) := by
  intro M0 mu rho σ H P Q at_ hp k
  refine h M0 mu rho σ H _ _ at_ hp fun x mu1 v H1 hd o1 e1 r1 => ?_
  refine h1 M0 mu1 rho σ H1 _ _ (at_.to o1 e1) hd fun lo mu2 H2 hd2 o2 e2 => ?_
  refine h2 M0 mu2 rho σ H2 _ _ ((at_.to o1 e1).to o2 e2) hd2 fun hi mu3 H3 hd3 o3 e3 => ?_
  have rx : Rep (U M0 mu3) H3 x v := Rep.tr e3.tr _ _ (Rep.tr e2.tr _ _ r1)
  have ee := (e1.trans e2).trans e3
  split at hd3
  · rename_i z
    obtain rfl := rep_eq rfl rx
    exact .inr ⟨z, rfl, line_of hd3.1, k _ _ _ _ hd3.2 o3 ee (rep_of rfl)⟩
  · split at hd3
    · rename_i ds e
      obtain ⟨a, vs, rfl, g1, g2⟩ := lv_at o3 rx e
      refine .inl (.inl ⟨a, vs, rfl, SqL.of g1, fun p np => ?_⟩)
      exact k _ _ _ _ hd3 (o3.new np) (ee.trans (ext_new np)) (new_lst o3 (g2.cut lo hi) np)
    · split at hd3
      · rename_i ds e
        have rx' := rx
        obtain ⟨a, vs, rfl, g1, g2⟩ := tv_at rx e
        refine .inl (.inr ⟨a, vs, rfl, SqT.of g1, fun z => ?_, fun _ p np => ?_⟩)
        · rw [← g2.len] at z
          rw [cut_whole z] at hd3
          have ex : x = .tup ds := by cases x <;> simp only [tv] at e <;> cases e; rfl
          subst ex
          exact k _ _ _ _ hd3 o3 ee rx'
        · exact k _ _ _ _ hd3 (o3.new np) (ee.trans (ext_new np)) (new_tup o3 (g2.cut lo hi) np)
      · exact hd3.elim
section
variable {X : Cx} {a b e : Expr} {ta tb te : TE} {da db de : DE} {pos p2 : Pos} {lo hi : Option Expr} {tl th : TO} {dl dh : DOp}
theorem d_ix (ha : PEd X a ta da) (hb : PEd X b tb db) (hs : PlainIx b := by exact fun _ _ => rfl) : PEd X (.Subscript a b pos) (tOp (rIx X.K) ta tb) (dOp dix da db) := ⟨pe_ix ix_seq ha.pe hb.pe hs, le_op l2_ix ha.le hb.le⟩
theorem do_none : POd X none tNoPart dNoP := ⟨po_none, lo_no⟩
theorem do_some (h : PEd X e te de) : POd X (some e) (tPart te) (dPart de) := ⟨po_some h.pe, lo_part h.le⟩
theorem d_sl (h : PEd X e te de) (h1 : POd X lo tl dl) (h2 : POd X hi th dh) : PEd X (.Subscript e (.Slice lo hi none p2) pos) (tSl (rSlAll X.K) te tl th) (dSl de dl dh) := ⟨pe_slice sl_all h.pe h1.pe h2.pe, le_sl h.le h1.le h2.le⟩
end
end DL
set_option maxHeartbeats 200000
/-! K50D: tests, statements, loops, calls, promises -/
namespace DL
open PySem PySem.Spec PyProof.Rows L2

/-! ### tests -/
def dTest (de : DE) : DT := fun rho mu P => de rho mu fun d mu1 => match d with
  | .bl b => P b mu1
  | _ => False
def dAnd (t u : DT) : DT := fun rho mu P => t rho mu fun b mu1 => if b = true then u rho mu1 P else P false mu1
def dOr (t u : DT) : DT := fun rho mu P => t rho mu fun b mu1 => if b = true then P true mu1 else u rho mu1 P
def dNot (t : DT) : DT := fun rho mu P => t rho mu fun b mu1 => P (!b) mu1
def dNotV (de : DE) : DE := fun rho mu P => de rho mu fun d mu1 => match d with
  | .bl b => P (.bl (!b)) mu1
  | _ => False
def dYes : DT := fun _ mu P => P true mu
theorem lt_test {te : TE} {de : DE} (h : LE te de) : LT (tTest te) (dTest de) := by
  intro M0 mu rho σ H P Q at_ hp k
  refine h M0 mu rho σ H _ _ at_ hp fun d mu1 v H1 hd o1 e1 r1 => ?_
  split at hd
  · rename_i b
    obtain rfl := rep_eq rfl r1
    exact ⟨b, rfl, k _ _ _ hd o1 e1⟩
  · exact hd.elim
theorem lt_B {te : TE} {de : DE} (h : LE te de) : LT (tB te) (dTest de) := by
  intro M0 mu rho σ H P Q at_ hp k
  refine h M0 mu rho σ H _ _ at_ hp fun d mu1 v H1 hd o1 e1 r1 => ?_
  split at hd
  · rename_i b
    obtain rfl := rep_eq rfl r1
    exact ⟨b, rfl, k _ _ _ hd o1 e1⟩
  · exact hd.elim
theorem le_notV {te : TE} {de : DE} (h : LE te de) : LE (tNotV te) (dNotV de) := by
  intro M0 mu rho σ H P Q at_ hp k
  refine h M0 mu rho σ H _ _ at_ hp fun d mu1 v H1 hd o1 e1 r1 => ?_
  split at hd
  · rename_i b
    obtain rfl := rep_eq rfl r1
    exact ⟨b, rfl, k _ _ _ _ hd o1 e1 (rep_of rfl)⟩
  · exact hd.elim
theorem lt_and {t u : TT} {dt du : DT} (h1 : LT t dt) (h2 : LT u du) : LT (tAnd t u) (dAnd dt du) := by
  intro M0 mu rho σ H P Q at_ hp k
  refine h1 M0 mu rho σ H _ _ at_ hp fun b mu1 H1 hd o1 e1 => ?_
  cases b with
  | true =>
    rw [if_pos rfl] at hd ⊢
    exact h2 M0 mu1 rho σ H1 _ _ (at_.to o1 e1) hd fun b mu2 H2 hq o2 e2 => k b mu2 H2 hq o2 (e1.trans e2)
  | false =>
    rw [if_neg Bool.false_ne_true] at hd ⊢
    exact k _ _ _ hd o1 e1
theorem lt_or {t u : TT} {dt du : DT} (h1 : LT t dt) (h2 : LT u du) : LT (tOr t u) (dOr dt du) := by
  intro M0 mu rho σ H P Q at_ hp k
  refine h1 M0 mu rho σ H _ _ at_ hp fun b mu1 H1 hd o1 e1 => ?_
  cases b with
  | true =>
    rw [if_pos rfl] at hd ⊢
    exact k _ _ _ hd o1 e1
  | false =>
    rw [if_neg Bool.false_ne_true] at hd ⊢
    exact h2 M0 mu1 rho σ H1 _ _ (at_.to o1 e1) hd fun b mu2 H2 hq o2 e2 => k b mu2 H2 hq o2 (e1.trans e2)
theorem lt_not {t : TT} {dt : DT} (h1 : LT t dt) : LT (tNot t) (dNot dt) := by
  intro M0 mu rho σ H P Q at_ hp k
  exact h1 M0 mu rho σ H _ _ at_ hp fun b mu1 H1 hd o1 e1 => k _ _ _ hd o1 e1
theorem lt_yes : LT tYes dYes := by
  intro M0 mu rho σ H P Q at_ hp k
  exact k _ _ _ hp at_.ok (Ext.refl _ _)
section
variable {X : Cx} {a b e c : Expr} {rest : List Expr} {ta tb te : TE} {da db de : DE} {t u : TT} {dt du : DT} {pos : Pos}
theorem t_cmp {op : CmpOp} {r : R2} {dr : D2} (ho : OpRd X (compareOp op) r dr) (ha : PEd X a ta da) (hb : PEd X b tb db) (hm : behindInMarks op b = false := by first | exact nomark _ | rfl) : PTd X (.Compare a [op] [b] pos) (tTest (tOp r ta tb)) (dTest (dOp dr da db)) := ⟨pt_cmpR ho.pe ha.pe hb.pe hm, lt_test (le_op ho.le ha.le hb.le)⟩
theorem t_val (h : PEd X e te de) (he : ∀ whole, isTrue e X.env whole = (do let v ← whole; standAt e.pos; holding [v] (truthy v)) := by intro _; rfl) : PTd X e (tB te) (dTest de) := ⟨pt_val h.pe he, lt_B h.le⟩
theorem t_pw (h : PWd X e t dt) : PTd X e t dt := ⟨h.pe.pt, h.le⟩
theorem w_and1 (h : PTd X a t dt) : PWd X (.BoolOp .And [a] pos) t dt := ⟨pw_and1 h.pe, h.le⟩
theorem w_or1 (h : PTd X a t dt) : PWd X (.BoolOp .Or [a] pos) t dt := ⟨pw_or1 h.pe, h.le⟩
theorem w_and (h1 : PTd X a t dt) (h2 : PWd X (.BoolOp .And (b :: rest) pos) u du) : PWd X (.BoolOp .And (a :: b :: rest) pos) (tAnd t u) (dAnd dt du) := ⟨pw_and h1.pe h2.pe, lt_and h1.le h2.le⟩
theorem w_or (h1 : PTd X a t dt) (h2 : PWd X (.BoolOp .Or (b :: rest) pos) u du) : PWd X (.BoolOp .Or (a :: b :: rest) pos) (tOr t u) (dOr dt du) := ⟨pw_or h1.pe h2.pe, lt_or h1.le h2.le⟩
theorem t_not (h : PTd X a t dt) : PTd X (.UnaryOp .Not a pos) (tNot t) (dNot dt) := ⟨pt_not h.pe, lt_not h.le⟩
theorem d_not (h : PEd X a ta da) : PEd X (.UnaryOp .Not a pos) (tNotV ta) (dNotV da) := ⟨pe_not h.pe, le_notV h.le⟩
theorem ts_nil : PTsd X [] tYes dYes := ⟨pts_nil, lt_yes⟩
theorem ts_one (h : PTd X c t dt) : PTsd X [c] t dt := ⟨pts_one h.pe, h.le⟩
end

/-! ### statements -/
def dNext : DS := fun D rho mu => D.nx rho mu
def dSeq (t u : DS) : DS := fun D rho mu => t { D with nx := u D } rho mu
def dAsg (de : DE) (i : Nat) : DS := fun D rho mu => de rho mu fun d mu1 => D.nx (rho.set i (some d)) mu1
def dRet (de : DE) : DS := fun D rho mu => de rho mu D.rt
def dDrop (de : DE) : DS := fun D rho mu => de rho mu fun _ mu1 => D.nx rho mu1
def dIf (c : DT) (t u : DS) : DS := fun D rho mu => c rho mu fun b mu1 => if b = true then t D rho mu1 else u D rho mu1
def dBreak : DS := fun D rho mu => D.bk rho mu
def dNever : DS := fun _ _ _ => False
/-- slot i holds a list (an instance) that was made in this def: from here on unchangeable -/
def dFrz (i : Nat) (t : DS) : DS := fun D rho mu => ∃ a u d, rho[i]? = some (some (.obj a)) ∧ a ∉ dom D.mu0 ∧ mget mu a = some u ∧ frz u = some d ∧ t D (rho.set i (some d)) (mdel mu a)
theorem ls_next : LS tNext dNext := by
  intro M0 H0 ms Hs E D L rho mu σ H at_ e0 es h
  exact L.nx rho mu σ H at_ e0 es h
theorem ls_seq {t u : TS} {dt du : DS} (h1 : LS t dt) (h2 : LS u du) : LS (tSeq t u) (dSeq dt du) := by
  intro M0 H0 ms Hs E D L rho mu σ H at_ e0 es h
  refine h1 M0 H0 ms Hs { E with nx := u E } { D with nx := du D } ⟨L.live, fun rho mu σ H a e e' q => ?_, L.rt, L.bk, L.ct⟩ rho mu σ H at_ e0 es h
  exact h2 M0 H0 ms Hs E D L rho mu σ H a e e' q
theorem ls_asg {te : TE} {de : DE} {i : Nat} (h : LE te de) : LS (tAsg te (gName i)) (dAsg de i) := by
  intro M0 H0 ms Hs E D L rho mu σ H at_ e0 es hp
  refine h M0 mu rho σ H _ _ at_ hp fun d mu1 v H1 hd o1 e1 r1 => ?_
  exact L.nx _ _ _ _ ((at_.to o1 e1).set i r1) (e0.trans e1) (es.trans e1) hd
theorem ls_ret {te : TE} {de : DE} (h : LE te de) : LS (tRet te) (dRet de) := by
  intro M0 H0 ms Hs E D L rho mu σ H at_ e0 es hp
  refine h M0 mu rho σ H _ _ at_ hp fun d mu1 v H1 hd o1 e1 r1 => ?_
  exact L.rt _ _ _ _ o1 (e0.trans e1) (es.trans e1) r1 hd
theorem ls_drop {te : TE} {de : DE} (h : LE te de) : LS (tDrop te) (dDrop de) := by
  intro M0 H0 ms Hs E D L rho mu σ H at_ e0 es hp
  refine h M0 mu rho σ H _ _ at_ hp fun d mu1 v H1 hd o1 e1 r1 => ?_
  exact L.nx _ _ _ _ (at_.to o1 e1) (e0.trans e1) (es.trans e1) hd
theorem ls_if {c : TT} {dc : DT} {t u : TS} {dt du : DS} (hc : LT c dc) (h1 : LS t dt) (h2 : LS u du) : LS (tIfS c t u) (dIf dc dt du) := by
  intro M0 H0 ms Hs E D L rho mu σ H at_ e0 es hp
  refine hc M0 mu rho σ H _ _ at_ hp fun b mu1 H1 hd o1 e1 => ?_
  cases b with
  | true =>
    rw [if_pos rfl] at hd ⊢
    exact h1 M0 H0 ms Hs E D L rho mu1 σ H1 (at_.to o1 e1) (e0.trans e1) (es.trans e1) hd
  | false =>
    rw [if_neg Bool.false_ne_true] at hd ⊢
    exact h2 M0 H0 ms Hs E D L rho mu1 σ H1 (at_.to o1 e1) (e0.trans e1) (es.trans e1) hd
theorem ls_break : LS tBreak dBreak := by
  intro M0 H0 ms Hs E D L rho mu σ H at_ e0 es h
  exact L.bk rho mu σ H at_ e0 es h
theorem ls_never {t : TS} : LS t dNever := by
  intro M0 H0 ms Hs E D L rho mu σ H at_ e0 es h
  exact h.elim
theorem ls_frz {i : Nat} {t : TS} {dt : DS} (h : LS t dt) : LS t (dFrz i dt) := by
  intro M0 H0 ms Hs E D L rho mu σ H at_ e0 es hp
  obtain ⟨a, u, d, hr, hn, hg, hf, hp⟩ := hp
  have hm : ¬ M0 a := fun q => by
    obtain ⟨o, z⟩ := L.live a (.inl q)
    rcases e0.new a (mget_dom hg) with y | y
    · exact hn y
    · rw [z] at y; cases y
  have rr := at_.ok.frz hm hg hf
  refine h M0 H0 ms Hs E D L _ _ σ H ⟨at_.ok.del hm, ?_⟩ (ext_del e0) (ext_del es) hp
  obtain ⟨v, hv, rv⟩ := at_.sl.get hr
  obtain rfl := rep_eq rfl rv
  have s1 := (at_.sl.tr (tr_del hm)).set rr i
  have e : σ.set i (some (V.ref a)) = σ := by
    apply List.ext_getElem?
    intro j
    by_cases hj : i = j
    · subst hj
      rw [List.getElem?_set_self (List.getElem?_eq_some_iff.mp hv).1, hv]
    · rw [List.getElem?_set_ne hj]
  rw [e] at s1
  exact s1
section
variable {X : Cx} {st : Stmt} {rest : List Stmt} {t u : TS} {dt du : DS} {e : Expr} {te : TE} {de : DE} {pos pos' : Pos} {x : Str}
theorem ss_nil : PSsd X [] tNext dNext := ⟨pss_nil, ls_next⟩
theorem ss_cons (h1 : PSd X st t dt) (h2 : PSsd X rest u du) : PSsd X (st :: rest) (tSeq t u) (dSeq dt du) := ⟨pss_cons h1.pe h2.pe, ls_seq h1.le h2.le⟩
theorem ss_one (h1 : PSd X st t dt) : PSsd X [st] t dt := ⟨pss_one h1.pe, h1.le⟩
theorem ss_frz (i : Nat) (h : PSsd X rest t dt) : PSsd X rest t (dFrz i dt) := ⟨h.pe, ls_frz h.le⟩
theorem s_set (i : Nat) (hN : X.N.Nodup) (he : PEd X e te de) (hi : X.N[i]? = some x := by rfl) (hx : Loc X.env.scope x := by first | exact .inl rfl | exact .inr rfl) (hs : swapsWith e (some (.Name x pos')) pos.line X.env = pure false := by rfl)
    (hf : X.fn x = true ∨ X.env.scope.names.lookup x = some .local := by first | exact .inl rfl | exact .inr rfl | assumption) : PSd X (.Assign [.Name x pos'] e pos) (tAsg te (gName i)) (dAsg de i) := ⟨ps_set hN hi hx he.pe hs hf, ls_asg he.le⟩
theorem s_ret (he : PEd X e te de) : PSd X (.Return (some e) pos) (tRet te) (dRet de) := ⟨ps_ret he.pe, ls_ret he.le⟩
theorem s_expr (he : PEd X e te de) (hs : swapsWith e none pos.line X.env = pure false := by rfl) : PSd X (.Expr e pos) (tDrop te) (dDrop de) := ⟨ps_expr he.pe hs, ls_drop he.le⟩
theorem s_if {c : Expr} {a b : List Stmt} {tc : TT} {dc : DT} (hc : PTd X c tc dc) (ha : PSsd X a t dt) (hb : PSsd X b u du) : PSd X (.If c a b pos) (tIfS tc t u) (dIf dc dt du) := ⟨ps_if hc.pe ha.pe hb.pe, ls_if hc.le ha.le hb.le⟩
theorem s_break : PSd X (.Break pos) tBreak dBreak := ⟨ps_break, ls_break⟩
theorem s_never : PSd X st tNever dNever := ⟨ps_never, ls_never⟩
end

/-! ### loops -/
def dFor (i : Nat) (tb : DS) : List D → DS
  | [], D, rho, mu => D.nx rho mu
  | d :: ds, D, rho, mu => tb { D with nx := dFor i tb ds D, ct := dFor i tb ds D, bk := D.nx } (rho.set i (some d)) mu
def dForI (i : Nat) (di : DA) (tb : DS) : DS := fun D rho mu => di rho mu fun ds mu1 => dFor i tb ds D rho mu1
theorem ls_for {wi : TI} {di : DA} {i : Nat} {tb : TS} {db : DS} (hi : LI wi di) (hb : LS tb db) : LS (tFor wi (gName i) tb) (dForI i di db) := by
  intro M0 H0 ms Hs E D L rho mu σ H at_ e0 es hp
  refine hi M0 mu rho σ H _ _ at_ hp fun ds mu1 J H1 hd o1 e1 y => ?_
  have e01 := e0.trans e1
  have es1 := es.trans e1
  refine ⟨fun j m σ' H' => ∃ rho' mu', At M0 mu' rho' σ' H' ∧ Ext mu1 H1 mu' H' ∧ dFor i db (ds.drop j) D rho' mu' ∧ j + m = ds.length, ⟨ds.length, rho, mu1, at_.to o1 e1, Ext.refl _ _, by rw [List.drop_zero]; exact hd, by omega⟩, ?_⟩
  rintro j m σ' H' ⟨rho', mu', a', e', hd', hm⟩
  have yy := y _ _ j e'.tr
  by_cases hj : j < ds.length
  · right
    obtain ⟨hgo, hy⟩ := yy.1 _ (List.getElem?_eq_getElem hj)
    rw [List.drop_eq_getElem_cons hj] at hd'
    refine ⟨hgo, fun σ2 H2 => ∃ rho2 mu2, At M0 mu2 rho2 σ2 H2 ∧ Ext mu1 H1 mu2 H2 ∧ dFor i db (ds.drop (j + 1)) D rho2 mu2, ?_, ?_⟩
    · rintro σ2 H2 ⟨rho2, mu2, a2, e2, hd2⟩
      exact ⟨m - 1, by omega, rho2, mu2, a2, e2, hd2, by omega⟩
    · intro x H'' hx
      obtain ⟨rfl, rx⟩ := hy x H'' hx
      refine hb M0 H0 mu1 H1 { E with nx := fun σ2 H2 => ∃ rho2 mu2, At M0 mu2 rho2 σ2 H2 ∧ Ext mu1 H1 mu2 H2 ∧ dFor i db (ds.drop (j + 1)) D rho2 mu2, ct := fun σ2 H2 => ∃ rho2 mu2, At M0 mu2 rho2 σ2 H2 ∧ Ext mu1 H1 mu2 H2 ∧ dFor i db (ds.drop (j + 1)) D rho2 mu2, bk := E.nx } { D with nx := dFor i db (ds.drop (j + 1)) D, ct := dFor i db (ds.drop (j + 1)) D, bk := D.nx } ⟨L.live, fun r m s h a e ee q => ⟨r, m, a, ee, q⟩, fun d m v h o e ee r q => L.rt d m v h o e (es1.trans ee) r q, fun r m s h a e ee q => L.nx r m s h a e (es1.trans ee) q, fun r m s h a e ee q => ⟨r, m, a, ee, q⟩⟩ _ mu' _ H'' (a'.set i rx) (e01.trans e') e' hd'
  · left
    refine ⟨yy.2 (by omega), ?_⟩
    rw [List.drop_eq_nil_of_le (by omega)] at hd'
    exact L.nx _ _ _ _ a' (e01.trans e') (es1.trans e') hd'
def dWhile (c : DT) (tb : DS) : DS := fun D rho mu => ∃ W : Nat → Rho → Mu → Prop, (∃ m, W m rho mu) ∧ ∀ m rho mu, W m rho mu →
  c rho mu fun b mu1 => if b = true then ∃ N : Rho → Mu → Prop, (∀ r' m', N r' m' → ∃ k, k < m ∧ W k r' m') ∧ tb { D with nx := N, ct := N, bk := D.nx } rho mu1 else D.nx rho mu1
theorem ls_while {c : TT} {dc : DT} {tb : TS} {db : DS} (hc : LT c dc) (hb : LS tb db) : LS (tWhile c tb) (dWhile dc db) := by
  intro M0 H0 ms Hs E D L rho mu σ H at_ e0 es hp
  obtain ⟨W, ⟨m0, w0⟩, hw⟩ := hp
  refine ⟨fun m σ' H' => ∃ rho' mu', At M0 mu' rho' σ' H' ∧ Ext D.mu0 H0 mu' H' ∧ Ext ms Hs mu' H' ∧ W m rho' mu', ⟨m0, rho, mu, at_, e0, es, w0⟩, ?_⟩
  rintro m σ' H' ⟨rho', mu', a', e', es', w'⟩
  refine hc M0 mu' rho' σ' H' _ _ a' (hw m rho' mu' w') fun b mu1 H1 hd o1 e1 => ?_
  cases b with
  | true =>
    rw [if_pos rfl] at hd ⊢
    obtain ⟨N, hN, hd⟩ := hd
    refine ⟨fun σ2 H2 => ∃ rho2 mu2, At M0 mu2 rho2 σ2 H2 ∧ Ext D.mu0 H0 mu2 H2 ∧ Ext ms Hs mu2 H2 ∧ N rho2 mu2, ?_, ?_⟩
    · rintro σ2 H2 ⟨rho2, mu2, a2, e2, es2, n2⟩
      obtain ⟨k, hk, wk⟩ := hN _ _ n2
      exact ⟨k, hk, rho2, mu2, a2, e2, es2, wk⟩
    · exact hb M0 H0 ms Hs { E with nx := fun σ2 H2 => ∃ rho2 mu2, At M0 mu2 rho2 σ2 H2 ∧ Ext D.mu0 H0 mu2 H2 ∧ Ext ms Hs mu2 H2 ∧ N rho2 mu2, ct := fun σ2 H2 => ∃ rho2 mu2, At M0 mu2 rho2 σ2 H2 ∧ Ext D.mu0 H0 mu2 H2 ∧ Ext ms Hs mu2 H2 ∧ N rho2 mu2, bk := E.nx } { D with nx := N, ct := N, bk := D.nx } ⟨L.live, fun r m s h a e ee q => ⟨r, m, a, e, ee, q⟩, L.rt, L.nx, fun r m s h a e ee q => ⟨r, m, a, e, ee, q⟩⟩ _ _ _ _ (a'.to o1 e1) (e'.trans e1) (es'.trans e1) hd
  | false =>
    rw [if_neg Bool.false_ne_true] at hd ⊢
    exact L.nx _ _ _ _ (a'.to o1 e1) (e'.trans e1) (es'.trans e1) hd
def dList (de : DE) : DA := fun rho mu P => de rho mu fun d mu1 => match d with
  | .lst ds => P ds mu1
  | _ => False
def dTuple (de : DE) : DA := fun rho mu P => de rho mu fun d mu1 => match d with
  | .tup ds => P ds mu1
  | _ => False
theorem li_list {K : PySem.W.Frag} {te : TE} {de : DE} (h : LE te de) : LI (iList K te) (dList de) := by
  intro M0 mu rho σ H P R at_ hp k
  refine h M0 mu rho σ H _ _ at_ hp fun d mu1 v H1 hd o1 e1 r1 => ?_
  split at hd
  · rename_i ds
    simp only [Rep] at r1
    obtain ⟨a, vs, rfl, na, ha, rs⟩ := r1
    refine ⟨a, rfl, ⟨vs, SqL.of ha⟩, k _ _ _ _ hd o1 e1 fun M' H' i t => ?_⟩
    have ha' := (t a _ na ha).2
    refine ⟨fun d hd => ?_, fun hl => ⟨vs, SqL.of ha', by rw [← rs.len]; exact hl⟩⟩
    obtain ⟨v, hv, rv⟩ := (Reps.tr t _ _ rs).get hd
    refine ⟨⟨vs, v, SqL.of ha', hv⟩, fun x H'' hx => ?_⟩
    obtain ⟨rfl, hx⟩ := hx
    have := hx vs (SqL.of ha')
    rw [hv] at this
    cases this
    exact ⟨rfl, rv⟩
  · exact hd.elim
theorem li_tuple {K : PySem.W.Frag} {te : TE} {de : DE} (h : LE te de) : LI (iTup K te) (dTuple de) := by
  intro M0 mu rho σ H P R at_ hp k
  refine h M0 mu rho σ H _ _ at_ hp fun d mu1 v H1 hd o1 e1 r1 => ?_
  split at hd
  · rename_i ds
    simp only [Rep] at r1
    obtain ⟨a, vs, rfl, na, ha, rs⟩ := r1
    refine ⟨a, rfl, ⟨vs, SqT.of ha⟩, k _ _ _ _ hd o1 e1 fun M' H' i t => ?_⟩
    have ha' := (t a _ na ha).2
    refine ⟨fun d hd => ?_, fun hl => ⟨vs, SqT.of ha', by rw [← rs.len]; exact hl⟩⟩
    obtain ⟨v, hv, rv⟩ := (Reps.tr t _ _ rs).get hd
    refine ⟨⟨vs, v, SqT.of ha', hv⟩, fun x H'' hx => ?_⟩
    obtain ⟨rfl, hx⟩ := hx
    have := hx vs (SqT.of ha')
    rw [hv] at this
    cases this
    exact ⟨rfl, rv⟩
  · exact hd.elim
def dRange (de : DE) : DA := fun rho mu P => de rho mu fun d mu1 => match d with
  | .int n => (0 ≤ n ∧ n ≤ 1000000) ∧ P ((List.range n.toNat).map fun k => D.int ((k : Nat) : Int)) mu1
  | _ => False
theorem li_range {te : TE} {de : DE} (h : LE te de) : LI (iRng1 (tCons te tNil)) (dRange de) := by
  intro M0 mu rho σ H P R at_ hp k
  refine h M0 mu rho σ H _ _ at_ hp fun d mu1 v H1 hd o1 e1 r1 => ?_
  split at hd
  · rename_i n
    obtain rfl := rep_eq rfl r1
    refine ⟨n, rfl, by omega, by omega, k _ _ _ _ hd.2 o1 e1 fun M' H' i t => ?_⟩
    refine ⟨fun d hd => ?_, fun hl => ?_⟩
    · have hi : i < n.toNat := by
        have := (List.getElem?_eq_some_iff.mp hd).1
        simpa using this
      refine ⟨hi, fun x H'' hx => ?_⟩
      obtain ⟨rfl, rfl⟩ := hx
      refine ⟨rfl, ?_⟩
      have e : d = D.int ((i : Nat) : Int) := by
        rw [List.getElem?_map, List.getElem?_range hi] at hd
        exact (Option.some.inj hd).symm
      rw [e]
      have e2 : (0 : Int) + ((i : Nat) : Int) = ((i : Nat) : Int) := Int.zero_add _
      rw [e2]
      exact rep_of rfl
    · show n.toNat ≤ i
      simpa using hl
  · exact hd.elim
section
variable {X : Cx} {tg e : Expr} {te : TE} {de : DE} {p pos : Pos} {x : Str} {iter : Expr} {body : List Stmt} {wi : TI} {di : DA} {tb : TS} {db : DS}
theorem i_list (h : PEd X e te de) : PId X tg e (iList X.K te) (dList de) := ⟨pi_list h.pe, li_list h.le⟩
theorem i_tuple (h : PEd X e te de) : PId X tg e (iTup X.K te) (dTuple de) := ⟨pi_tup h.pe, li_tuple h.le⟩
theorem i_range (hg : Gl X "range") (hm : X.mg "range" = none) (h : PEd X e te de) (hs : starEach [e] X.env = [(false, eval e X.env)] := by rfl) : PId X tg (.Call (.Name "range" p) [e] [] pos) (iRng1 (tCons te tNil)) (dRange de) := ⟨pi_range1 hg hm (pa_cons h.pe pa_nil (by rw [hs]; rfl)) hs, li_range h.le⟩
theorem s_for (i : Nat) (hN : X.N.Nodup) (hc : X.calm = true) (hp : PassesOwn (model X.prog X.w) X.A X.env X.xe) (hi : PId X (.Name x p) iter wi di) (hb : PSsd X body tb db) (hx : X.N[i]? = some x := by rfl) (hl : Loc X.env.scope x := by first | exact .inl rfl | exact .inr rfl)
    (hf : X.fn x = true ∨ X.env.scope.names.lookup x = some .local := by first | exact .inl rfl | exact .inr rfl | assumption) (hs : ∀ x, foldedSetIterable iter X.env x = pure x := by intro _; rfl) : PSd X (.For (.Name x p) iter body [] pos) (tFor wi (gName i) tb) (dForI i di db) :=
  ⟨ps_for hp hc hi.pe (pg_name hN hx hl hf) hb.pe hs, ls_for hi.le hb.le⟩
theorem s_while {c : Expr} {tc : TT} {dc : DT} (hp : PassesOwn (model X.prog X.w) X.A X.env X.xe) (hc : PTd X c tc dc) (hb : PSsd X body tb db) : PSd X (.While c body [] pos) (tWhile tc tb) (dWhile dc db) := ⟨ps_while hp hc.pe hb.pe, ls_while hc.le hb.le⟩
end
end DL
set_option maxHeartbeats 200000
/-! K50E: promises over data, calls, fields, what changes -/
namespace DL
open PySem PySem.Spec PyProof.Rows L2

theorem mapNat_inj : ∀ {a b : List Char}, a.map Char.toNat = b.map Char.toNat → a = b
  | [], [], _ => rfl
  | [], _ :: _, h => by cases h
  | _ :: _, [], h => by cases h
  | x :: xs, y :: ys, h => by
    rw [List.map_cons, List.map_cons] at h
    injection h with h1 h2
    rw [Char.toNat_inj.mp h1, mapNat_inj h2]
theorem strInj {a b : String} : (Str.ofString a = Str.ofString b) = (a = b) := by
  apply propext
  constructor
  · intro h
    rw [Str.ofString_eq_toList, Str.ofString_eq_toList] at h
    have h1 : (a.toList.map Char.toNat).toArray = (b.toList.map Char.toNat).toArray := congrArg Str.cps h
    have h2 : a.toList.map Char.toNat = b.toList.map Char.toNat := by simpa using congrArg Array.toList h1
    have h3 : a.toList = b.toList := mapNat_inj h2
    exact String.toList_inj.mp h3
  · rintro rfl
    rfl

/-! ### promises -/
def spD (R : DR) : Sp := fun vs H Q _ => ∃ M0 mu ds P, Ok M0 mu H ∧ Reps (U M0 mu) H ds vs ∧ R mu ds P ∧ ∀ d mu' v H', P d mu' → Ok M0 mu' H' → Ext mu H mu' H' → Rep (U M0 mu') H' d v → Q v H'
def startD (N : List Str) (ds : List D) : Rho := ds.map some ++ List.replicate (N.length - ds.length) none
theorem start_at {M0 : AP} {mu : Mu} {H : Hp} {N : List Str} {ds : List D} {vs : List V} (o : Ok M0 mu H) (r : Reps (U M0 mu) H ds vs) : At M0 mu (startD N ds) (L2.start N vs) H := by
  refine ⟨o, ?_⟩
  unfold startD L2.start
  rw [r.len]
  exact slots_args _ r
abbrev endsOf (mu : Mu) (P : PD) : DEnds := ⟨mu, fun _ mu' => P .non mu', P, fun _ _ => False, fun _ _ => False⟩
theorem body_of {X : Cx} {N : List Str} {sts : List Stmt} {ts : TS} {ds : DS} {R : DR} (h : PSsd X sts ts ds) (hb : ∀ mu es P, R mu es P → ds (endsOf mu P) (startD N es) mu) {vs : List V} {H : Hp} {Q : VK} {E : XK} (hs : spD R vs H Q E) :
    ∃ t, PSs X sts t ∧ t { nx := fun _ H' => Q .non H', rt := Q } (L2.start N vs) H := by
  obtain ⟨M0, mu, es, P, ok, rs, hr, k⟩ := hs
  refine ⟨ts, h.pe, ?_⟩
  refine h.le M0 H mu H _ (endsOf mu P) ⟨ok.live, fun rho mu' σ H' a e _ q => ?_, fun d mu' v H' o e _ r q => ?_, fun _ _ _ _ _ _ _ q => q.elim, fun _ _ _ _ _ _ _ q => q.elim⟩ _ _ _ _ (start_at ok rs) (Ext.refl _ _) (Ext.refl _ _) (hb mu es P hr)
  · exact k _ _ _ _ q a.ok e (rep_of rfl)
  · exact k _ _ _ _ q o e r
theorem len_spD {R : DR} {n : Nat} (h : ∀ mu ds P, R mu ds P → ds.length = n) : ∀ vs H Q E, spD R vs H Q E → vs.length = n := by
  rintro vs H Q E ⟨M0, mu, es, P, ok, rs, hr, k⟩
  rw [← rs.len]
  exact h _ _ _ hr
section
variable {Pr : Program} {w : World} {K : PySem.W.Frag} {mg : Str → Option Value} {base : Heap}
theorem cald {x : Str} {st : Stmt} {f : Addr} {fd : FuncData} {N ps : List Str} {k : Nat} {R : DR} {dds : DS} (F : C8.Def K mg x st f fd) (b : Binds K fd ps []) (S : FnScope N ps (C8.fnScope st)) (len : ∀ mu ds P, R mu ds P → ds.length = ps.length)
    (der : ∀ (cdv : Value) (A : Around) (outer : List Env) (s : Shared) (H : Hp) (E : XK), Room k (A.deeper (envOfC x (C8.fnScope st) s.heap.objs.size f cdv)) → ∃ ts, PSsd (cxOf C8.CX0 Pr w K mg base N x (C8.fnScope st) f cdv A outer s H E).nox (C8.fnBody st) ts dds)
    (body : ∀ mu es P, R mu es P → dds (endsOf mu P) (startD N es) mu) : C8.Cal Pr w K mg base (k + 1) x (spD R) [] :=
  C8.cal0 F b .nil S (len_spD len) fun cdv A outer s H vs Q E hr h => by
    obtain ⟨ts, ht⟩ := der cdv A outer s H E hr
    exact body_of ht body h
theorem metd {m qual : Str} {C : Addr} {st : Stmt} {f : Addr} {fd : FuncData} {N ps : List Str} {k : Nat} {R : DR} {dds : DS} (c : Cls K C) (me : Meth K C m f) (F : C8.Fun K m qual st f fd) (b : Binds K fd ps []) (S : FnScope N ps (C8.fnScope st)) (len : ∀ mu ds P, R mu ds P → ds.length = ps.length)
    (der : ∀ (cdv : Value) (A : Around) (outer : List Env) (s : Shared) (H : Hp) (E : XK), Room k (A.deeper (envOfC qual (C8.fnScope st) s.heap.objs.size f cdv)) → ∃ ts, PSsd (cxOf C8.CX0 Pr w K mg base N qual (C8.fnScope st) f cdv A outer s H E).nox (C8.fnBody st) ts dds)
    (body : ∀ mu es P, R mu es P → dds (endsOf mu P) (startD N es) mu) : C8.Met Pr w K mg base (k + 1) C m (spD R) [] :=
  C8.met0 c me F b S (len_spD len) fun cdv A outer s H vs Q E hr h => by
    obtain ⟨ts, ht⟩ := der cdv A outer s H E hr
    exact body_of ht body h
theorem makd {x qual : Str} {C : Addr} {st : Stmt} {f : Addr} {fd : FuncData} {N ps : List Str} {k : Nat} {R : DR} {dds : DS} (M : Mk K C f) (hm : mg x = some (.ref C)) (F : C8.Fun K "__init__" qual st f fd) (b : Binds K fd ps []) (S : FnScope N ps (C8.fnScope st)) (len : ∀ mu ds P, R mu ds P → ds.length = ps.length)
    (der : ∀ (cdv : Value) (A : Around) (outer : List Env) (s : Shared) (H : Hp) (E : XK), Room k (A.deeper (envOfC qual (C8.fnScope st) s.heap.objs.size f cdv)) → ∃ ts, PSsd (cxOf C8.CX0 Pr w K mg base N qual (C8.fnScope st) f cdv A outer s H E).nox (C8.fnBody st) ts dds)
    (body : ∀ mu es P, R mu es P → dds (endsOf mu P) (startD N es) mu) : C8.Mak Pr w K mg base (k + 1) x C (spD R) [] :=
  C8.mak0 M hm F b .nil S (len_spD len) fun cdv A outer s H vs Q E hr h => by
    obtain ⟨ts, ht⟩ := der cdv A outer s H E hr
    exact body_of ht body h
end

/-! ### calls -/
def dCall (R : DR) (da : DA) : DE := fun rho mu P => da rho mu fun ds mu1 => R mu1 ds P
theorem le_call {R : DR} {ta : TA} {da : DA} {E : XK} (h : LA ta da) : LE (tCall (spD R) [] E ta) (dCall R da) := by
  intro M0 mu rho σ H P Q at_ hp k
  refine h M0 mu rho σ H _ _ at_ hp fun ds mu1 vs H1 hd o1 e1 r1 => ?_
  refine ⟨M0, mu1, ds, P, o1, by rw [List.append_nil]; exact r1, hd, fun d mu' v H' hq o e r => k d mu' v H' hq o (e1.trans e) r⟩
def dMeth (C : Addr) (m : Str) (R : DR) (do_ : DE) (da : DA) : DE := fun rho mu P => do_ rho mu fun x mu1 => match x with
  | .obj a => match mget mu1 a with
    | some (.ins C' ns ds) => C' = C ∧ m ∉ ns ∧ da rho mu1 fun es mu2 => R mu2 (.obj a :: es) P
    | _ => False
  | _ => False
theorem lookup_zip_none {m : Str} : ∀ {ns : List Str} {vs : List V}, m ∉ ns → (ns.zip vs).lookup m = none
  | [], vs, h => by cases vs <;> rfl
  | n :: ns, [], h => rfl
  | n :: ns, v :: vs, h => by
    have hb : (m == n) = false := beq_eq_false_iff_ne.mpr fun e => h (by rw [e]; exact List.mem_cons_self)
    show (match m == n with | true => some v | false => (ns.zip vs).lookup m) = none
    rw [hb]
    exact lookup_zip_none fun q => h (List.mem_cons_of_mem _ q)
theorem le_meth {C : Addr} {m : Str} {R : DR} {to : TE} {do_ : DE} {ta : TA} {da : DA} {E : XK} (ho : LE to do_) (h : LA ta da) : LE (tMeth C m (spD R) [] E to ta) (dMeth C m R do_ da) := by
  intro M0 mu rho σ H P Q at_ hp k
  refine ho M0 mu rho σ H _ _ at_ hp fun x mu1 v H1 hd o1 e1 r1 => ?_
  split at hd
  · rename_i a
    obtain rfl := rep_eq rfl r1
    split at hd
    · rename_i C' ns ds hg
      obtain ⟨rfl, hm, hd⟩ := hd
      obtain ⟨dx, vs, ha, hl, rs⟩ := o1.cell a _ hg
      refine ⟨a, dx, _, rfl, ha, lookup_zip_none hm, ?_⟩
      refine h M0 mu1 rho σ H1 _ _ (at_.to o1 e1) hd fun es mu2 ws H2 hq o2 e2 r2 => ?_
      exact ⟨M0, mu2, _, P, o2, by rw [List.append_nil]; exact reps_cons (rep_of rfl) r2, hq, fun d mu' v H' hz o e r => k d mu' v H' hz o ((e1.trans e2).trans e) r⟩
    · exact hd.elim
  · exact hd.elim
/-- C(..): a new instance that may change -/
def dMake (C : Addr) (R : DR) (da : DA) : DE := fun rho mu P => da rho mu fun es mu1 => ∀ p, p ∉ dom mu1 → R ((p, .ins C [] []) :: mu1) (.obj p :: es) fun d mu2 => d = .non ∧ P (.obj p) mu2
theorem le_make {C : Addr} {R : DR} {ta : TA} {da : DA} {E : XK} (h : LA ta da) : LE (tMake C (spD R) [] E ta) (dMake C R da) := by
  intro M0 mu rho σ H P Q at_ hp k
  refine h M0 mu rho σ H _ _ at_ hp fun es mu1 vs H1 hd o1 e1 r1 x dx nx ndx nex => ?_
  have o2 : Ok M0 mu1 (upd H1 dx (.own x)) := o1.new ndx
  have nx2 : upd H1 dx (.own x) x = none := by rw [upd_ne (Ne.symm nex)]; exact nx
  have e2 : Ext mu1 H1 mu1 (upd H1 dx (.own x)) := ext_new ndx
  have o3 : Ok M0 ((x, .ins C [] []) :: mu1) (upd (upd H1 dx (.own x)) x (.ins C dx [])) := o2.newcell nx2 ⟨dx, [], upd_same, rfl, reps_nil⟩
  have e3 : Ext mu1 H1 ((x, .ins C [] []) :: mu1) (upd (upd H1 dx (.own x)) x (.ins C dx [])) := e2.trans (ext_cell nx2)
  refine ⟨M0, _, _, _, o3, by rw [List.append_nil]; exact reps_cons (rep_of rfl) (Reps.tr e3.tr _ _ r1), hd x (o1.notdom nx), fun d mu' v H' hq o e r => ?_⟩
  obtain ⟨rfl, hq⟩ := hq
  refine ⟨rep_eq rfl r, k _ _ _ _ hq o ((e1.trans e3).trans e) (rep_of rfl)⟩
/-- what an expression has made is unchangeable from here on -/
def dFrzE (de : DE) : DE := fun rho mu P => de rho mu fun d mu1 => match d with
  | .obj a => ∃ u d', a ∉ dom mu ∧ mget mu1 a = some u ∧ frz u = some d' ∧ P d' (mdel mu1 a)
  | _ => False
theorem le_frz {te : TE} {de : DE} (h : LE te de) : LE te (dFrzE de) := by
  intro M0 mu rho σ H P Q at_ hp k
  refine h M0 mu rho σ H _ _ at_ hp fun d mu1 v H1 hd o1 e1 r1 => ?_
  split at hd
  · rename_i a
    obtain ⟨u, d', hn, hg, hf, hp⟩ := hd
    obtain rfl := rep_eq rfl r1
    have hm : ¬ M0 a := fun q => by
      obtain ⟨o, z⟩ := at_.ok.live a (.inl q)
      rcases e1.new a (mget_dom hg) with y | y
      · exact hn y
      · rw [z] at y; cases y
    exact k _ _ _ _ hp (o1.del hm) (ext_del e1) (o1.frz hm hg hf)
  · exact hd.elim
section
variable {X : Cx} {k j : Nat} {C : Addr} {x m : Str} {R : DR} {p pos apos : Pos} {e o : Expr} {es : List Expr} {to te : TE} {do_ de : DE} {ta : TA} {da : DA}
theorem d_call (c : C8.Cal X.prog X.w X.K X.mg X.base k x (spD R) []) (hr : Room j X.A) (hk : k ≤ j) (hg : Gl X x) (ha : PAd X (e :: es) ta da)
    (hdb : (x == ("__debug__" : Str)) = false := by decide) (he : starEach (e :: es) X.env = (false, eval e X.env) :: starEach es X.env := by rfl) (hpl : (backTo pos (starEach es X.env)).any (·.1) = false := by rfl) :
    PEd X (.Call (.Name x p) (e :: es) [] pos) (tCall (spD R) [] C8.E0 ta) (dCall R da) := ⟨C8.pe_c c hr hk hg ha.pe hdb he hpl, le_call ha.le⟩
theorem d_make (c : C8.Mak X.prog X.w X.K X.mg X.base k x C (spD R) []) (hr : Room j X.A) (hk : k + 1 ≤ j) (hg : Gl X x) (ha : PAd X (e :: es) ta da)
    (hdb : (x == ("__debug__" : Str)) = false := by decide) (he : starEach (e :: es) X.env = (false, eval e X.env) :: starEach es X.env := by rfl) (hpl : (backTo pos (starEach es X.env)).any (·.1) = false := by rfl) :
    PEd X (.Call (.Name x p) (e :: es) [] pos) (tMake C (spD R) [] C8.E0 ta) (dMake C R da) := ⟨C8.pe_mk c hr hk hg ha.pe hdb he hpl, le_make ha.le⟩
theorem d_meth0 {pl : Sem Bool} (c : C8.Met X.prog X.w X.K X.mg X.base k C m (spD R) []) (hr : Room j X.A) (hk : k ≤ j) (he : PEd X o to do_)
    (ht : eval (.Call (.Attribute o m apos) [] [] pos) X.env = (do
      let ov ← eval o X.env
      standAt apos.atName
      let (f, first) ← holding [ov] (getMethod ov m pl)
      callWith pos f first (backTo pos (starEach [] X.env)) (backToKw pos (keywordEach [] X.env))) := by rfl) :
    PEd X (.Call (.Attribute o m apos) [] [] pos) (tMeth C m (spD R) [] C8.E0 to tNil) (dMeth C m R do_ dNil) := ⟨C8.pe_mt0 (pl := pl) c hr hk he.pe ht, le_meth he.le la_nil⟩
theorem d_frz (h : PEd X e te de) : PEd X e te (dFrzE de) := ⟨h.pe, le_frz h.le⟩
end

/-! ### fields -/
def flk {α : Type} (f : Str) : List Str → List α → Option α
  | n :: ns, x :: xs => if n = f then some x else flk f ns xs
  | _, _ => none
def nput (f : Str) : List Str → List Str
  | [] => [f]
  | n :: ns => if n = f then n :: ns else n :: nput f ns
def vput {α : Type} (f : Str) (x : α) : List Str → List α → List α
  | n :: ns, y :: ys => if n = f then x :: ys else y :: vput f x ns ys
  | _, _ => [x]
theorem flk_zip {f : Str} : ∀ (ns : List Str) (vs : List V), (ns.zip vs).lookup f = flk f ns vs
  | [], vs => by cases vs <;> rfl
  | n :: ns, [] => rfl
  | n :: ns, v :: vs => by
    show (match f == n with | true => some v | false => (ns.zip vs).lookup f) = if n = f then some v else flk f ns vs
    by_cases e : n = f
    · have hb : (f == n) = true := beq_iff_eq.mpr e.symm
      rw [hb, if_pos e]
    · have hb : (f == n) = false := beq_eq_false_iff_ne.mpr (Ne.symm e)
      rw [hb, if_neg e]
      exact flk_zip ns vs
theorem flk_rep {M : AP} {H : Hp} {f : Str} : ∀ {ns : List Str} {ds : List D} {vs : List V} {d : D}, Reps M H ds vs → flk f ns ds = some d → ∃ v, flk f ns vs = some v ∧ Rep M H d v
  | [], ds, vs, d, r, h => by cases ds <;> cases h
  | n :: ns, [], vs, d, r, h => by cases h
  | n :: ns, x :: ds, vs, d, r, h => by
    simp only [Reps] at r
    obtain ⟨v, vs', rfl, r1, r2⟩ := r
    unfold flk at h ⊢
    by_cases e : n = f
    · rw [if_pos e] at h ⊢
      cases h
      exact ⟨v, rfl, r1⟩
    · rw [if_neg e] at h ⊢
      exact flk_rep r2 h
theorem putF_zip {f : Str} {v : V} : ∀ {ns : List Str} {vs : List V}, ns.length = vs.length → putF f v (ns.zip vs) = (nput f ns).zip (vput f v ns vs)
  | [], [], h => rfl
  | [], _ :: _, h => by cases h
  | _ :: _, [], h => by cases h
  | n :: ns, w :: vs, h => by
    show (if n = f then (n, v) :: ns.zip vs else (n, w) :: putF f v (ns.zip vs)) = (if n = f then n :: ns else n :: nput f ns).zip (if n = f then v :: vs else w :: vput f v ns vs)
    by_cases e : n = f
    · rw [if_pos e, if_pos e, if_pos e]
      rfl
    · rw [if_neg e, if_neg e, if_neg e, putF_zip (by simpa using h)]
      rfl
theorem len_put {α : Type} {f : Str} {x : α} : ∀ {ns : List Str} {ds : List α}, ns.length = ds.length → (nput f ns).length = (vput f x ns ds).length
  | [], [], h => rfl
  | [], _ :: _, h => by cases h
  | _ :: _, [], h => by cases h
  | n :: ns, w :: vs, h => by
    show (if n = f then n :: ns else n :: nput f ns).length = (if n = f then x :: vs else w :: vput f x ns vs).length
    by_cases e : n = f
    · rw [if_pos e, if_pos e]
      simpa using h
    · rw [if_neg e, if_neg e]
      have := len_put (x := x) (f := f) (ns := ns) (ds := vs) (by simpa using h)
      simpa using this
theorem reps_vput {M : AP} {H : Hp} {f : Str} {d : D} {v : V} (a : Rep M H d v) : ∀ {ns : List Str} {ds : List D} {vs : List V}, Reps M H ds vs → Reps M H (vput f d ns ds) (vput f v ns vs)
  | [], ds, vs, r => by
    have e1 : vput f d [] ds = [d] := by cases ds <;> rfl
    have e2 : vput f v [] vs = [v] := by cases vs <;> rfl
    rw [e1, e2]
    exact reps_one a
  | n :: ns, [], vs, r => by
    simp only [Reps] at r
    subst r
    exact reps_one a
  | n :: ns, x :: ds, vs, r => by
    simp only [Reps] at r
    obtain ⟨w, vs', rfl, r1, r2⟩ := r
    show Reps M H (if n = f then d :: ds else x :: vput f d ns ds) (if n = f then v :: vs' else w :: vput f v ns vs')
    by_cases e : n = f
    · rw [if_pos e, if_pos e]
      exact reps_cons a r2
    · rw [if_neg e, if_neg e]
      exact reps_cons r1 (reps_vput a r2)
/-- o.f of an instance of C, frozen or not -/
def insv (mu : Mu) (C : Addr) : D → Option (List Str × List D)
  | .ins C' ns ds => if C' = C then some (ns, ds) else none
  | .obj a => match mget mu a with
    | some (.ins C' ns ds) => if C' = C then some (ns, ds) else none
    | _ => none
  | _ => none
theorem insv_at {M0 : AP} {mu : Mu} {H : Hp} {C : Addr} {d : D} {ns : List Str} {ds : List D} {v : V} (o : Ok M0 mu H) (r : Rep (U M0 mu) H d v) (h : insv mu C d = some (ns, ds)) :
    ∃ a dx vs, v = .ref a ∧ H a = some (.ins C dx (ns.zip vs)) ∧ ns.length = ds.length ∧ Reps (U M0 mu) H ds vs := by
  unfold insv at h
  split at h
  · rename_i C' ns' ds'
    simp only [Rep] at r
    obtain ⟨a, dx, vs, h1, _, h2, h4, h3⟩ := r
    split at h
    · rename_i e
      cases h
      subst e
      exact ⟨a, dx, vs, h1, h2, h4, h3⟩
    · cases h
  · rename_i a
    simp only [Rep] at r
    split at h
    · rename_i C' ns' ds' hg
      split at h
      · rename_i e
        cases h
        subst e
        obtain ⟨dx, vs, h1, h4, h2⟩ := o.cell a _ hg
        exact ⟨a, dx, vs, r, h1, h4, h2⟩
      · cases h
    · cases h
  · cases h
def dFld (C : Addr) (f : Str) (de : DE) : DE := fun rho mu P => de rho mu fun x mu1 => match insv mu1 C x with
  | some (ns, ds) => (match flk f ns ds with
    | some d => P d mu1
    | none => False)
  | none => False
theorem le_fld {K : PySem.W.Frag} {C : Addr} {f : Str} {te : TE} {de : DE} (hc : Cls K C) (hn : NoAttr K C f) (h : LE te de) : LE (tFld K te f) (dFld C f de) := by
  intro M0 mu rho σ H P Q at_ hp k
  refine h M0 mu rho σ H _ _ at_ hp fun x mu1 v H1 hd o1 e1 r1 => ?_
  split at hd
  · rename_i ns ds hi
    split at hd
    · rename_i d hf
      obtain ⟨a, dx, vs, rfl, ha, hl, rs⟩ := insv_at o1 r1 hi
      obtain ⟨u, hu, ru⟩ := flk_rep rs hf
      exact ⟨a, C, dx, _, u, rfl, ha, hc, hn, by rw [flk_zip]; exact hu, k _ _ _ _ hd o1 e1 ru⟩
    · exact hd.elim
  · exact hd.elim
/-- o.f = e -/
def dFldSet (C : Addr) (f : Str) (do_ dv : DE) : DS := fun D rho mu => dv rho mu fun y mu1 => do_ rho mu1 fun x mu2 => match x with
  | .obj a => match mget mu2 a with
    | some (.ins C' ns ds) => C' = C ∧ ns.length ≤ 100 ∧ D.nx rho (mput mu2 a (.ins C (nput f ns) (vput f y ns ds)))
    | _ => False
  | _ => False
theorem ins_put {M0 : AP} {mu : Mu} {H : Hp} {a C dx : Addr} {ns : List Str} {ds : List D} {vs : List V} {f : Str} {y : D} {v : V} (o : Ok M0 mu H) (hg : mget mu a = some (.ins C ns ds)) (ha : H a = some (.ins C dx (ns.zip vs))) (hl : ns.length = ds.length) (rs : Reps (U M0 mu) H ds vs) (ry : Rep (U M0 mu) H y v) :
    Ok M0 (mput mu a (.ins C (nput f ns) (vput f y ns ds))) (upd H a (.ins C dx (putF f v (ns.zip vs)))) := by
  have t := (ext_put (H := H) (o := .ins C dx (putF f v (ns.zip vs))) (u := .ins C (nput f ns) (vput f y ns ds)) (mget_dom hg)).tr (M0 := M0)
  rw [U_put] at t
  refine o.put (mget_dom hg) ⟨dx, vput f v ns vs, ?_, len_put hl, Reps.tr t _ _ (reps_vput ry rs)⟩
  rw [upd_same, putF_zip (hl.trans rs.len)]
theorem zip_len {ns : List Str} {vs : List V} (h : ns.length ≤ 100) : (ns.zip vs).length < 1000 := by
  rw [List.length_zip]
  omega
theorem ls_fld {K : PySem.W.Frag} {C : Addr} {f : Str} {to tv : TE} {do_ dv : DE} (hc : Cls K C) (hn : NoAttr K C f) (ho : LE to do_) (hv : LE tv dv) : LS (sFld K to tv f) (dFldSet C f do_ dv) := by
  intro M0 H0 ms Hs E D L rho mu σ H at_ e0 es hp
  refine hv M0 mu rho σ H _ _ at_ hp fun y mu1 w H1 hd o1 e1 r1 => ?_
  refine ho M0 mu1 rho σ H1 _ _ (at_.to o1 e1) hd fun x mu2 v H2 hd2 o2 e2 r2 => ?_
  split at hd2
  · rename_i a
    obtain rfl := rep_eq rfl r2
    split at hd2
    · rename_i C' ns ds hg
      obtain ⟨rfl, hl100, hd2⟩ := hd2
      obtain ⟨dx, vs, ha, hl, rs⟩ := o2.cell a _ hg
      have o3 := ins_put (f := f) o2 hg ha hl rs (Rep.tr e2.tr _ _ r1)
      have e3 := ext_put (H := H2) (o := .ins C' dx (putF f w (ns.zip vs))) (u := .ins C' (nput f ns) (vput f y ns ds)) (mget_dom hg)
      refine ⟨a, C', dx, _, rfl, ha, hc, hn, zip_len hl100, ?_⟩
      exact L.nx _ _ _ _ (((at_.to o1 e1).to o2 e2).to o3 e3) (((e0.trans e1).trans e2).trans e3) (((es.trans e1).trans e2).trans e3) hd2
    · exact hd2.elim
  · exact hd2.elim
/-- o.f += e, whole numbers -/
def dFldAdd (C : Addr) (f : Str) (do_ dv : DE) : DS := fun D rho mu => do_ rho mu fun x mu1 => match x with
  | .obj a => match mget mu1 a with
    | some (.ins C' ns ds) => C' = C ∧ ns.length ≤ 100 ∧ (match flk f ns ds with
      | some (.int i) => dv rho mu1 fun y mu2 => match y with
        | .int j => mu2 = mu1 ∧ D.nx rho (mput mu1 a (.ins C (nput f ns) (vput f (.int (i + j)) ns ds)))
        | _ => False
      | _ => False)
    | _ => False
  | _ => False
theorem ls_fldadd {K : PySem.W.Frag} {C : Addr} {f : Str} {to tv : TE} {do_ dv : DE} (hc : Cls K C) (hn : NoAttr K C f) (ho : LE to do_) (hv : LE tv dv) : LS (sFldAug K to tv rAdd f) (dFldAdd C f do_ dv) := by
  intro M0 H0 ms Hs E D L rho mu σ H at_ e0 es hp
  refine ho M0 mu rho σ H _ _ at_ hp fun x mu1 v H1 hd o1 e1 r1 => ?_
  split at hd
  · rename_i a
    obtain rfl := rep_eq rfl r1
    split at hd
    · rename_i C' ns ds hg
      obtain ⟨rfl, hl100, hd⟩ := hd
      split at hd
      · rename_i i hf
        obtain ⟨dx, vs, ha, hl, rs⟩ := o1.cell a _ hg
        obtain ⟨u, hu, ru⟩ := flk_rep rs hf
        obtain rfl := rep_eq rfl ru
        refine ⟨a, C', dx, _, _, rfl, ha, hc, hn, by rw [flk_zip]; exact hu, ?_⟩
        refine hv M0 mu1 rho σ H1 _ _ (at_.to o1 e1) hd fun y mu2 w H2 hd2 o2 e2 r2 => ?_
        split at hd2
        · rename_i j
          obtain ⟨rfl, hd2⟩ := hd2
          obtain rfl := rep_eq rfl r2
          obtain ⟨dx2, vs2, ha2, hl2, rs2⟩ := o2.cell a _ hg
          have o3 := ins_put (f := f) (y := .int (i + j)) (v := .int (i + j)) o2 hg ha2 hl2 rs2 (rep_of rfl)
          have e3 := ext_put (H := H2) (o := .ins C' dx2 (putF f (.int (i + j)) (ns.zip vs2))) (u := .ins C' (nput f ns) (vput f (.int (i + j)) ns ds)) (mget_dom hg)
          refine ⟨i, j, rfl, rfl, dx2, _, ha2, zip_len hl100, ?_⟩
          exact L.nx _ _ _ _ (((at_.to o1 e1).to o2 e2).to o3 e3) (((e0.trans e1).trans e2).trans e3) (((es.trans e1).trans e2).trans e3) hd2
        · exact hd2.elim
      · exact hd.elim
    · exact hd.elim
  · exact hd.elim
section
variable {X : Cx} {C : Addr} {f : Str} {o e value : Expr} {pos pos' tpos : Pos} {to te tv : TE} {do_ de dv : DE}
theorem d_fld (C : Addr) (hc : Cls X.K C) (hn : NoAttr X.K C f) (he : PEd X e te de) (hb : attributeBase e f X.env (eval e X.env) = eval e X.env := by rfl) : PEd X (.Attribute e f pos) (tFld X.K te f) (dFld C f de) := ⟨pe_fld he.pe hb, le_fld hc hn he.le⟩
theorem s_fld (C : Addr) (hc : Cls X.K C) (hn : NoAttr X.K C f) (ho : PEd X o to do_) (hv : PEd X value tv dv) (hs : swapsWith value (some (.Attribute o f pos')) pos.line X.env = pure false := by rfl) : PSd X (.Assign [.Attribute o f pos'] value pos) (sFld X.K to tv f) (dFldSet C f do_ dv) := ⟨ps_fld ho.pe hv.pe hs, ls_fld hc hn ho.le hv.le⟩
theorem s_fldadd (C : Addr) (hc : Cls X.K C) (hn : NoAttr X.K C f) (ho : PEd X o to do_) (hv : PEd X value tv dv) : PSd X (.AugAssign (.Attribute o f tpos) .Add value pos) (sFldAug X.K to tv rAdd f) (dFldAdd C f do_ dv) := ⟨ps_fldaug ho.pe hv.pe in_add, ls_fldadd hc hn ho.le hv.le⟩
end
end DL
set_option maxHeartbeats 200000
/-! K50F: unpacking, stores into lists and dicts, methods of lists, built-ins, comprehensions -/
namespace DL
open PySem PySem.Spec PyProof.Rows L2

/-! ### a, b, .. = e -/
def setAll : List Nat → List D → Rho → Rho
  | i :: is, d :: ds, rho => setAll is ds (rho.set i (some d))
  | _, _, rho => rho
def dUnp (de : DE) (is : List Nat) : DS := fun D rho mu => de rho mu fun d mu1 => match tv d with
  | some ds => ds.length = is.length ∧ D.nx (setAll is ds rho) mu1
  | none => False
def dUnl (de : DE) (is : List Nat) : DS := fun D rho mu => de rho mu fun d mu1 => match lv mu1 d with
  | some ds => ds.length = is.length ∧ D.nx (setAll is ds rho) mu1
  | none => False
def gNames : List Nat → TGs
  | [] => gNil
  | i :: is => gCons (gName i) (gNames is)
theorem names_ok {M0 : AP} {mu : Mu} {H : Hp} {Q : L2.St → Hp → Prop} : ∀ {is : List Nat} {ds : List D} {vs : List V} {rho : Rho} {σ : L2.St}, At M0 mu rho σ H → Reps (U M0 mu) H ds vs → ds.length = is.length →
    (∀ σ', At M0 mu (setAll is ds rho) σ' H → Q σ' H) → gNames is vs σ H Q
  | [], [], vs, rho, σ, a, r, h, k => by
    simp only [Reps] at r
    exact ⟨r, k σ a⟩
  | [], _ :: _, vs, rho, σ, a, r, h, k => by cases h
  | i :: is, [], vs, rho, σ, a, r, h, k => by cases h
  | i :: is, d :: ds, vs, rho, σ, a, r, h, k => by
    simp only [Reps] at r
    obtain ⟨v, vs', rfl, r1, r2⟩ := r
    exact ⟨v, vs', rfl, names_ok (a.set i r1) r2 (by simpa using h) k⟩
theorem ls_unp {K : PySem.W.Frag} {te : TE} {de : DE} {is : List Nat} (h : LE te de) : LS (tAsg te (gTup K is.length (gNames is))) (dUnp de is) := by
  intro M0 H0 ms Hs E D L rho mu σ H at_ e0 es hp
  refine h M0 mu rho σ H _ _ at_ hp fun d mu1 v H1 hd o1 e1 r1 => ?_
  split at hd
  · rename_i ds e
    obtain ⟨a, vs, rfl, ha, rs⟩ := tv_at r1 e
    refine ⟨a, vs, rfl, SqT.of ha, by rw [← rs.len]; exact hd.1, ?_⟩
    exact names_ok (at_.to o1 e1) rs hd.1 fun σ' a' => L.nx _ _ _ _ a' (e0.trans e1) (es.trans e1) hd.2
  · exact hd.elim
theorem ls_unl {K : PySem.W.Frag} {te : TE} {de : DE} {is : List Nat} (h : LE te de) : LS (tAsg te (gUnl K is.length (gNames is))) (dUnl de is) := by
  intro M0 H0 ms Hs E D L rho mu σ H at_ e0 es hp
  refine h M0 mu rho σ H _ _ at_ hp fun d mu1 v H1 hd o1 e1 r1 => ?_
  split at hd
  · rename_i ds e
    obtain ⟨a, vs, rfl, ha, rs⟩ := lv_at o1 r1 e
    refine ⟨a, vs, rfl, SqL.of ha, by rw [← rs.len]; exact hd.1, ?_⟩
    exact names_ok (at_.to o1 e1) rs hd.1 fun σ' a' => L.nx _ _ _ _ a' (e0.trans e1) (es.trans e1) hd.2
  · exact hd.elim
/-- x, y = a, b -/
def dPar (i j : Nat) (da db : DE) : DS := fun D rho mu => da rho mu fun x mu1 => db rho mu1 fun y mu2 => D.nx ((rho.set i (some x)).set j (some y)) mu2
theorem ls_par {i j : Nat} {ta tb : TE} {da db : DE} (ha : LE ta da) (hb : LE tb db) : LS (tPar i j (tCons ta (tCons tb tNil))) (dPar i j da db) := by
  intro M0 H0 ms Hs E D L rho mu σ H at_ e0 es hp
  refine ha M0 mu rho σ H _ _ at_ hp fun x mu1 v H1 hd o1 e1 r1 => ?_
  refine hb M0 mu1 rho σ H1 _ _ (at_.to o1 e1) hd fun y mu2 w H2 hd2 o2 e2 r2 => ?_
  refine ⟨v, w, rfl, ?_⟩
  exact L.nx _ _ _ _ ((((at_.to o1 e1).to o2 e2).set i (Rep.tr e2.tr _ _ r1)).set j r2) ((e0.trans e1).trans e2) ((es.trans e1).trans e2) hd2
section
variable {X : Cx} {e a b : Expr} {te ta tb : TE} {de da db : DE} {es : List Expr} {kt : Nat} {pos pt : Pos} {is : List Nat} {x y : Str} {px py pt2 : Pos} {k2 : Nat}
theorem s_unp (is : List Nat) (hc : X.calm = true) (hg : PGs X es (gNames is)) (he : PEd X e te de) (hn : (assignEach es X.env).length = is.length := by rfl) (hst : (assignEach es X.env).findIdx? (·.1) = none := by rfl)
    (hs : swapsWithSole [.Tuple es kt pt] e pos.line X.env = pure false := by rfl) (hw : swappedStores [.Tuple es kt pt] e X.env = pure none := by rfl) (h1 : (assignEach [.Tuple es kt pt] X.env).map (·.2) = [assign (.Tuple es kt pt) X.env] := by rfl) :
    PSd X (.Assign [.Tuple es kt pt] e pos) (tAsg te (gTup X.K is.length (gNames is))) (dUnp de is) := ⟨ps_asg he.pe (pg_tup hc hg hn hst) hs hw h1, ls_unp he.le⟩
theorem s_unl (is : List Nat) (hc : X.calm = true) (hg : PGs X es (gNames is)) (he : PEd X e te de) (hn : (assignEach es X.env).length = is.length := by rfl) (hst : (assignEach es X.env).findIdx? (·.1) = none := by rfl)
    (hs : swapsWithSole [.Tuple es kt pt] e pos.line X.env = pure false := by rfl) (hw : swappedStores [.Tuple es kt pt] e X.env = pure none := by rfl) (h1 : (assignEach [.Tuple es kt pt] X.env).map (·.2) = [assign (.Tuple es kt pt) X.env] := by rfl) :
    PSd X (.Assign [.Tuple es kt pt] e pos) (tAsg te (gUnl X.K is.length (gNames is))) (dUnl de is) := ⟨ps_asg he.pe (pg_unl hc hg hn hst) hs hw h1, ls_unl he.le⟩
theorem s_par (i j : Nat) (hc : X.calm = true) (hN : X.N.Nodup) (ha : PEd X a ta da) (hb : PEd X b tb db) (hi : X.N[i]? = some x := by rfl) (hj : X.N[j]? = some y := by rfl) (hij : i ≠ j := by decide)
    (hx : X.env.scope.names.lookup x = some .local := by rfl) (hy : X.env.scope.names.lookup y = some .local := by rfl)
    (hw : swappedStores [.Tuple [.Name x px, .Name y py] kt pt] (.Tuple [a, b] k2 pt2) X.env = pure (some [x, y]) := by rfl)
    (hs : swapsWithSole [.Tuple [.Name x px, .Name y py] kt pt] (.Tuple [a, b] k2 pt2) pos.line X.env = pure false := by rfl)
    (h1 : starEach [a, b] X.env = (false, eval a X.env) :: starEach [b] X.env := by rfl) (h2 : starEach [b] X.env = (false, eval b X.env) :: starEach [] X.env := by rfl) :
    PSd X (.Assign [.Tuple [.Name x px, .Name y py] kt pt] (.Tuple [a, b] k2 pt2) pos) (tPar i j (tCons ta (tCons tb tNil))) (dPar i j da db) :=
  ⟨ps_par hc hN hi hj hij hx hy (pa_cons ha.pe (pa_cons hb.pe pa_nil h2) h1) hw hs, ls_par ha.le hb.le⟩
end

/-! ### xs[i] = e -/
def dSetIx (dv do_ di : DE) : DS := fun D rho mu => dv rho mu fun y mu1 => do_ rho mu1 fun x mu2 => di rho mu2 fun z mu3 => match x, z with
  | .obj a, .int i => match mget mu3 a with
    | some (.lst ds) => (match ixN ds.length i with
      | some j => D.nx rho (mput mu3 a (.lst (ds.set j y)))
      | none => False)
    | _ => False
  | _, _ => False
theorem lst_put {M0 : AP} {mu : Mu} {H : Hp} {a : Addr} {ds es : List D} {ws : List V} (o : Ok M0 mu H) (hg : mget mu a = some (.lst ds)) (rs : Reps (U M0 mu) H es ws) : Ok M0 (mput mu a (.lst es)) (upd H a (.lst ws)) := by
  have t := (ext_put (H := H) (o := .lst ws) (u := .lst es) (mget_dom hg)).tr (M0 := M0)
  rw [U_put] at t
  exact o.put (mget_dom hg) ⟨ws, upd_same, Reps.tr t _ _ rs⟩
theorem ls_setix {to ti tv : TE} {do_ di dv : DE} (hv : LE tv dv) (ho : LE to do_) (hi : LE ti di) : LS (tAsg tv (gSub to ti rSetL)) (dSetIx dv do_ di) := by
  intro M0 H0 ms Hs E D L rho mu σ H at_ e0 es hp
  refine hv M0 mu rho σ H _ _ at_ hp fun y mu1 w H1 hd o1 e1 r1 => ?_
  refine ho M0 mu1 rho σ H1 _ _ (at_.to o1 e1) hd fun x mu2 v H2 hd2 o2 e2 r2 => ?_
  refine hi M0 mu2 rho σ H2 _ _ ((at_.to o1 e1).to o2 e2) hd2 fun z mu3 u H3 hd3 o3 e3 r3 => ?_
  split at hd3
  · rename_i a i
    obtain rfl := rep_eq rfl r2
    obtain rfl := rep_eq rfl r3
    split at hd3
    · rename_i ds hg
      split at hd3
      · rename_i j hj
        obtain ⟨vs, ha, rs⟩ := o3.cell a _ hg
        have rw' := Rep.tr e3.tr _ _ (Rep.tr e2.tr _ _ r1)
        refine ⟨a, vs, i, j, rfl, rfl, ha, by rw [← rs.len]; exact hj, ?_⟩
        have o4 := lst_put o3 hg (rs.set rw' j)
        have e4 := ext_put (H := H3) (o := .lst (vs.set j w)) (u := .lst (ds.set j y)) (mget_dom hg)
        exact L.nx _ _ _ _ ((((at_.to o1 e1).to o2 e2).to o3 e3).to o4 e4) ((((e0.trans e1).trans e2).trans e3).trans e4) ((((es.trans e1).trans e2).trans e3).trans e4) hd3
      · exact hd3.elim
    · exact hd3.elim
  · exact hd3.elim

/-! ### methods of lists -/
def dApp (do_ dv : DE) : DE := fun rho mu P => do_ rho mu fun x mu1 => match x with
  | .obj a => dv rho mu1 fun y mu2 => match mget mu2 a with
    | some (.lst ds) => ds.length < 16000000 ∧ P .non (mput mu2 a (.lst (ds ++ [y])))
    | _ => False
  | _ => False
theorem dom_lst {K : PySem.W.Frag} {M0 : AP} {mu : Mu} {H : Hp} {a : Addr} (o : Ok M0 mu H) (h : ∃ ds, mget mu a = some (.lst ds)) : tyV K "list" (.ref a) H := by
  obtain ⟨ds, hg⟩ := h
  obtain ⟨vs, ha, _⟩ := o.cell a _ hg
  exact .inl ⟨rfl, vs, SqL.of ha⟩
def dAppT (do_ dv : DE) : DE := fun rho mu P => do_ rho mu fun x mu1 => match x with
  | .obj a => (∃ ds, mget mu1 a = some (.lst ds)) ∧ dv rho mu1 fun y mu2 => match mget mu2 a with
    | some (.lst ds) => ds.length < 16000000 ∧ P .non (mput mu2 a (.lst (ds ++ [y])))
    | _ => False
  | _ => False
theorem le_app {K : PySem.W.Frag} {to tv : TE} {do_ dv : DE} (ho : LE to do_) (hv : LE tv dv) : LE (tBM K "list" rAppend to (tCons tv tNil)) (dAppT do_ dv) := by
  intro M0 mu rho σ H P Q at_ hp k
  refine ho M0 mu rho σ H _ _ at_ hp fun x mu1 v H1 hd o1 e1 r1 => ?_
  split at hd
  · rename_i a
    obtain rfl := rep_eq rfl r1
    refine ⟨dom_lst o1 hd.1, ?_⟩
    refine hv M0 mu1 rho σ H1 _ _ (at_.to o1 e1) hd.2 fun y mu2 w H2 hd2 o2 e2 r2 => ?_
    split at hd2
    · rename_i ds hg
      obtain ⟨vs, ha, rs⟩ := o2.cell a _ hg
      refine ⟨a, vs, w, rfl, rfl, ha, by rw [← rs.len]; exact line_lt hd2.1, ?_⟩
      exact k _ _ _ _ hd2.2 (lst_put o2 hg (rs.app (reps_one r2))) ((e1.trans e2).trans (ext_put (mget_dom hg))) (rep_of rfl)
    · exact hd2.elim
  · exact hd.elim
/-- xs.pop() -/
def dPop (do_ : DE) : DE := fun rho mu P => do_ rho mu fun x mu1 => match x with
  | .obj a => match mget mu1 a with
    | some (.lst ds) => (match ds[ds.length - 1]? with
      | some d => P d (mput mu1 a (.lst ds.dropLast))
      | none => False)
    | _ => False
  | _ => False
theorem le_pop {K : PySem.W.Frag} {to : TE} {do_ : DE} (ho : LE to do_) : LE (tBM0 K "list" rPop to) (dPop do_) := by
  intro M0 mu rho σ H P Q at_ hp k
  refine ho M0 mu rho σ H _ _ at_ hp fun x mu1 v H1 hd o1 e1 r1 => ?_
  split at hd
  · rename_i a
    obtain rfl := rep_eq rfl r1
    split at hd
    · rename_i ds hg
      split at hd
      · rename_i d hx
        obtain ⟨vs, ha, rs⟩ := o1.cell a _ hg
        obtain ⟨w, hw, rw'⟩ := rs.get hx
        refine ⟨dom_lst o1 ⟨_, hg⟩, a, vs, w, rfl, rfl, ha, by rw [← rs.len]; exact hw, ?_⟩
        have e2 := ext_put (H := H1) (o := .lst vs.dropLast) (u := .lst ds.dropLast) (mget_dom hg)
        have t := e2.tr (M0 := M0)
        exact k _ _ _ _ hd (lst_put o1 hg rs.dropLast) (e1.trans e2) (Rep.tr t _ _ rw')
      · exact hd.elim
    · exact hd.elim
  · exact hd.elim
/-- xs.extend(ys) -/
def dExt (do_ dv : DE) : DE := fun rho mu P => do_ rho mu fun x mu1 => match x with
  | .obj a => (∃ ds, mget mu1 a = some (.lst ds)) ∧ dv rho mu1 fun y mu2 => match mget mu2 a, lv mu2 y with
    | some (.lst ds), some es => ds.length + es.length ≤ 16000000 ∧ P .non (mput mu2 a (.lst (ds ++ es)))
    | _, _ => False
  | _ => False
theorem le_ext {K : PySem.W.Frag} {to tv : TE} {do_ dv : DE} (ho : LE to do_) (hv : LE tv dv) : LE (tBM K "list" rExtend to (tCons tv tNil)) (dExt do_ dv) := by
  intro M0 mu rho σ H P Q at_ hp k
  refine ho M0 mu rho σ H _ _ at_ hp fun x mu1 v H1 hd o1 e1 r1 => ?_
  split at hd
  · rename_i a
    obtain rfl := rep_eq rfl r1
    refine ⟨dom_lst o1 hd.1, ?_⟩
    refine hv M0 mu1 rho σ H1 _ _ (at_.to o1 e1) hd.2 fun y mu2 w H2 hd2 o2 e2 r2 => ?_
    split at hd2
    · rename_i ds es hg he
      obtain ⟨vs, ha, rs⟩ := o2.cell a _ hg
      obtain ⟨b, ws, rfl, hb, rw'⟩ := lv_at o2 r2 he
      refine ⟨a, b, vs, ws, rfl, rfl, ha, hb, by rw [← rs.len, ← rw'.len]; exact line_of hd2.1, ?_⟩
      exact k _ _ _ _ hd2.2 (lst_put o2 hg (rs.app rw')) ((e1.trans e2).trans (ext_put (mget_dom hg))) (rep_of rfl)
    · exact hd2.elim
  · exact hd.elim
section
variable {X : Cx} {o i e : Expr} {to ti te : TE} {do_ di de : DE} {pos apos cpos pos' : Pos}
theorem s_setix (ho : PEd X o to do_) (hi : PEd X i ti di) (he : PEd X e te de) (ha : ∀ v, assign (.Subscript o i pos') X.env v = (do
      let ov ← holding [v] (eval o X.env)
      let iv ← holding [v, ov] (eval i X.env)
      standAt pos'
      holding [v, ov, iv] (setItem ov iv v)
      release [v, ov, iv] []) := by intro _; rfl)
    (hs : swapsWithSole [.Subscript o i pos'] e pos.line X.env = pure false := by rfl) (hw : swappedStores [.Subscript o i pos'] e X.env = pure none := by rfl) (h1 : (assignEach [.Subscript o i pos'] X.env).map (·.2) = [assign (.Subscript o i pos') X.env] := by rfl) :
    PSd X (.Assign [.Subscript o i pos'] e pos) (tAsg te (gSub to ti rSetL)) (dSetIx de do_ di) := ⟨ps_asg he.pe (pg_sub ho.pe hi.pe set_list ha) hs hw h1, ls_setix he.le ho.le hi.le⟩
theorem d_app (ho : PEd X o to do_) (he : PEd X e te de) (hbase : attributeBase o "append" X.env (eval o X.env) = eval o X.env := by rfl)
    (hfew : ((backTo cpos (starEach [e] X.env)).all (fun x => !x.1) && (backToKw cpos (keywordEach [] X.env)).all (fun x => x.1.isSome) && decide ([e].length + ([] : List Keyword).length + (if ([] : List Keyword).isEmpty then 0 else 1) < 30)) = true := by rfl)
    (hline : (apos.endLine == cpos.line) = true := by rfl) (hs : starEach [e] X.env = (false, eval e X.env) :: starEach [] X.env := by rfl) :
    PEd X (.Call (.Attribute o "append" apos) [e] [] cpos) (tBM X.K "list" rAppend to (tCons te tNil)) (dAppT do_ de) :=
  ⟨pe_bm PySem.F.plainAttrs_list PySem.F.slot_list_append PySem.F.type_list_append mt_append ho.pe (pa_cons he.pe pa_nil hs) hbase hfew hline hs rfl, le_app ho.le he.le⟩
theorem d_ext (ho : PEd X o to do_) (he : PEd X e te de) (hbase : attributeBase o "extend" X.env (eval o X.env) = eval o X.env := by rfl)
    (hfew : ((backTo cpos (starEach [e] X.env)).all (fun x => !x.1) && (backToKw cpos (keywordEach [] X.env)).all (fun x => x.1.isSome) && decide ([e].length + ([] : List Keyword).length + (if ([] : List Keyword).isEmpty then 0 else 1) < 30)) = true := by rfl)
    (hline : (apos.endLine == cpos.line) = true := by rfl) (hs : starEach [e] X.env = (false, eval e X.env) :: starEach [] X.env := by rfl) :
    PEd X (.Call (.Attribute o "extend" apos) [e] [] cpos) (tBM X.K "list" rExtend to (tCons te tNil)) (dExt do_ de) :=
  ⟨pe_bm PySem.F.plainAttrs_list PySem.F.slot_list_extend PySem.F.type_list_extend mt_extend ho.pe (pa_cons he.pe pa_nil hs) hbase hfew hline hs rfl, le_ext ho.le he.le⟩
theorem d_pop (ho : PEd X o to do_) (hbase : attributeBase o "pop" X.env (eval o X.env) = eval o X.env := by rfl) (hline : (apos.endLine == cpos.line) = true := by rfl) :
    PEd X (.Call (.Attribute o "pop" apos) [] [] cpos) (tBM0 X.K "list" rPop to) (dPop do_) :=
  ⟨pe_bm0 PySem.F.plainAttrs_list PySem.F.slot_list_pop PySem.F.type_list_pop mt_pop ho.pe hbase hline, le_pop ho.le⟩
end

/-! ### built-ins -/
def dCB (dr : DR) (da : DA) : DE := fun rho mu P => da rho mu fun ds mu1 => dr mu1 ds P
theorem le_cb {r : List V → Hp → VK → Prop} {dr : DR} {ta : TA} {da : DA} (hr : LCR r dr) (h : LA ta da) : LE (tCB r ta) (dCB dr da) := by
  intro M0 mu rho σ H P Q at_ hp k
  refine h M0 mu rho σ H _ _ at_ hp fun ds mu1 vs H1 hd o1 e1 r1 => ?_
  exact hr M0 mu1 H1 ds vs P Q o1 r1 hd fun d mu' u H' hq o e r => k d mu' u H' hq o (e1.trans e) r
theorem reps_1 {M : AP} {H : Hp} {d : D} {vs : List V} (h : Reps M H [d] vs) : ∃ v, vs = [v] ∧ Rep M H d v := by
  simp only [Reps] at h
  obtain ⟨v, r, rfl, h2, rfl⟩ := h
  exact ⟨v, rfl, h2⟩
theorem reps_2 {M : AP} {H : Hp} {d e : D} {vs : List V} (h : Reps M H [d, e] vs) : ∃ v w, vs = [v, w] ∧ Rep M H d v ∧ Rep M H e w := by
  simp only [Reps] at h
  obtain ⟨v, r, rfl, h2, w, r2, rfl, h3, rfl⟩ := h
  exact ⟨v, w, rfl, h2, h3⟩
def drAbs : DR := fun mu ds P => match ds with
  | [.int i] => P (.int (if i < 0 then -i else i)) mu
  | _ => False
def drMax : DR := fun mu ds P => match ds with
  | [.int i, .int j] => P (.int (if j > i then j else i)) mu
  | _ => False
def drInt : DR := fun mu ds P => match ds with
  | [.int i] => P (.int i) mu
  | [.bl b] => P (.int (if b then 1 else 0)) mu
  | _ => False
def drLen : DR := fun mu ds P => match ds with
  | [.str z] => z.length ≤ 16000000 ∧ P (.int z.length) mu
  | [d] => match sqv mu d with
    | some es => P (.int es.length) mu
    | none => False
  | _ => False
/-- list(..): frozen, or free to change -/
def drList : DR := fun mu ds P => match ds with
  | [d] => match sqv mu d with
    | some es => P (.lst es) mu
    | none => False
  | _ => False
def drListM : DR := fun mu ds P => match ds with
  | [d] => match sqv mu d with
    | some es => ∀ p, p ∉ dom mu → P (.obj p) ((p, .lst es) :: mu)
    | none => False
  | _ => False
def drTuple : DR := fun mu ds P => match ds with
  | [d] => match lv mu d with
    | some es => P (.tup es) mu
    | none => match d with
      | .tup es => P (.tup es) mu
      | _ => False
  | _ => False
/-- isinstance(x, T), T one of tuple, list, bool -/
def tyOf (mu : Mu) : D → Option String
  | .non => some "NoneType"
  | .bl _ => some "bool"
  | .int _ => some "int"
  | .str _ => some "str"
  | .tup _ => some "tuple"
  | .lst _ => some "list"
  | .obj a => match mget mu a with
    | some (.lst _) => some "list"
    | _ => none
  | _ => none
def drIs : DR := fun mu ds P => match ds with
  | [d, .ty n] => match tyOf mu d with
    | some t => (match kitB t n with
      | some b => P (.bl b) mu
      | none => False)
    | none => False
  | _ => False
def bls : List D → Option (List Bool)
  | [] => some []
  | .bl b :: ds => (bls ds).map (b :: ·)
  | _ :: _ => none
def drAny : DR := fun mu ds P => match ds with
  | [d] => match lv mu d with
    | some es => (match bls es with
      | some bs => P (.bl (bs.any id)) mu
      | none => False)
    | none => False
  | _ => False
theorem bls_v {M : AP} {H : Hp} : ∀ {ds : List D} {vs : List V} {bs : List Bool}, Reps M H ds vs → bls ds = some bs → vs = bs.map V.bl
  | [], vs, bs, r, h => by
    cases h
    simp only [Reps] at r
    rw [r]
    rfl
  | d :: ds, vs, bs, r, h => by
    simp only [Reps] at r
    obtain ⟨v, vs', rfl, r1, r2⟩ := r
    cases d <;> try (cases h; done)
    rename_i b
    show v :: vs' = _
    cases e : bls ds with
    | none =>
      simp only [bls, e, Option.map_none] at h
      cases h
    | some cs =>
      simp only [bls, e, Option.map_some] at h
      cases h
      obtain rfl := rep_eq rfl r1
      rw [List.map_cons, bls_v r2 e]
def rAbs : List V → Hp → VK → Prop := fun xs H Q => ∃ i, xs = [.int i] ∧ Q (.int (if i < 0 then -i else i)) H
def rMax2 : List V → Hp → VK → Prop := fun xs H Q => ∃ i j, xs = [.int i, .int j] ∧ Q (.int (if j > i then j else i)) H
def rInt1 : List V → Hp → VK → Prop := fun xs H Q => (∃ i, xs = [.int i] ∧ Q (.int i) H) ∨ ∃ k, xs = [.bl k] ∧ Q (.int (if k then 1 else 0)) H
def rLenA (K : PySem.W.Frag) : List V → Hp → VK → Prop := fun xs H Q => (∃ p ys, xs = [.ref p] ∧ (SqL K H p ys ∨ SqT K H p ys) ∧ Q (.int ys.length) H) ∨ (∃ z, xs = [.str z] ∧ z.length ≤ sizeLine ∧ Q (.int z.length) H)
def rListA (K : PySem.W.Frag) : List V → Hp → VK → Prop := fun xs H Q => ∃ p ys, xs = [.ref p] ∧ (SqL K H p ys ∨ SqT K H p ys) ∧ ∀ l, H l = none → Q (.ref l) (upd H l (.lst ys))
def rTupleA (K : PySem.W.Frag) : List V → Hp → VK → Prop := fun xs H Q => ∃ p ys, xs = [.ref p] ∧ ((SqL K H p ys ∧ ∀ l, H l = none → Q (.ref l) (upd H l (.tup ys))) ∨ (SqT K H p ys ∧ Q (.ref p) H))
section
variable {X : Cx}
theorem c_abs : CallRd X (.builtin "abs") rAbs drAbs := ⟨call_abs, by
  intro M0 mu H ds vs P Q o rs hp k
  unfold drAbs at hp
  split at hp
  · rename_i i
    obtain ⟨v, rfl, r⟩ := reps_1 rs
    obtain rfl := rep_eq rfl r
    exact ⟨i, rfl, k _ _ _ _ hp o (Ext.refl _ _) (rep_of rfl)⟩
  · exact hp.elim⟩
theorem c_max (hc : X.calm = true) : CallRd X (.builtin "max") rMax2 drMax := ⟨call_max2 hc, by
  intro M0 mu H ds vs P Q o rs hp k
  unfold drMax at hp
  split at hp
  · rename_i i j
    obtain ⟨v, w, rfl, r1, r2⟩ := reps_2 rs
    obtain rfl := rep_eq rfl r1
    obtain rfl := rep_eq rfl r2
    exact ⟨i, j, rfl, k _ _ _ _ hp o (Ext.refl _ _) (rep_of rfl)⟩
  · exact hp.elim⟩
theorem c_int : CallRd X (.type "int") rInt1 drInt := ⟨call_int1, by
  intro M0 mu H ds vs P Q o rs hp k
  unfold drInt at hp
  split at hp
  · rename_i i
    obtain ⟨v, rfl, r⟩ := reps_1 rs
    obtain rfl := rep_eq rfl r
    exact .inl ⟨i, rfl, k _ _ _ _ hp o (Ext.refl _ _) (rep_of rfl)⟩
  · rename_i b
    obtain ⟨v, rfl, r⟩ := reps_1 rs
    obtain rfl := rep_eq rfl r
    exact .inr ⟨b, rfl, k _ _ _ _ hp o (Ext.refl _ _) (rep_of rfl)⟩
  · exact hp.elim⟩
theorem c_len : CallRd X (.builtin "len") (rLenA X.K) drLen := ⟨CallR.or call_len_seq call_len_str, by
  intro M0 mu H ds vs P Q o rs hp k
  unfold drLen at hp
  split at hp
  · rename_i z
    obtain ⟨v, rfl, r⟩ := reps_1 rs
    obtain rfl := rep_eq rfl r
    exact .inr ⟨z, rfl, line_of hp.1, k _ _ _ _ hp.2 o (Ext.refl _ _) (rep_of rfl)⟩
  · rename_i d _
    obtain ⟨v, rfl, r⟩ := reps_1 rs
    split at hp
    · rename_i es e
      obtain ⟨a, ws, rfl, ha, rs'⟩ := sqv_at (K := X.K) o r e
      exact .inl ⟨a, ws, rfl, ha, by rw [← rs'.len]; exact k _ _ _ _ hp o (Ext.refl _ _) (rep_of rfl)⟩
    · exact hp.elim
  · exact hp.elim⟩
theorem c_list : CallRd X (.type "list") (rListA X.K) drList := ⟨call_list_of, by
  intro M0 mu H ds vs P Q o rs hp k
  unfold drList at hp
  split at hp
  · rename_i d
    obtain ⟨v, rfl, r⟩ := reps_1 rs
    split at hp
    · rename_i es e
      obtain ⟨a, ws, rfl, ha, rs'⟩ := sqv_at (K := X.K) o r e
      exact ⟨a, ws, rfl, ha, fun l nl => k _ _ _ _ hp (o.new nl) (ext_new nl) (new_lst o rs' nl)⟩
    · exact hp.elim
  · exact hp.elim⟩
theorem c_listM : CallRd X (.type "list") (rListA X.K) drListM := ⟨call_list_of, by
  intro M0 mu H ds vs P Q o rs hp k
  unfold drListM at hp
  split at hp
  · rename_i d
    obtain ⟨v, rfl, r⟩ := reps_1 rs
    split at hp
    · rename_i es e
      obtain ⟨a, ws, rfl, ha, rs'⟩ := sqv_at (K := X.K) o r e
      exact ⟨a, ws, rfl, ha, fun l nl => k _ _ _ _ (hp l (o.notdom nl)) (new_lstM o rs' nl) (ext_cell nl) (rep_of rfl)⟩
    · exact hp.elim
  · exact hp.elim⟩
theorem c_tuple : CallRd X (.type "tuple") (rTupleA X.K) drTuple := ⟨call_tuple_of, by
  intro M0 mu H ds vs P Q o rs hp k
  unfold drTuple at hp
  split at hp
  · rename_i d
    obtain ⟨v, rfl, r⟩ := reps_1 rs
    split at hp
    · rename_i es e
      obtain ⟨a, ws, rfl, ha, rs'⟩ := lv_at o r e
      exact ⟨a, ws, rfl, .inl ⟨SqL.of ha, fun l nl => k _ _ _ _ hp (o.new nl) (ext_new nl) (new_tup o rs' nl)⟩⟩
    · split at hp
      · rename_i es _
        have r' := r
        simp only [Rep] at r
        obtain ⟨a, ws, rfl, na, ha, rs'⟩ := r
        exact ⟨a, ws, rfl, .inr ⟨SqT.of ha, k _ _ _ _ hp o (Ext.refl _ _) r'⟩⟩
      · exact hp.elim
  · exact hp.elim⟩
theorem ty_at {K : PySem.W.Frag} {M0 : AP} {mu : Mu} {H : Hp} {d : D} {v : V} {t : String} (o : Ok M0 mu H) (r : Rep (U M0 mu) H d v) (h : tyOf mu d = some t) : TyX K H v (.type t) := by
  unfold tyOf at h
  split at h
  · cases h
    obtain rfl := rep_eq rfl r
    exact .base .non
  · cases h
    obtain rfl := rep_eq rfl r
    exact .base (.bl _)
  · cases h
    obtain rfl := rep_eq rfl r
    exact .base (.int _)
  · cases h
    obtain rfl := rep_eq rfl r
    exact .base (.str _)
  · cases h
    simp only [Rep] at r
    obtain ⟨a, ws, rfl, na, ha, rs'⟩ := r
    exact .base (.tup ha)
  · cases h
    simp only [Rep] at r
    obtain ⟨a, ws, rfl, na, ha, rs'⟩ := r
    exact .base (.lst ha)
  · split at h
    · rename_i ds hg
      cases h
      obtain rfl := rep_eq rfl r
      obtain ⟨vs, ha, _⟩ := o.cell _ _ hg
      exact .base (.lst ha)
    · cases h
  · cases h
theorem c_is : CallRd X (.builtin "isinstance") (rIsi X.K) drIs := ⟨call_isi, by
  intro M0 mu H ds vs P Q o rs hp k
  unfold drIs at hp
  split at hp
  · rename_i d n
    obtain ⟨v, w, rfl, r1, r2⟩ := reps_2 rs
    obtain rfl := rep_eq rfl r2
    split at hp
    · rename_i t e
      split at hp
      · rename_i b eb
        exact ⟨v, _, _, _, b, rfl, .ty n, ty_at o r1 e, kit_ty eb, k _ _ _ _ hp o (Ext.refl _ _) (rep_of rfl)⟩
      · exact hp.elim
    · exact hp.elim
  · exact hp.elim⟩
theorem c_any (hc : X.calm = true) : CallRd X (.builtin "any") (rAny X.K) drAny := ⟨cr_any hc, by
  intro M0 mu H ds vs P Q o rs hp k
  unfold drAny at hp
  split at hp
  · rename_i d
    obtain ⟨v, rfl, r⟩ := reps_1 rs
    split at hp
    · rename_i es e
      split at hp
      · rename_i bs eb
        obtain ⟨a, ws, rfl, ha, rs'⟩ := lv_at o r e
        rw [bls_v rs' eb] at ha
        exact ⟨a, bs, rfl, SqL.of ha, k _ _ _ _ hp o (Ext.refl _ _) (rep_of rfl)⟩
      · exact hp.elim
    · exact hp.elim
  · exact hp.elim⟩
variable {id : String} {T : String} {x : Str} {e : Expr} {es : List Expr} {ta : TA} {da : DA} {r : List V → Hp → VK → Prop} {dr : DR} {p pos : Pos}
theorem d_callB (hc : CallRd X (.builtin id) r dr) (hg : Gl X x) (hm : X.mg x = none) (hv : bootBuiltins x = some (.builtin id)) (ha : PAd X (e :: es) ta da) (hn : x ≠ "__name__" := by decide) (hdb : (x == ("__debug__" : Str)) = false := by decide)
    (he : starEach (e :: es) X.env = (false, eval e X.env) :: starEach es X.env := by rfl) (hpl : (backTo pos (starEach es X.env)).any (·.1) = false := by rfl) : PEd X (.Call (.Name x p) (e :: es) [] pos) (tCB r ta) (dCB dr da) := ⟨pe_callB hc.pe hg hm hv ha.pe hn hdb he hpl, le_cb hc.le ha.le⟩
theorem d_callT (hc : CallRd X (.type T) r dr) (hg : Gl X x) (hm : X.mg x = none) (hv : bootBuiltins x = some (.type T)) (ha : PAd X (e :: es) ta da) (hn : x ≠ "__name__" := by decide) (hdb : (x == ("__debug__" : Str)) = false := by decide)
    (he : starEach (e :: es) X.env = (false, eval e X.env) :: starEach es X.env := by rfl) (hpl : (backTo pos (starEach es X.env)).any (·.1) = false := by rfl) : PEd X (.Call (.Name x p) (e :: es) [] pos) (tCB r ta) (dCB dr da) := ⟨pe_callTy hc.pe hg hm hv ha.pe hn hdb he hpl, le_cb hc.le ha.le⟩
end

/-! ### [e for x in ..] -/
def dLcL (i : Nat) (dt : DT) (de : DE) : List D → List D → Rho → Mu → PD → Prop
  | [], acc, _, mu, P => P (.lst acc) mu
  | d :: ds, acc, rho, mu, P => dt (rho.set i (some d)) mu fun b mu1 => if b = true then de (rho.set i (some d)) mu1 fun y mu2 => acc.length < 16000000 ∧ dLcL i dt de ds (acc ++ [y]) rho mu2 P else dLcL i dt de ds acc rho mu1 P
def dLc (i : Nat) (di : DA) (dt : DT) (de : DE) : DE := fun rho mu P => di rho mu fun ds mu1 => dLcL i dt de ds [] (rho.set i none) mu1 P
/-- M0 and one address more -/
def Mx (M0 : AP) (x : Addr) : AP := fun a => M0 a ∨ a = x
theorem mx_tr {M0 : AP} {mu1 mu' : Mu} {H1 H' : Hp} {x : Addr} (e : Ext mu1 H1 mu' H') (nx : H1 x = none) : Tr (U M0 mu1) H1 (U (Mx M0 x) mu') H' := fun a o h1 h2 => by
  have na : a ≠ x := ne_of_none h2 nx
  obtain ⟨t1, t2⟩ := e.tr (M0 := M0) a o h1 h2
  refine ⟨fun q => ?_, t2⟩
  rcases q with (q | q) | q
  · exact t1 (.inl q)
  · exact na q
  · exact t1 (.inr q)
theorem mx_sub {M0 : AP} {mu : Mu} {H : Hp} {x : Addr} : Tr (U (Mx M0 x) mu) H (U M0 mu) H := fun a o h1 h2 => ⟨fun q => h1 (q.elim (fun z => .inl (.inl z)) .inr), h2⟩
theorem mx_ok {M0 : AP} {mu : Mu} {H : Hp} {x : Addr} (o : Ok (Mx M0 x) mu H) : Ok M0 mu H := ⟨o.nd, fun a h => o.live a (h.elim (fun z => .inl (.inl z)) .inr), fun a u q => (o.cell a u q).tr mx_sub rfl⟩
theorem mx_new {M0 : AP} {mu : Mu} {H : Hp} {x : Addr} {u : HO} (o : Ok M0 mu H) (nx : H x = none) : Ok (Mx M0 x) mu (upd H x u) where
  nd := o.nd
  live := fun a ha => by
    rcases ha with (q | q) | q
    · exact (o.new nx).live a (.inl q)
    · exact ⟨_, by rw [q]; exact upd_same⟩
    · exact (o.new nx).live a (.inr q)
  cell := fun a w q => (o.cell a w q).tr (mx_tr (ext_new nx) nx) (upd_ne fun e => o.fresh nx (.inr (e ▸ mget_dom q)))
/-- the hidden object is written -/
theorem mx_wr {M0 : AP} {mu : Mu} {H : Hp} {x : Addr} {u : HO} : Tr (U (Mx M0 x) mu) H (U (Mx M0 x) mu) (upd H x u) := fun a o h1 h2 => ⟨h1, by rw [upd_ne fun e => h1 (.inl (.inr e))]; exact h2⟩
theorem mx_put {M0 : AP} {mu : Mu} {H : Hp} {x : Addr} {u : HO} (o : Ok (Mx M0 x) mu H) (nd : x ∉ dom mu) : Ok (Mx M0 x) mu (upd H x u) where
  nd := o.nd
  live := fun a ha => by
    by_cases e : a = x
    · exact ⟨u, by rw [e]; exact upd_same⟩
    · rw [upd_ne e]
      exact o.live a ha
  cell := fun a w q => (o.cell a w q).tr mx_wr (upd_ne fun e => nd (e ▸ mget_dom q))
theorem lc_all {wi : TI} {di : DA} {i : Nat} {tt : TT} {dt : DT} {te : TE} {de : DE} (hi : LI wi di) (ht : LT tt dt) (he : LE te de) (M0 : AP) (mu : Mu) (rho : Rho) (σ : L2.St) (H : Hp) (P : PD) (Q : VK) (at_ : At M0 mu rho σ H)
    (hp : di rho mu fun ds mu1 => dLcL i dt de ds [] (rho.set i none) mu1 P)
    (k : ∀ acc mu' accv H' x, P (.lst acc) mu' → Ok (Mx M0 x) mu' H' → Ext mu H mu' H' → H' x = some (.lst accv) → Reps (U (Mx M0 x) mu') H' acc accv → x ∉ dom mu' → ¬ M0 x → H x = none → Q (.ref x) H') : tLc wi (gName i) tt te [i] σ H Q := by
  refine hi M0 mu rho σ H _ _ at_ hp fun ds mu1 J H1 hd o1 e1 y => ?_
  intro x nx
  have nx0 : H x = none := by
    cases e : H x with
    | none => rfl
    | some o =>
      obtain ⟨o', z⟩ := e1.alive x o e
      rw [nx] at z; cases z
  have nM : ¬ M0 x := fun q => by
    obtain ⟨o, z⟩ := at_.ok.live x (.inl q)
    rw [nx0] at z; cases z
  have at1 : At M0 mu1 rho σ H1 := at_.to o1 e1
  refine ⟨fun j m H' => ∃ mu' acc accv, Ok (Mx M0 x) mu' H' ∧ Ext mu1 H1 mu' H' ∧ H' x = some (.lst accv) ∧ Reps (U (Mx M0 x) mu') H' acc accv ∧ x ∉ dom mu' ∧ dLcL i dt de (ds.drop j) acc (rho.set i none) mu' P ∧ j + m = ds.length,
    ⟨ds.length, mu1, [], [], mx_new o1 nx, ext_new nx, upd_same, reps_nil, o1.notdom nx, by rw [List.drop_zero]; exact hd, by omega⟩, ?_⟩
  rintro j m H' ⟨mu', acc, accv, o', e', hx, ra, nd, hd', hm⟩
  have tr := mx_tr (M0 := M0) e' nx
  have yy := y _ _ j tr
  by_cases hj : j < ds.length
  · right
    obtain ⟨hgo, hy⟩ := yy.1 _ (List.getElem?_eq_getElem hj)
    rw [List.drop_eq_getElem_cons hj] at hd'
    refine ⟨hgo, fun H2 => ∃ mu2 acc2 accv2, Ok (Mx M0 x) mu2 H2 ∧ Ext mu1 H1 mu2 H2 ∧ H2 x = some (.lst accv2) ∧ Reps (U (Mx M0 x) mu2) H2 acc2 accv2 ∧ x ∉ dom mu2 ∧ dLcL i dt de (ds.drop (j + 1)) acc2 (rho.set i none) mu2 P, ?_, ?_⟩
    · rintro H2 ⟨mu2, acc2, accv2, q1, q2, q3, q4, q5, q6⟩
      exact ⟨m - 1, by omega, mu2, acc2, accv2, q1, q2, q3, q4, q5, q6, by omega⟩
    · intro v H'' hv
      obtain ⟨rfl, rv⟩ := hy v H'' hv
      show (fun σ2 H2 => wipe σ2 [i] = wipe σ [i] ∧ _) ((wipe σ [i]).set i (some v)) H''
      refine ⟨?_, ?_⟩
      · show (((σ.set i none).set i (some v)).set i none) = σ.set i none
        rw [List.set_set, List.set_set]
      have sl0 : Slots (U (Mx M0 x) mu') H'' (rho.set i none) (σ.set i none) := (at1.sl.tr tr).clear i
      have at2 : At (Mx M0 x) mu' ((rho.set i none).set i (some ds[j])) ((σ.set i none).set i (some v)) H'' := (At.mk o' sl0).set i rv
      refine ht (Mx M0 x) mu' _ _ H'' _ _ at2 hd' fun b mu2 H2 hd2 o2 e2 => ?_
      have nd2 : x ∉ dom mu2 := fun q => by
        rcases e2.new x q with z | z
        · exact nd z
        · rw [hx] at z; cases z
      have hx2 : H2 x = some (.lst accv) := e2.keep x _ nd hx
      cases b with
      | true =>
        rw [if_pos rfl] at hd2 ⊢
        refine he (Mx M0 x) mu2 _ _ H2 _ _ (at2.to o2 e2) hd2 fun yd mu3 w H3 hd3 o3 e3 r3 => ?_
        have nd3 : x ∉ dom mu3 := fun q => by
          rcases e3.new x q with z | z
          · exact nd2 z
          · rw [hx2] at z; cases z
        have hx3 : H3 x = some (.lst accv) := e3.keep x _ nd2 hx2
        have ra3 := Reps.tr e3.tr _ _ (Reps.tr e2.tr _ _ ra)
        refine ⟨accv, hx3, by rw [← ra.len]; exact line_lt hd3.1, mu3, acc ++ [yd], accv ++ [w], mx_put o3 nd3, ?_, upd_same, Reps.tr mx_wr _ _ (ra3.app (reps_one r3)), nd3, hd3.2⟩
        have e4 := (e'.trans e2).trans e3
        refine ⟨fun a u h1 h2 => ?_, e4.new, fun a u h => ?_⟩
        · rw [upd_ne (ne_of_none h2 nx)]
          exact e4.keep a u h1 h2
        · rw [upd_ne (ne_of_none h nx)]
          exact e4.alive a u h
      | false =>
        rw [if_neg Bool.false_ne_true] at hd2 ⊢
        exact ⟨mu2, acc, accv, o2, e'.trans e2, hx2, Reps.tr e2.tr _ _ ra, nd2, hd2⟩
  · left
    refine ⟨yy.2 (by omega), ?_⟩
    rw [List.drop_eq_nil_of_le (by omega)] at hd'
    exact k acc mu' accv H' x hd' o' (e1.trans e') hx ra nd nM nx0
theorem le_lc {wi : TI} {di : DA} {i : Nat} {tt : TT} {dt : DT} {te : TE} {de : DE} (hi : LI wi di) (ht : LT tt dt) (he : LE te de) : LE (tLc wi (gName i) tt te [i]) (dLc i di dt de) := by
  intro M0 mu rho σ H P Q at_ hp k
  refine lc_all hi ht he M0 mu rho σ H P Q at_ hp fun acc mu' accv H' x hP o e hx ra nd nM n0 => ?_
  refine k _ _ _ _ hP (mx_ok o) e ?_
  simp only [Rep]
  exact ⟨x, accv, rfl, fun q => q.elim nM nd, hx, Reps.tr mx_sub _ _ ra⟩
/-- .. a list that may change -/
def dLcM (i : Nat) (di : DA) (dt : DT) (de : DE) : DE := fun rho mu P => di rho mu fun ds mu1 => dLcL i dt de ds [] (rho.set i none) mu1 fun d mu2 => match d with
  | .lst acc => ∀ p, p ∉ dom mu2 → P (.obj p) ((p, .lst acc) :: mu2)
  | _ => False
theorem le_lcM {wi : TI} {di : DA} {i : Nat} {tt : TT} {dt : DT} {te : TE} {de : DE} (hi : LI wi di) (ht : LT tt dt) (he : LE te de) : LE (tLc wi (gName i) tt te [i]) (dLcM i di dt de) := by
  intro M0 mu rho σ H P Q at_ hp k
  refine lc_all hi ht he M0 mu rho σ H _ Q at_ hp fun acc mu' accv H' x hP o e hx ra nd nM n0 => ?_
  have sub : ∀ a, U M0 ((x, .lst acc) :: mu') a → U (Mx M0 x) mu' a := fun a h => by
    rcases h with q | q
    · exact .inl (.inl q)
    · rcases List.mem_cons.mp (show a ∈ x :: dom mu' from q) with z | z
      · exact .inl (.inr z)
      · exact .inr z
  have tr : Tr (U (Mx M0 x) mu') H' (U M0 ((x, .lst acc) :: mu')) H' := fun a u h1 h2 => ⟨fun q => h1 (sub a q), h2⟩
  refine k _ _ _ _ (hP x nd) ⟨List.nodup_cons.mpr ⟨nd, o.nd⟩, fun a h => o.live a (sub a h), fun a u q => ?_⟩ ⟨e.keep, fun a h => ?_, e.alive⟩ (rep_of rfl)
  · by_cases ea : a = x
    · subst ea
      rw [mget_top] at q
      cases q
      exact ⟨accv, hx, Reps.tr tr _ _ ra⟩
    · rw [mget_next (Ne.symm ea)] at q
      exact (o.cell a u q).tr tr rfl
  · rcases List.mem_cons.mp (show a ∈ x :: dom mu' from h) with z | z
    · exact .inr (z ▸ n0)
    · exact e.new a z
section
variable {X : Cx} {elt iter : Expr} {ifs : List Expr} {scope : Scope} {x y : Str} {px py pos spos : Pos} {wi : TI} {di : DA} {tt : TT} {dt : DT} {te : TE} {de : DE}
theorem d_lc (i : Nat) (hc : X.calm = true) (hN : X.N.Nodup) (hi : PId X (.Name x px) iter wi di) (ok : BlkOk X.N X.env.scope scope [(x, i)])
    (hg : ∀ (s : Shared) (H : Hp) (C : Addr) (cl : List (Str × Addr)) (fp : List Addr), PG (X.blk s H scope (compEnvC scope cl C X.env) fp) (.Name x px) (gName i))
    (ht : ∀ (s : Shared) (H : Hp) (C : Addr) (cl : List (Str × Addr)) (fp : List Addr), PTsd (X.blk s H scope (compEnvC scope cl C X.env) fp) ifs tt dt)
    (he : ∀ (s : Shared) (H : Hp) (C : Addr) (cl : List (Str × Addr)) (fp : List Addr), PEd (X.blk s H scope (compEnvC scope cl C X.env) fp) elt te de) (hs : ∀ x, foldedSetIterable iter X.env x = pure x := by intro _; rfl) :
    PEd X (.ListComp elt [⟨.Name x px, iter, ifs, 0⟩] scope pos) (tLc wi (gName i) tt te [i]) (dLc i di dt de) :=
  ⟨pe_lc (own := [(x, i)]) hc hN hi.pe ok hg (fun s H C cl fp => (ht s H C cl fp).pe) (fun s H C cl fp => (he s H C cl fp).pe) hs,
    fun M0 mu rho σ H P Q a h k => le_lc hi.le (ht ⟨X.s_0.heap, X.s_0.gens, X.s_0.drawn, X.s_0.toks, X.s_0.os⟩ X.H_0 0 [] []).le (he ⟨X.s_0.heap, X.s_0.gens, X.s_0.drawn, X.s_0.toks, X.s_0.os⟩ X.H_0 0 [] []).le M0 mu rho σ H P Q a h k⟩
theorem d_lcM (i : Nat) (h : PEd X (.ListComp elt [⟨.Name x px, iter, ifs, 0⟩] scope pos) (tLc wi (gName i) tt te [i]) (dLc i di dt de)) (hi : LI wi di) (ht : LT tt dt) (he : LE te de) :
    PEd X (.ListComp elt [⟨.Name x px, iter, ifs, 0⟩] scope pos) (tLc wi (gName i) tt te [i]) (dLcM i di dt de) := ⟨h.pe, le_lcM hi ht he⟩
end
end DL
set_option maxHeartbeats 200000
/-! K50G: comparisons with an empty row, of nested data; index, join, in; dicts; for over reversed(list) -/
namespace DL
open PySem PySem.Spec PyProof.Rows L2

/-! ### beside an empty list, an empty tuple -/
def rNeNil : R2 := fun x y H Q => ∃ a b xs, x = .ref a ∧ y = .ref b ∧ H a = some (.lst xs) ∧ H b = some (.lst []) ∧ Q (.bl (!xs.isEmpty)) H
def rEqNil : R2 := fun x y H Q => ∃ a b xs, x = .ref a ∧ y = .ref b ∧ H a = some (.lst xs) ∧ H b = some (.lst []) ∧ Q (.bl xs.isEmpty) H
def rEqNilT : R2 := fun x y H Q => ∃ a b xs, x = .ref a ∧ y = .ref b ∧ H a = some (.tup xs) ∧ H b = some (.tup []) ∧ Q (.bl xs.isEmpty) H
theorem vals_nil {us : List Value} (r : Vals [] us) : us = [] := by cases r; rfl
theorem size_empty {xs : List V} {us : List Value} (r : Vals xs us) : (us.toArray.size == 0) = xs.isEmpty := by
  have h := r.length
  cases xs with
  | nil =>
    have := vals_nil r
    subst this
    rfl
  | cons x xs =>
    rw [List.size_toArray, ← h]
    rfl
section
variable {X : Cx}
theorem op_neNil (hu : X.A.units + 64 < cLine) : OpR X (compareOp .NotEq) rNeNil := by
  intro pins s σ H x y v u Q I rx ry h
  obtain ⟨a, b, xs, rfl, rfl, ha, hb, q⟩ := h
  cases rx
  cases ry
  obtain ⟨i1, r1, p1, _⟩ := I.list (SqL.of ha)
  obtain ⟨i2, r2, p2, _⟩ := I.list (SqL.of hb)
  obtain rfl := vals_nil r2
  have hs := size_empty r1
  have hu' : X.A.units < cLine := by omega
  cases e : xs.isEmpty with
  | true =>
    rw [e] at q hs
    have z := beq_iff_eq.mp hs
    refine SeqAt.RcNeAt.lists (e := fun _ => true) p1.isList p2.isList (by rw [z]; rfl) hu' (fun j h1 h2 => absurd h2 (Nat.not_lt_zero _)) _ _ _ _ ⟨.bl false, H, I, ?_, q⟩
    rw [z]; rfl
  | false =>
    rw [e] at q hs
    exact SeqAt.RcNeAt.lists_lengths p1.isList p2.isList (by show (!(i1.toArray.size == 0)) = true; rw [hs]; rfl) hu' _ _ _ _ ⟨.bl true, H, I, rfl, q⟩
theorem op_eqNil (hu : X.A.units + 64 < cLine) : OpR X (compareOp .Eq) rEqNil := by
  intro pins s σ H x y v u Q I rx ry h
  obtain ⟨a, b, xs, rfl, rfl, ha, hb, q⟩ := h
  cases rx
  cases ry
  obtain ⟨i1, r1, p1, _⟩ := I.list (SqL.of ha)
  obtain ⟨i2, r2, p2, _⟩ := I.list (SqL.of hb)
  obtain rfl := vals_nil r2
  have hs := size_empty r1
  have hu' : X.A.units < cLine := by omega
  cases e : xs.isEmpty with
  | true =>
    rw [e] at q hs
    have z := beq_iff_eq.mp hs
    refine SeqAt.RcAt.lists (e := fun _ => true) p1.isList p2.isList (by rw [z]; rfl) hu' (fun j h1 h2 => absurd h2 (Nat.not_lt_zero _)) _ _ _ _ ⟨.bl true, H, I, ?_, q⟩
    rw [z]; rfl
  | false =>
    rw [e] at q hs
    exact SeqAt.RcAt.lists_lengths p1.isList p2.isList (by show (!(i1.toArray.size == 0)) = true; rw [hs]; rfl) hu' _ _ _ _ ⟨.bl false, H, I, rfl, q⟩
theorem op_eqNilT (hu : X.A.units + 64 < cLine) : OpR X (compareOp .Eq) rEqNilT := by
  intro pins s σ H x y v u Q I rx ry h
  obtain ⟨a, b, xs, rfl, rfl, ha, hb, q⟩ := h
  cases rx
  cases ry
  obtain ⟨i1, r1, p1, _⟩ := I.tuple (SqT.of ha)
  obtain ⟨i2, r2, p2, _⟩ := I.tuple (SqT.of hb)
  obtain rfl := vals_nil r2
  have hs := size_empty r1
  have hu' : X.A.units < cLine := by omega
  refine SeqAt.RcAt.tuples (e := fun _ => true) p1 p2 hu' (fun j h1 h2 => absurd h2 (Nat.not_lt_zero _)) _ _ _ _ ⟨.bl xs.isEmpty, H, I, ?_, q⟩
  show Value.bool _ = Value.bool _
  rw [← hs]
  show Value.bool ((List.range (min i1.toArray.size 0)).all (fun _ => true) && (i1.toArray.size == 0)) = _
  rw [Nat.min_zero]
  rfl
end
def dneNil : D2 := fun x y mu P => match lv mu x, lv mu y with
  | some xs, some [] => P (.bl (!xs.isEmpty)) mu
  | _, _ => False
def deqNil : D2 := fun x y mu P => match lv mu x, lv mu y with
  | some xs, some [] => P (.bl xs.isEmpty) mu
  | _, _ => False
def deqNilT : D2 := fun x y mu P => match tv x, tv y with
  | some xs, some [] => P (.bl xs.isEmpty) mu
  | _, _ => False
theorem emp_of {M : AP} {H : Hp} {ds : List D} {vs : List V} (r : Reps M H ds vs) : vs.isEmpty = ds.isEmpty := by
  have := r.len
  cases ds <;> cases vs <;> first | rfl | (simp at this)
theorem nil_of {M : AP} {H : Hp} {vs : List V} (r : Reps M H [] vs) : vs = [] := by simpa only [Reps] using r
section
variable {X : Cx}
theorem o_neNil (hu : X.A.units + 64 < cLine) : OpRd X (compareOp .NotEq) rNeNil dneNil := ⟨op_neNil hu, l2_pure fun M0 mu H x y v w P Q o rx ry hp k => by
  unfold dneNil at hp
  split at hp
  · rename_i as e1 e2
    obtain ⟨a, vs, rfl, h1, r1⟩ := lv_at o rx e1
    obtain ⟨b, ws, rfl, h2, r2⟩ := lv_at o ry e2
    obtain rfl := nil_of r2
    exact ⟨a, b, vs, rfl, rfl, h1, h2, by rw [emp_of r1]; exact k _ _ hp (rep_of rfl)⟩
  · exact hp.elim⟩
theorem o_eqNil (hu : X.A.units + 64 < cLine) : OpRd X (compareOp .Eq) rEqNil deqNil := ⟨op_eqNil hu, l2_pure fun M0 mu H x y v w P Q o rx ry hp k => by
  unfold deqNil at hp
  split at hp
  · rename_i as e1 e2
    obtain ⟨a, vs, rfl, h1, r1⟩ := lv_at o rx e1
    obtain ⟨b, ws, rfl, h2, r2⟩ := lv_at o ry e2
    obtain rfl := nil_of r2
    exact ⟨a, b, vs, rfl, rfl, h1, h2, by rw [emp_of r1]; exact k _ _ hp (rep_of rfl)⟩
  · exact hp.elim⟩
theorem o_eqNilT (hu : X.A.units + 64 < cLine) : OpRd X (compareOp .Eq) rEqNilT deqNilT := ⟨op_eqNilT hu, l2_pure fun M0 mu H x y v w P Q o rx ry hp k => by
  unfold deqNilT at hp
  split at hp
  · rename_i as e1 e2
    obtain ⟨a, vs, rfl, h1, r1⟩ := tv_at rx e1
    obtain ⟨b, ws, rfl, h2, r2⟩ := tv_at ry e2
    obtain rfl := nil_of r2
    exact ⟨a, b, vs, rfl, rfl, h1, h2, by rw [emp_of r1]; exact k _ _ hp (rep_of rfl)⟩
  · exact hp.elim⟩
end

/-! ### nested data compared -/
mutual
def pyd : D → PyData
  | .bl b => .bool b
  | .int i => .int i
  | .str x => .str x
  | .tup ds => .tuple (pyds ds)
  | .lst ds => .list (pyds ds)
  | _ => .none
def pyds : List D → List PyData
  | [] => []
  | d :: ds => pyd d :: pyds ds
end
mutual
def plain : D → Bool
  | .non => true
  | .bl _ => true
  | .int _ => true
  | .str _ => true
  | .tup ds => plains ds
  | .lst ds => plains ds
  | _ => false
def plains : List D → Bool
  | [] => true
  | d :: ds => plain d && plains ds
end
mutual
theorem dp_of {K : PySem.W.Frag} {M : AP} {H : Hp} : ∀ (d : D) (v : V), plain d = true → Rep M H d v → Dp K H v (pyd d)
  | .non, v, h, r => by
    obtain rfl := rep_eq rfl r
    exact .non
  | .bl b, v, h, r => by
    obtain rfl := rep_eq rfl r
    exact .bl b
  | .int i, v, h, r => by
    obtain rfl := rep_eq rfl r
    exact .int i
  | .str x, v, h, r => by
    obtain rfl := rep_eq rfl r
    exact .str x
  | .tup ds, v, h, r => by
    simp only [Rep] at r
    obtain ⟨a, vs, rfl, _, ha, rs⟩ := r
    simp only [pyd]
    exact .tup (SqT.of ha) (dps_of ds vs (by simpa only [plain] using h) rs)
  | .lst ds, v, h, r => by
    simp only [Rep] at r
    obtain ⟨a, vs, rfl, _, ha, rs⟩ := r
    simp only [pyd]
    exact .lst (SqL.of ha) (dps_of ds vs (by simpa only [plain] using h) rs)
  | .obj a, v, h, r => by simp only [plain] at h; cases h
  | .ty n, v, h, r => by simp only [plain] at h; cases h
  | .fz is, v, h, r => by simp only [plain] at h; cases h
  | .ins C ns ds, v, h, r => by simp only [plain] at h; cases h
theorem dps_of {K : PySem.W.Frag} {M : AP} {H : Hp} : ∀ (ds : List D) (vs : List V), plains ds = true → Reps M H ds vs → DpAll K H vs (pyds ds)
  | [], vs, h, r => by
    simp only [Reps] at r
    subst r
    simp only [pyds]
    exact .nil
  | d :: ds, vs, h, r => by
    simp only [Reps] at r
    obtain ⟨v, vs', rfl, r1, r2⟩ := r
    simp only [plains, Bool.and_eq_true] at h
    simp only [pyds]
    exact .cons (dp_of d v h.1 r1) (dps_of ds vs' h.2 r2)
end
def deqD : D2 := fun x y mu P => (plain x = true ∧ plain y = true ∧ SeqAt.shaped (pyd x) = true ∧ SeqAt.shaped (pyd y) = true) ∧ P (.bl (PyData.eqv (pyd x) (pyd y))) mu
def dneD : D2 := fun x y mu P => (plain x = true ∧ plain y = true ∧ SeqAt.shaped (pyd x) = true ∧ SeqAt.shaped (pyd y) = true) ∧ P (.bl (!PyData.eqv (pyd x) (pyd y))) mu
section
variable {X : Cx}
theorem o_eqD (hu : X.A.units + 64 < cLine) : OpRd X (compareOp .Eq) (rEqD X.K) deqD := ⟨op_eqD hu, l2_pure fun M0 mu H x y v w P Q o rx ry hp k => ⟨_, _, dp_of _ _ hp.1.1 rx, dp_of _ _ hp.1.2.1 ry, hp.1.2.2.1, hp.1.2.2.2, k _ _ hp.2 (rep_of rfl)⟩⟩
theorem o_neD (hu : X.A.units + 64 < cLine) : OpRd X (compareOp .NotEq) (rNeD X.K) dneD := ⟨op_neD hu, l2_pure fun M0 mu H x y v w P Q o rx ry hp k => ⟨_, _, dp_of _ _ hp.1.1 rx, dp_of _ _ hp.1.2.1 ry, hp.1.2.2.1, hp.1.2.2.2, k _ _ hp.2 (rep_of rfl)⟩⟩
end
/-- xs.index(y), y there -/
def dIndex (do_ dv : DE) : DE := fun rho mu P => do_ rho mu fun x mu1 => match x with
  | .lst ds => dv rho mu1 fun y mu2 => ∃ j z, (plains ds = true ∧ plain y = true ∧ SeqAt.shaped (.list (pyds ds)) = true ∧ SeqAt.shaped (pyd y) = true) ∧ (pyds ds)[j]? = some z ∧ PyData.eqv z (pyd y) = true ∧ (∀ (m : Nat) (z' : PyData), m < j → (pyds ds)[m]? = some z' → PyData.eqv z' (pyd y) = false) ∧ P (.int (j : Nat)) mu2
  | _ => False
theorem le_index {K : PySem.W.Frag} {to tv : TE} {do_ dv : DE} (ho : LE to do_) (hv : LE tv dv) : LE (tBM K "list" (rIndexD K) to (tCons tv tNil)) (dIndex do_ dv) := by
  intro M0 mu rho σ H P Q at_ hp k
  refine ho M0 mu rho σ H _ _ at_ hp fun x mu1 v H1 hd o1 e1 r1 => ?_
  split at hd
  · rename_i ds
    have r1' := r1
    simp only [Rep] at r1
    obtain ⟨a, vs, rfl, na, ha, rs⟩ := r1
    refine ⟨.inl ⟨rfl, vs, SqL.of ha⟩, ?_⟩
    refine hv M0 mu1 rho σ H1 _ _ (at_.to o1 e1) hd fun y mu2 w H2 hd2 o2 e2 r2 => ?_
    obtain ⟨j, z, ⟨p1, p2, p3, p4⟩, hj, hz, hn, hP⟩ := hd2
    have rx := Rep.tr e2.tr _ _ r1'
    have dl : Dp K H2 (V.ref a) (.list (pyds ds)) := by
      have := dp_of (K := K) (.lst ds) _ (by simpa only [plain] using p1) rx
      simpa only [pyd] using this
    exact ⟨a, w, pyd y, pyds ds, j, z, rfl, rfl, dl, dp_of _ _ p2 r2, p3, p4, hj, hz, hn, k _ _ _ _ hP o2 (e1.trans e2) (rep_of rfl)⟩
  · exact hd.elim
/-- sep.join(texts) -/
def txs : List D → Option (List Str)
  | [] => some []
  | .str x :: ds => (txs ds).map (x :: ·)
  | _ :: _ => none
theorem strs_v {M : AP} {H : Hp} : ∀ {ds : List D} {vs : List V} {ys : List Str}, Reps M H ds vs → txs ds = some ys → vs = ys.map V.str
  | [], vs, ys, r, h => by
    cases h
    simp only [Reps] at r
    rw [r]
    rfl
  | d :: ds, vs, ys, r, h => by
    simp only [Reps] at r
    obtain ⟨v, vs', rfl, r1, r2⟩ := r
    cases d <;> try (cases h; done)
    rename_i b
    cases e : txs ds with
    | none =>
      simp only [txs, e, Option.map_none] at h
      cases h
    | some cs =>
      simp only [txs, e, Option.map_some] at h
      cases h
      obtain rfl := rep_eq rfl r1
      rw [List.map_cons, strs_v r2 e]
def dJoin (do_ dv : DE) : DE := fun rho mu P => do_ rho mu fun x mu1 => match x with
  | .str a => dv rho mu1 fun y mu2 => match lv mu2 y with
    | some ds => match txs ds with
      | some ys => (ys.map (·.length)).sum + ys.length * a.length ≤ 16777216 ∧ P (.str (Txt.join a ys)) mu2
      | none => False
    | none => False
  | _ => False
def rJoin (K : PySem.W.Frag) : V → List V → Hp → VK → Prop := fun x xs H Q => ∃ a p, ∃ ys : List Str, x = .str a ∧ xs = [.ref p] ∧ (SqL K H p (ys.map V.str) ∨ SqT K H p (ys.map V.str)) ∧ (ys.map (·.length)).sum + ys.length * a.length ≤ 16777216 ∧ Q (.str (Txt.join a ys)) H
theorem le_join {K : PySem.W.Frag} {to tv : TE} {do_ dv : DE} (ho : LE to do_) (hv : LE tv dv) : LE (tM1 (rJoin K) to tv) (dJoin do_ dv) := by
  intro M0 mu rho σ H P Q at_ hp k
  refine ho M0 mu rho σ H _ _ at_ hp fun x mu1 v H1 hd o1 e1 r1 => ?_
  split at hd
  · rename_i a
    obtain rfl := rep_eq rfl r1
    refine ⟨⟨a, rfl⟩, ?_⟩
    refine hv M0 mu1 rho σ H1 _ _ (at_.to o1 e1) hd fun y mu2 w H2 hd2 o2 e2 r2 => ?_
    split at hd2
    · rename_i ds e
      split at hd2
      · rename_i ys ey
        obtain ⟨p, vs, rfl, hp', rs⟩ := lv_at o2 r2 e
        rw [strs_v rs ey] at hp'
        exact ⟨a, p, ys, rfl, rfl, .inl (SqL.of hp'), hd2.1, k _ _ _ _ hd2.2 o2 (e1.trans e2) (rep_of rfl)⟩
      · exact hd2.elim
    · exact hd2.elim
  · exact hd.elim
/-- x in xs, x not in xs: texts -/
def dinS (neg : Bool) : D2 := fun x y mu P => match x, sqv mu y with
  | .str a, some ds => match txs ds with
    | some ys => P (.bl (if neg then !ys.contains a else ys.contains a)) mu
    | none => False
  | _, _ => False
theorem inV_strs (a : Str) : ∀ ys : List Str, inV (.str a) (ys.map V.str) = ys.contains a
  | [] => rfl
  | y :: ys => by
    have ih := inV_strs a ys
    unfold inV at ih ⊢
    rw [List.map_cons, List.any_cons, ih, List.contains_cons]
    have : eqV (V.str y) (V.str a) = (a == y) := by
      show (y == a) = (a == y)
      by_cases e : y = a
      · subst e; rfl
      · rw [beq_eq_false_iff_ne.mpr e, beq_eq_false_iff_ne.mpr (Ne.symm e)]
    rw [this]
theorem flat_strs : ∀ ys : List Str, (ys.map V.str).all flatV = true
  | [] => rfl
  | y :: ys => by
    rw [List.map_cons, List.all_cons, flat_strs ys]
    rfl
theorem l2_in {K : PySem.W.Frag} {neg : Bool} : L2R (rIn K neg) (dinS neg) := by
  refine l2_pure fun M0 mu H x y v w P Q o rx ry hp k => ?_
  unfold dinS at hp
  split at hp
  · rename_i a ds e
    obtain rfl := rep_eq rfl rx
    split at hp
    · rename_i ys ey
      obtain ⟨p, vs, rfl, h1, rs⟩ := sqv_at (K := K) o ry e
      rw [strs_v rs ey] at h1
      exact ⟨p, _, rfl, h1, rfl, flat_strs ys, by rw [inV_strs]; exact k _ _ hp (rep_of rfl)⟩
    · exact hp.elim
  · exact hp.elim
section
variable {X : Cx} {o e : Expr} {to te : TE} {do_ de : DE} {apos cpos : Pos}
theorem o_in : OpRd X (compareOp .In) (rIn X.K false) (dinS false) := ⟨op_in_seq, l2_in⟩
theorem o_notIn : OpRd X (compareOp .NotIn) (rIn X.K true) (dinS true) := ⟨op_notIn_seq, l2_in⟩
theorem d_index (hu : X.A.units + 65 < cLine) (ho : PEd X o to do_) (he : PEd X e te de) (hbase : attributeBase o "index" X.env (eval o X.env) = eval o X.env := by rfl)
    (hfew : ((backTo cpos (starEach [e] X.env)).all (fun x => !x.1) && (backToKw cpos (keywordEach [] X.env)).all (fun x => x.1.isSome) && decide ([e].length + ([] : List Keyword).length + (if ([] : List Keyword).isEmpty then 0 else 1) < 30)) = true := by rfl)
    (hline : (apos.endLine == cpos.line) = true := by rfl) (hs : starEach [e] X.env = (false, eval e X.env) :: starEach [] X.env := by rfl) :
    PEd X (.Call (.Attribute o "index" apos) [e] [] cpos) (tBM X.K "list" (rIndexD X.K) to (tCons te tNil)) (dIndex do_ de) :=
  ⟨pe_bm PySem.F.plainAttrs_list PySem.F.slot_list_index PySem.F.type_list_index (mt_indexD hu) ho.pe (pa_cons he.pe pa_nil hs) hbase hfew hline hs rfl, le_index ho.le he.le⟩
theorem d_join (ho : PEd X o to do_) (he : PEd X e te de) (hs : starEach [e] X.env = [(false, eval e X.env)] := by rfl) (hbase : attributeBase o "join" X.env (eval o X.env) = eval o X.env := by rfl) (hline : (apos.endLine == cpos.line) = true := by rfl) :
    PEd X (.Call (.Attribute o "join" apos) [e] [] cpos) (tM1 (rJoin X.K) to te) (dJoin do_ de) := ⟨pe_join ho.pe he.pe hs hbase hline, le_join ho.le he.le⟩
end

/-! ### dicts whose keys are texts -/
def zipK (ks : List Str) (vs : List V) : List (Key × V) := (ks.map fun k => (Sum.inr k : Key)).zip vs
theorem valV_zip {k : Str} : ∀ (ks : List Str) (vs : List V), valV (zipK ks vs) (Sum.inr k) = flk k ks vs
  | [], vs => by cases vs <;> rfl
  | n :: ns, [] => rfl
  | n :: ns, v :: vs => by
    show valV (((Sum.inr n : Key), v) :: zipK ns vs) (Sum.inr k) = if n = k then some v else flk k ns vs
    by_cases e : n = k
    · rw [if_pos e, valV_pos (p := ((Sum.inr n : Key), v)) (by rw [e])]
    · rw [if_neg e, valV_neg (p := ((Sum.inr n : Key), v)) (fun z => e (Sum.inr.inj z))]
      exact valV_zip ns vs
theorem putK_ne {p : Key × V} {r : List (Key × V)} {k : Key} {v : V} (h : ¬ p.1 = k) : putK (p :: r) k v = p :: putK r k v := by
  unfold putK
  rw [List.any_cons, decide_eq_false h, Bool.false_or, List.map_cons, if_neg h]
  split <;> rfl
theorem map_same {k : Key} {v : V} : ∀ (r : List (Key × V)), (∀ p ∈ r, ¬ p.1 = k) → r.map (fun kv => if kv.1 = k then (kv.1, v) else kv) = r
  | [], _ => rfl
  | p :: r, h => by
    rw [List.map_cons, if_neg (h p List.mem_cons_self), map_same r fun q hq => h q (List.mem_cons_of_mem _ hq)]
theorem putK_zip {k : Str} {v : V} : ∀ {ks : List Str} {vs : List V}, ks.length = vs.length → ks.Nodup → putK (zipK ks vs) (Sum.inr k) v = zipK (nput k ks) (vput k v ks vs)
  | [], [], h, _ => rfl
  | [], _ :: _, h, _ => by cases h
  | _ :: _, [], h, _ => by cases h
  | n :: ns, w :: vs, h, nd => by
    have nd' := List.nodup_cons.mp nd
    show putK (((Sum.inr n : Key), w) :: zipK ns vs) (Sum.inr k) v = zipK (if n = k then n :: ns else n :: nput k ns) (if n = k then v :: vs else w :: vput k v ns vs)
    by_cases e : n = k
    · subst e
      rw [if_pos rfl, if_pos rfl]
      unfold putK
      rw [List.any_cons, decide_eq_true rfl, Bool.true_or, if_pos rfl, List.map_cons, if_pos rfl, map_same]
      · rfl
      · intro p hp e
        have h1 := (List.of_mem_zip (show (p.1, p.2) ∈ (ns.map fun k => (Sum.inr k : Key)).zip vs from hp)).1
        rw [e, List.mem_map] at h1
        obtain ⟨m, hm, em⟩ := h1
        cases em
        exact nd'.1 hm
    · rw [if_neg e, if_neg e, putK_ne (fun z => e (Sum.inr.inj z)), putK_zip (by simpa using h) nd'.2]
      rfl
theorem mem_nput {k n : Str} : ∀ {ks : List Str}, n ∈ nput k ks → n ∈ ks ∨ n = k
  | [], h => .inr (by simpa [nput] using h)
  | m :: ks, h => by
    unfold nput at h
    by_cases e : m = k
    · rw [if_pos e] at h
      exact .inl h
    · rw [if_neg e] at h
      rcases List.mem_cons.mp h with q | q
      · exact .inl (q ▸ List.mem_cons_self)
      · rcases mem_nput q with z | z
        · exact .inl (List.mem_cons_of_mem _ z)
        · exact .inr z
theorem nodup_nput {k : Str} : ∀ {ks : List Str}, ks.Nodup → (nput k ks).Nodup
  | [], _ => by simp [nput]
  | m :: ks, h => by
    have h' := List.nodup_cons.mp h
    unfold nput
    by_cases e : m = k
    · rw [if_pos e]; exact h
    · rw [if_neg e]
      refine List.nodup_cons.mpr ⟨fun q => ?_, nodup_nput h'.2⟩
      rcases mem_nput q with z | z
      · exact h'.1 z
      · exact e z
theorem nput_len {k : Str} : ∀ {ks : List Str}, (nput k ks).length ≤ ks.length + 1
  | [] => by simp [nput]
  | m :: ks => by
    unfold nput
    split
    · simp
    · have := nput_len (k := k) (ks := ks)
      simp only [List.length_cons]
      omega
/-- d[k] -/
def dDGet (do_ : DE) (dk : DE) : DE := fun rho mu P => do_ rho mu fun x mu1 => dk rho mu1 fun y mu2 => match x, y with
  | .obj a, .str k => match mget mu2 a with
    | some (.dic ks ds) => (match flk k ks ds with
      | some d => P d mu2
      | none => False)
    | _ => False
  | _, _ => False
theorem le_dget {to tk : TE} {do_ dk : DE} (ho : LE to do_) (hk : LE tk dk) : LE (tDGet to tk) (dDGet do_ dk) := by
  intro M0 mu rho σ H P Q at_ hp k
  refine ho M0 mu rho σ H _ _ at_ hp fun x mu1 v H1 hd o1 e1 r1 => ?_
  refine hk M0 mu1 rho σ H1 _ _ (at_.to o1 e1) hd fun y mu2 w H2 hd2 o2 e2 r2 => ?_
  split at hd2
  · rename_i a kk
    obtain rfl := rep_eq rfl r1
    obtain rfl := rep_eq rfl r2
    split at hd2
    · rename_i ks ds hg
      split at hd2
      · rename_i d hf
        obtain ⟨vs, ha, _, rs⟩ := o2.cell a _ hg
        obtain ⟨u, hu, ru⟩ := flk_rep rs hf
        refine ⟨a, u, rfl, ?_, k _ _ _ _ hd2 o2 (e1.trans e2) ru⟩
        have := DGet.k (k := (Sum.inr kk : Key)) ha
        have e : valV ((ks.map fun k => (Sum.inr k : Key)).zip vs) (Sum.inr kk) = some u := (valV_zip ks vs).trans hu
        rw [e] at this
        exact this
      · exact hd2.elim
    · exact hd2.elim
  · exact hd2.elim
theorem dic_put {M0 : AP} {mu : Mu} {H : Hp} {a : Addr} {ks : List Str} {ds : List D} {vs : List V} {k : Str} {y : D} {v : V} (o : Ok M0 mu H) (hg : mget mu a = some (.dic ks ds)) (hl : ks.length = ds.length) (nd : ks.Nodup) (rs : Reps (U M0 mu) H ds vs) (ry : Rep (U M0 mu) H y v) :
    Ok M0 (mput mu a (.dic (nput k ks) (vput k y ks ds))) (upd H a (.dK (putK (zipK ks vs) (Sum.inr k) v))) := by
  have t := (ext_put (H := H) (o := .dK (putK (zipK ks vs) (Sum.inr k) v)) (u := .dic (nput k ks) (vput k y ks ds)) (mget_dom hg)).tr (M0 := M0)
  rw [U_put] at t
  refine o.put (mget_dom hg) ⟨vput k v ks vs, ?_, ⟨len_put hl, nodup_nput nd⟩, Reps.tr t _ _ (reps_vput ry rs)⟩
  rw [upd_same, putK_zip (hl.trans rs.len) nd]
  rfl
/-- d[k] = e -/
def dDPut (dv do_ dk : DE) : DS := fun D rho mu => dv rho mu fun y mu1 => do_ rho mu1 fun x mu2 => dk rho mu2 fun z mu3 => match x, z with
  | .obj a, .str k => match mget mu3 a with
    | some (.dic ks ds) => ks.length ≤ 100 ∧ D.nx rho (mput mu3 a (.dic (nput k ks) (vput k y ks ds)))
    | _ => False
  | _, _ => False
theorem ls_dput {to tk tv : TE} {do_ dk dv : DE} (hv : LE tv dv) (ho : LE to do_) (hk : LE tk dk) : LS (sDPut to tk tv) (dDPut dv do_ dk) := by
  intro M0 H0 ms Hs E D L rho mu σ H at_ e0 es hp
  refine hv M0 mu rho σ H _ _ at_ hp fun y mu1 w H1 hd o1 e1 r1 => ?_
  refine ho M0 mu1 rho σ H1 _ _ (at_.to o1 e1) hd fun x mu2 v H2 hd2 o2 e2 r2 => ?_
  refine hk M0 mu2 rho σ H2 _ _ ((at_.to o1 e1).to o2 e2) hd2 fun z mu3 u H3 hd3 o3 e3 r3 => ?_
  split at hd3
  · rename_i a kk
    obtain rfl := rep_eq rfl r2
    obtain rfl := rep_eq rfl r3
    split at hd3
    · rename_i ks ds hg
      obtain ⟨vs, ha, ⟨hl, nd⟩, rs⟩ := o3.cell a _ hg
      have rw' := Rep.tr e3.tr _ _ (Rep.tr e2.tr _ _ r1)
      have o4 := dic_put (k := kk) o3 hg hl nd rs rw'
      have e4 := ext_put (H := H3) (o := .dK (putK (zipK ks vs) (Sum.inr kk) w)) (u := .dic (nput kk ks) (vput kk y ks ds)) (mget_dom hg)
      refine ⟨a, _, rfl, DPut.k (k := (Sum.inr kk : Key)) ha ?_, ?_⟩
      · rw [List.length_zip, List.length_map]
        exact line_lt (by have := hd3.1; omega)
      · exact L.nx _ _ _ _ ((((at_.to o1 e1).to o2 e2).to o3 e3).to o4 e4) ((((e0.trans e1).trans e2).trans e3).trans e4) ((((es.trans e1).trans e2).trans e3).trans e4) hd3.2
    · exact hd3.elim
  · exact hd3.elim
/-- {k: e, ..}, the keys written texts -/
def dPairs : List (Str × DE) → DA
  | [], _, mu, P => P [] mu
  | (_, de) :: r, rho, mu, P => de rho mu fun d mu1 => dPairs r rho mu1 fun ds mu2 => P (d :: ds) mu2
def LP (trs : List (TE × TE)) (kds : List (Str × DE)) : Prop := ∀ (M0 : AP) (mu : Mu) (rho : Rho) (σ : L2.St) (H : Hp) (P : List D → Mu → Prop) (Q : List (V × V) → Hp → Prop), At M0 mu rho σ H → dPairs kds rho mu P →
  (∀ ds mu' vs H', P ds mu' → Ok M0 mu' H' → Ext mu H mu' H' → Reps (U M0 mu') H' ds vs → kds.length = ds.length → Q ((kds.map fun p => V.str p.1).zip vs) H') → tPairs trs σ H Q
theorem lp_nil : LP [] [] := by
  intro M0 mu rho σ H P Q at_ hp k
  exact k [] mu [] H hp at_.ok (Ext.refl _ _) reps_nil rfl
theorem lp_cons {x : Str} {tv : TE} {de : DE} {trs : List (TE × TE)} {kds : List (Str × DE)} (h : LE tv de) (hr : LP trs kds) : LP ((tC (.str x), tv) :: trs) ((x, de) :: kds) := by
  intro M0 mu rho σ H P Q at_ hp k
  refine h M0 mu rho σ H _ _ at_ hp fun d mu1 v H1 hd o1 e1 r1 => ?_
  refine hr M0 mu1 rho σ H1 _ _ (at_.to o1 e1) hd fun ds mu2 vs H2 hq o2 e2 r2 hl => ?_
  exact k (d :: ds) mu2 (v :: vs) H2 hq o2 (e1.trans e2) (reps_cons (Rep.tr e2.tr _ _ r1) r2) (by rw [List.length_cons, List.length_cons, hl])
def dDisp (kds : List (Str × DE)) : DE := fun rho mu P => dPairs kds rho mu fun ds mu1 => ∀ p, p ∉ dom mu1 → P (.obj p) ((p, .dic (kds.map (·.1)) ds) :: mu1)
theorem merge_zip : ∀ {ks : List Str} {vs : List V} {acc : List (Key × V)}, ks.Nodup → (∀ k ∈ ks, ∀ p ∈ acc, ¬ p.1 = (Sum.inr k : Key)) → mergeK acc (zipK ks vs) = acc ++ zipK ks vs
  | [], vs, acc, _, _ => by
    have : zipK [] vs = [] := by cases vs <;> rfl
    rw [this, List.append_nil]
    rfl
  | k :: ks, [], acc, _, _ => by
    have : zipK (k :: ks) [] = [] := rfl
    rw [this, List.append_nil]
    rfl
  | k :: ks, v :: vs, acc, nd, h => by
    have nd' := List.nodup_cons.mp nd
    have h0 : valV acc (Sum.inr k : Key) = none := by
      unfold valV
      rw [List.find?_eq_none.mpr fun p hp => by simpa using h k List.mem_cons_self p hp]
      rfl
    show mergeK (putK acc (Sum.inr k) v) (zipK ks vs) = acc ++ (((Sum.inr k : Key), v) :: zipK ks vs)
    rw [putK_new v h0, merge_zip nd'.2, List.append_assoc]
    · rfl
    · intro m hm p hp
      rcases List.mem_append.mp hp with q | q
      · exact h m (List.mem_cons_of_mem _ hm) p q
      · rw [List.mem_singleton.mp q]
        intro e
        have : k = m := Sum.inr.inj e
        exact nd'.1 (this ▸ hm)
theorem le_disp {trs : List (TE × TE)} {kds : List (Str × DE)} (h : LP trs kds) (nd : (kds.map (·.1)).Nodup) (h15 : kds.length ≤ 15) : LE (tDisp trs) (dDisp kds) := by
  intro M0 mu rho σ H P Q at_ hp k x nx
  have a2 : At (Mx M0 x) mu rho σ (upd H x (.dK [])) := ⟨mx_new at_.ok nx, at_.sl.tr (mx_tr (ext_new nx) nx)⟩
  refine h (Mx M0 x) mu rho σ _ _ _ a2 hp fun ds mu' vs H' hq o e rs hl => ?_
  have nd0 : x ∉ dom mu := at_.ok.notdom nx
  have hx : H' x = some (.dK []) := e.keep x _ nd0 upd_same
  have ndx : x ∉ dom mu' := fun q => by
    rcases e.new x q with z | z
    · exact nd0 z
    · rw [upd_same] at z; cases z
  have nM : ¬ M0 x := fun q => at_.ok.fresh nx (.inl q)
  have hlv := rs.len
  refine ⟨hx, zipK (kds.map (·.1)) vs, ?_, ?_, ?_⟩
  · unfold zipK
    rw [List.map_zip_eq_zipWith, List.map_map]
    apply List.ext_getElem?
    intro j
    simp only [List.getElem?_zip_eq_some, List.getElem?_zipWith, List.getElem?_map, Function.comp]
    cases h1 : kds[j]? with
    | none => simp [List.zip, List.getElem?_zipWith, h1]
    | some p =>
      cases h2 : vs[j]? with
      | none => simp [List.zip, List.getElem?_zipWith, h1, h2]
      | some v => simp [List.zip, List.getElem?_zipWith, h1, h2, kV]
  · unfold zipK
    rw [List.length_zip, List.length_map, List.length_map]
    omega
  · rw [merge_zip nd (fun _ _ p hp => by cases hp), List.nil_append]
    have sub : ∀ a, U M0 ((x, .dic (kds.map (·.1)) ds) :: mu') a → U (Mx M0 x) mu' a := fun a h => by
      rcases h with q | q
      · exact .inl (.inl q)
      · rcases List.mem_cons.mp (show a ∈ x :: dom mu' from q) with z | z
        · exact .inl (.inr z)
        · exact .inr z
    have o2 := mx_put (u := .dK (zipK (kds.map (·.1)) vs)) o ndx
    have tr : Tr (U (Mx M0 x) mu') H' (U M0 ((x, .dic (kds.map (·.1)) ds) :: mu')) (upd H' x (.dK (zipK (kds.map (·.1)) vs))) := fun a u h1 h2 => ⟨fun q => h1 (sub a q), by rw [upd_ne fun e => h1 (.inl (.inr e))]; exact h2⟩
    refine k _ _ _ _ (hq x ndx) ⟨List.nodup_cons.mpr ⟨ndx, o.nd⟩, fun a h => o2.live a (sub a h), fun a u q => ?_⟩ ⟨fun a u h1 h2 => ?_, fun a h => ?_, fun a u h => ?_⟩ (rep_of rfl)
    · by_cases ea : a = x
      · subst ea
        rw [mget_top] at q
        cases q
        exact ⟨vs, upd_same, ⟨by rw [List.length_map]; exact hl, nd⟩, Reps.tr tr _ _ rs⟩
      · rw [mget_next (Ne.symm ea)] at q
        exact (o.cell a u q).tr tr (upd_ne ea)
    · have na : a ≠ x := ne_of_none h2 nx
      rw [upd_ne na]
      exact e.keep a u h1 (by rw [upd_ne na]; exact h2)
    · rcases List.mem_cons.mp (show a ∈ x :: dom mu' from h) with z | z
      · exact .inr (z ▸ nx)
      · rcases e.new a z with y | y
        · exact .inl y
        · by_cases ea : a = x
          · exact .inr (ea ▸ nx)
          · rw [upd_ne ea] at y
            exact .inr y
    · have na : a ≠ x := ne_of_none h nx
      rw [upd_ne na]
      exact e.alive a u (by rw [upd_ne na]; exact h)
end DL
set_option maxHeartbeats 200000
/-! K50H: d.update(d2), zip of a tuple and a list, reversed -/
namespace DL
open PySem PySem.Spec PyProof.Rows L2

/-! ### d.update(d2) -/
def rUpd : V → List V → Hp → VK → Prop := fun x xs H Q => ∃ a b kvs more, x = .ref a ∧ xs = [.ref b] ∧ H a = some (.dK kvs) ∧ H b = some (.dK more) ∧ a ≠ b ∧ kvs.length + more.length ≤ sizeLine ∧ Q .non (upd H a (.dK (mergeK kvs more)))
theorem mt_upd {X : Cx} : MtR X "dict.update" rUpd := by
  intro pins s σ H x vs v us Q I rx rv h
  obtain ⟨a, b, kvs, more, rfl, rfl, ha, hb, hab, hz, q⟩ := h
  cases rx
  obtain ⟨u, rfl, ru⟩ := rv.one
  cases ru
  obtain ⟨z1, y1, w1, r1, d1⟩ := dk_of I.hok ha
  obtain ⟨z2, y2, w2, r2, d2⟩ := dk_of I.hok hb
  have l1 := r1.length
  have l2 := r2.length
  refine call_meetsIn PySem.F.slot_dict_update d1.typeIs PySem.F.entry_dict_update (PySem.F.args_dict_update_2 _ _) (meets_dict_update (mixKind X.prog X.w) a b hab y2) ⟨w1, w2, d1, d2, by rw [← l1, ← l2]; exact hz, fun h' e1 e2 sb => ?_⟩
  have rm := KV.merge r2 r1
  have he : ∃ o, h'.get? a = some o := let ⟨o, _, _, ho, _⟩ := e1; ⟨o, ho⟩
  refine ⟨.non, _, d_write (t' := s.toks) I (by rw [ha]; exact True.intro) sb he (dk_new ?_ y1 rm e1), rfl, q⟩
  have := merged_length_le w1 w2
  have l3 := rm.length
  omega
def kmerge : List Str → List D → List Str → List D → List Str × List D
  | ks, ds, k :: ks2, d :: ds2 => kmerge (nput k ks) (vput k d ks ds) ks2 ds2
  | ks, ds, _, _ => (ks, ds)
theorem kmerge_ok {M : AP} {H : Hp} : ∀ {ks2 : List Str} {ds2 : List D} {vs2 : List V} {ks : List Str} {ds : List D} {vs : List V}, ks2.length = ds2.length → ks.length = ds.length → ks.Nodup → Reps M H ds vs → Reps M H ds2 vs2 →
    ∃ vs', mergeK (zipK ks vs) (zipK ks2 vs2) = zipK (kmerge ks ds ks2 ds2).1 vs' ∧ (kmerge ks ds ks2 ds2).1.length = (kmerge ks ds ks2 ds2).2.length ∧ (kmerge ks ds ks2 ds2).1.Nodup ∧ Reps M H (kmerge ks ds ks2 ds2).2 vs'
  | [], [], vs2, ks, ds, vs, h, hl, nd, r, r2 => by
    simp only [Reps] at r2
    subst r2
    exact ⟨vs, rfl, hl, nd, r⟩
  | [], _ :: _, vs2, ks, ds, vs, h, hl, nd, r, r2 => by cases h
  | _ :: _, [], vs2, ks, ds, vs, h, hl, nd, r, r2 => by cases h
  | k :: ks2, d :: ds2, vs2, ks, ds, vs, h, hl, nd, r, r2 => by
    simp only [Reps] at r2
    obtain ⟨v, vs2', rfl, rv, r2⟩ := r2
    obtain ⟨vs', h1, h2, h3, h4⟩ := kmerge_ok (ks2 := ks2) (ds2 := ds2) (ks := nput k ks) (ds := vput k d ks ds) (vs := vput k v ks vs) (by simpa using h) (len_put hl) (nodup_nput nd) (reps_vput rv r) r2
    refine ⟨vs', ?_, h2, h3, h4⟩
    show mergeK (putK (zipK ks vs) (Sum.inr k) v) (zipK ks2 vs2') = _
    rw [putK_zip (hl.trans r.len) nd]
    exact h1
def dUpd (do_ dv : DE) : DE := fun rho mu P => do_ rho mu fun x mu1 => match x with
  | .obj a => (∃ ks ds, mget mu1 a = some (.dic ks ds)) ∧ dv rho mu1 fun y mu2 => match y with
    | .obj b => match mget mu2 a, mget mu2 b with
      | some (.dic ks ds), some (.dic ks2 ds2) => a ≠ b ∧ ks.length ≤ 100 ∧ ks2.length ≤ 100 ∧ P .non (mput mu2 a (.dic (kmerge ks ds ks2 ds2).1 (kmerge ks ds ks2 ds2).2))
      | _, _ => False
    | _ => False
  | _ => False
theorem zipK_len {ks : List Str} {vs : List V} (h : ks.length ≤ 100) : (zipK ks vs).length ≤ 100 := by
  unfold zipK
  rw [List.length_zip, List.length_map]
  omega
theorem le_upd {K : PySem.W.Frag} {to tv : TE} {do_ dv : DE} (ho : LE to do_) (hv : LE tv dv) : LE (tBM K "dict" rUpd to (tCons tv tNil)) (dUpd do_ dv) := by
  intro M0 mu rho σ H P Q at_ hp k
  refine ho M0 mu rho σ H _ _ at_ hp fun x mu1 v H1 hd o1 e1 r1 => ?_
  split at hd
  · rename_i a
    obtain rfl := rep_eq rfl r1
    obtain ⟨⟨ks0, ds0, hg0⟩, hd⟩ := hd
    refine ⟨?_, ?_⟩
    · obtain ⟨vs, ha, _⟩ := o1.cell a _ hg0
      exact .inr (.inr (.inl ⟨rfl, .inl ⟨_, ha⟩⟩))
    refine hv M0 mu1 rho σ H1 _ _ (at_.to o1 e1) hd fun y mu2 w H2 hd2 o2 e2 r2 => ?_
    split at hd2
    · rename_i b
      obtain rfl := rep_eq rfl r2
      split at hd2
      · rename_i ks ds ks2 ds2 hg hg2
        obtain ⟨hab, hl1, hl2, hP⟩ := hd2
        obtain ⟨vs, ha, ⟨hl, nd⟩, rs⟩ := o2.cell a _ hg
        obtain ⟨ws, hb, ⟨hlb, ndb⟩, rs2⟩ := o2.cell b _ hg2
        obtain ⟨vs', g1, g2, g3, g4⟩ := kmerge_ok hlb hl nd rs rs2
        refine ⟨a, b, zipK ks vs, zipK ks2 ws, rfl, rfl, ha, hb, hab, line_of (by have := zipK_len (vs := vs) hl1; have := zipK_len (vs := ws) hl2; omega), ?_⟩
        rw [g1]
        have e3 := ext_put (H := H2) (o := .dK (zipK (kmerge ks ds ks2 ds2).1 vs')) (u := .dic (kmerge ks ds ks2 ds2).1 (kmerge ks ds ks2 ds2).2) (mget_dom hg)
        have t := e3.tr (M0 := M0)
        rw [U_put] at t
        exact k _ _ _ _ hP (o2.put (mget_dom hg) ⟨vs', upd_same, ⟨g2, g3⟩, Reps.tr t _ _ g4⟩) ((e1.trans e2).trans e3) (rep_of rfl)
      · exact hd2.elim
    · exact hd2.elim
  · exact hd.elim

/-! ### for x in reversed(a list) -/
def dRev (de : DE) : DA := fun rho mu P => de rho mu fun d mu1 => match d with
  | .lst ds => P ds.reverse mu1
  | _ => False
theorem li_rev {K : PySem.W.Frag} {te : TE} {de : DE} (h : LE te de) : LI (iRev K (tCons te tNil)) (dRev de) := by
  intro M0 mu rho σ H P R at_ hp k
  refine h M0 mu rho σ H _ _ at_ hp fun d mu1 v H1 hd o1 e1 r1 => ?_
  split at hd
  · rename_i ds
    simp only [Rep] at r1
    obtain ⟨a, vs, rfl, na, ha, rs⟩ := r1
    have hl := rs.len
    refine ⟨a, vs, rfl, SqL.of ha, k _ _ _ _ hd o1 e1 fun M' H' i t => ?_⟩
    have ha' := (t a _ na ha).2
    refine ⟨fun d hd => ?_, fun hl' => ?_⟩
    · have hi : i < ds.length := by
        have := (List.getElem?_eq_some_iff.mp hd).1
        simpa using this
      rw [List.getElem?_reverse hi] at hd
      obtain ⟨v, hv, rv⟩ := (Reps.tr t _ _ rs).get hd
      rw [hl] at hv
      refine ⟨⟨by omega, vs, v, SqL.of ha', hv⟩, fun x H'' hx => ?_⟩
      obtain ⟨rfl, hx⟩ := hx
      have := hx vs (SqL.of ha')
      rw [hv] at this
      cases this
      exact ⟨rfl, rv⟩
    · show vs.length ≤ i
      rw [← hl]
      simpa using hl'
  · exact hd.elim
section
variable {X : Cx} {tg o e : Expr} {to te : TE} {do_ de : DE} {apos cpos p pos : Pos}
theorem d_upd (ho : PEd X o to do_) (he : PEd X e te de) (hbase : attributeBase o "update" X.env (eval o X.env) = eval o X.env := by rfl)
    (hfew : ((backTo cpos (starEach [e] X.env)).all (fun x => !x.1) && (backToKw cpos (keywordEach [] X.env)).all (fun x => x.1.isSome) && decide ([e].length + ([] : List Keyword).length + (if ([] : List Keyword).isEmpty then 0 else 1) < 30)) = true := by rfl)
    (hline : (apos.endLine == cpos.line) = true := by rfl) (hs : starEach [e] X.env = (false, eval e X.env) :: starEach [] X.env := by rfl) :
    PEd X (.Call (.Attribute o "update" apos) [e] [] cpos) (tBM X.K "dict" rUpd to (tCons te tNil)) (dUpd do_ de) :=
  ⟨pe_bm PySem.F.plainAttrs_dict PySem.F.slot_dict_update PySem.F.type_dict_update mt_upd ho.pe (pa_cons he.pe pa_nil hs) hbase hfew hline hs rfl, le_upd ho.le he.le⟩
theorem i_rev (hg : Gl X "reversed") (hm : X.mg "reversed" = none) (h : PEd X e te de) (hs : starEach [e] X.env = [(false, eval e X.env)] := by rfl) : PId X tg (.Call (.Name "reversed" p) [e] [] pos) (iRev X.K (tCons te tNil)) (dRev de) := ⟨pi_reversed hg hm (pa_cons h.pe pa_nil (by rw [hs]; rfl)) hs, li_rev h.le⟩
end

/-! ### zip(a tuple, a list) -/
def ItzM (K : PySem.W.Frag) (a b : Addr) : It :=
  ⟨fun i H => ∃ (xs ys : List V) (x y : V), SqT K H a xs ∧ SqL K H b ys ∧ xs[i]? = some x ∧ ys[i]? = some y,
    fun i H v H' => ∃ T x y, v = .ref T ∧ H T = none ∧ H' = upd H T (.tup [x, y]) ∧ (∀ xs, SqT K H a xs → xs[i]? = some x) ∧ ∀ ys, SqL K H b ys → ys[i]? = some y,
    fun i H => ∃ xs ys : List V, SqT K H a xs ∧ SqL K H b ys ∧ xs.length = ys.length ∧ xs.length = i⟩
section
variable {prog : Program} {w : World} {A : Around} {elts : List Expr} {kk : Nat} {tpos : Pos} {a b N : Addr} {xs ys : Array Value}
theorem goes_zipM (hh : A.handled = none) (la : a < N) (lb : b < N) :
    GoesN prog w A (.Tuple elts kk tpos) (N + 4) ((N + 4) :: (N + 2) :: (N + 3) :: ([N, a] ++ [N + 1, b])) [N + 4, N + 3, N, N + 1] (min xs.size ys.size) (fun i h0 v h => ∃ T x y, v = .ref T ∧ h0.objs.size ≤ T ∧ xs[i]? = some x ∧ ys[i]? = some y ∧ h.IsTuple T #[x, y])
      (fun i h => IsZip h (N + 4) (N + 2) (N + 3) .none ∧ IsTupOf2 h (N + 2) (.ref N) (.ref (N + 1)) ∧ (∃ a1 a2, IsTupOf2 h (N + 3) a1 a2) ∧ (h.IsTupleIter N a i ∧ h.IsTuple a xs) ∧ (h.IsListIter (N + 1) b i ∧ h.IsList b ys)) :=
  GoesN.zip2 (zip_sep2 (N := N) (fp1 := [a]) (fp2 := [b]) (fun c hc => by rw [List.mem_singleton.mp hc]; exact la) (fun c hc => by rw [List.mem_singleton.mp hc]; exact lb))
    (Draws.tuple (A := A.in1) hh N a (Nat.ne_of_lt la) xs) (Draws.list (A := A.in1) hh (N + 1) b (Nat.ne_of_lt (Nat.lt_succ_of_lt lb)) ys)
end
theorem turn_zipM {P : Program} {w : World} {K : PySem.W.Frag} {elts : List Expr} {kk : Nat} {tpos : Pos} {a b N : Addr} (la : a < N) (lb : b < N) :
    Turn P w K (.Tuple elts kk tpos) (ItzM K a b) [N + 4, N + 2, N + 3, N, N + 1] (N + 4) (fun i h => IsZip h (N + 4) (N + 2) (N + 3) .none ∧ IsTupOf2 h (N + 2) (.ref N) (.ref (N + 1)) ∧ (∃ x y, IsTupOf2 h (N + 3) x y) ∧ h.IsTupleIter N a i ∧ h.IsListIter (N + 1) b i) where
  mem := by simp
  obj := fun i h st c hc => by
    obtain ⟨g1, g2, ⟨x, y, g3⟩, ⟨o1, q1, _, d1⟩, ⟨o2, q2, _, d2⟩⟩ := st
    have e' : c = N + 4 ∨ c = N + 2 ∨ c = N + 3 ∨ c = N ∨ c = N + 1 := by simpa using hc
    rcases e' with q | q | q | q | q <;> subst q
    · exact ⟨_, g1, fun v z => nomatch z⟩
    · exact ⟨_, g2, fun v z => nomatch z⟩
    · exact ⟨_, g3, fun v z => nomatch z⟩
    · exact ⟨o1, q1, fun v z => by rw [d1] at z; cases z⟩
    · exact ⟨o2, q2, fun v z => by rw [d2] at z; cases z⟩
  keep := fun i h h' st kp => by
    obtain ⟨g1, g2, ⟨x, y, g3⟩, g4, g5⟩ := st
    exact ⟨kp _ (by simp) _ g1, kp _ (by simp) _ g2, ⟨x, y, kp _ (by simp) _ g3⟩, g4.at fun o q => kp _ (by simp) o q, g5.at fun o q => kp _ (by simp) o q⟩
  item := by
    intro X hP hw hK hc i pins s σ H E I hf st hg
    subst hP hw hK
    obtain ⟨g1, g2, g3, g4, g5⟩ := id st
    obtain ⟨xs, ys, x, y, hqx, hqy, hx, hy⟩ := hg
    obtain ⟨i1, r1, p1, _⟩ := I.tuple hqx
    obtain ⟨i2, r2, p2, _⟩ := I.list hqy
    obtain ⟨u, hu, ru⟩ := r1.get hx
    obtain ⟨v, hv, rv⟩ := r2.get hy
    have W := goes_zipM (prog := X.prog) (w := X.w) (A := X.A) (elts := elts) (kk := kk) (tpos := tpos) (xs := i1.toArray) (ys := i2.toArray) (I.ok.hd hc) la lb
    have hi1 : i < i1.length := (List.getElem?_eq_some_iff.mp hu).1
    have hi2 : i < i2.length := (List.getElem?_eq_some_iff.mp hv).1
    refine W.goes i s _ E (by simp only [List.size_toArray]; omega) ⟨g1, g2, g3, ⟨g4, p1⟩, ⟨g5, p2.isList⟩⟩ fun t h' tk hY st2 hk _ => ?_
    obtain ⟨T, x2, y2, rfl, hT, hx2, hy2, hTup⟩ := hY
    have ex : x2 = u := by
      have : i1[i]? = some x2 := by simpa using hx2
      rw [hu] at this
      exact (Option.some.inj this).symm
    have ey : y2 = v := by
      have : i2[i]? = some y2 := by simpa using hy2
      rw [hv] at this
      exact (Option.some.inj this).symm
    subst ex ey
    have new : ObjOk X.prog X.w (upd H T (.tup [x, y])) h' T (.tup [x, y]) := ⟨by show 2 ≤ sizeLine; decide, [x2, y2], .cons ru (.cons rv .nil), hTup⟩
    have I1 : Inv X pins σ (upd H T (.tup [x, y])) { s with heap := h', toks := tk } :=
      I.turnedNew (t' := tk) (ch := [N + 4, N + 2, N + 3, N, N + 1]) (fun c o hb q => hk c o (fun z => hb (by
        have z' : c = N + 4 ∨ c = N + 3 ∨ c = N ∨ c = N + 1 := by simpa using z
        rcases z' with z | z | z | z <;> subst z <;> simp)) q) hf hT new
    obtain ⟨k1, k2, k3, ⟨k4, _⟩, ⟨k5, _⟩⟩ := st2
    refine ⟨.ref T, _, I1, rfl, ⟨T, x, y, rfl, I.hok.fresh hT, rfl, fun l hl => by rw [I.tuple_inj hl hqx]; exact hx, fun l hl => by rw [I.list_inj hl hqy]; exact hy⟩, ⟨k1, k2, k3, k4, k5⟩, fun c hcm => ?_⟩
    have hlt : c < s.heap.objs.size := by
      have z' : c = N + 4 ∨ c = N + 2 ∨ c = N + 3 ∨ c = N ∨ c = N + 1 := by simpa using hcm
      obtain ⟨a1, a2, g3'⟩ := g3
      rcases z' with z | z | z | z | z <;> subst z
      · exact Heap.lt_size g1
      · exact Heap.lt_size g2
      · exact Heap.lt_size g3'
      · obtain ⟨_, q, _⟩ := g4; exact Heap.lt_size q
      · obtain ⟨_, q, _⟩ := g5; exact Heap.lt_size q
    rw [upd_ne (Nat.ne_of_lt (Nat.lt_of_lt_of_le hlt hT))]
    exact (hf c hcm).1
  done := by
    intro X hP hw hK hc i pins s σ H E I hf st hg
    subst hP hw hK
    obtain ⟨g1, g2, g3, g4, g5⟩ := id st
    obtain ⟨xs, ys, hqx, hqy, hl, hi⟩ := hg
    obtain ⟨i1, r1, p1, _⟩ := I.tuple hqx
    obtain ⟨i2, r2, p2, _⟩ := I.list hqy
    have l1 := r1.length
    have l2 := r2.length
    have W := goes_zipM (prog := X.prog) (w := X.w) (A := X.A) (elts := elts) (kk := kk) (tpos := tpos) (xs := i1.toArray) (ys := i2.toArray) (I.ok.hd hc) la lb
    have en : min i1.toArray.size i2.toArray.size = i := by simp only [List.size_toArray]; omega
    refine W.stops s (fun s1 => Inv X pins σ H s1) E (by rw [en]; exact ⟨g1, g2, g3, ⟨g4, p1⟩, ⟨g5, p2.isList⟩⟩) fun h' tk hk _ => ?_
    exact I.turnedL (t' := tk) (ch := [N + 4, N + 2, N + 3, N, N + 1]) (fun c o hb q => hk c o (fun z => hb (by
        have z' : c = N + 4 ∨ c = N + 3 ∨ c = N ∨ c = N + 1 := by simpa using z
        rcases z' with z | z | z | z <;> subst z <;> simp)) q) hf
  self := fun A i s Q E st h => wpAny_pyIter_zip st.1 h
def iZipM (K : PySem.W.Frag) (ta : TA) : TI := fun σ H R => ta σ H fun vs H1 => ∃ a b xs ys, vs = [.ref a, .ref b] ∧ SqT K H1 a xs ∧ SqL K H1 b ys ∧ R (ItzM K a b) H1
theorem pi_zipM {X : Cx} {e e2 : Expr} {ta : TA} {p pos tpos : Pos} {elts : List Expr} {kk : Nat} (hg : Gl X "zip") (hm : X.mg "zip" = none) (ha : PA X [e, e2] ta)
    (hs : starEach [e, e2] X.env = (false, eval e X.env) :: starEach [e2] X.env) (hpl : (backTo pos (starEach [e2] X.env)).any (·.1) = false) : PI X (.Tuple elts kk tpos) (.Call (.Name "zip" p) [e, e2] [] pos) (iZipM X.K ta) := by
  constructor
  intro pins s σ H R I h
  refine Call_ (ld_blt I hg hm PyProof.Rows.boot_zip (PyProof.Rows.callWith_type1 (thn (ha.run pos pins s σ H _ I h) fun us s1 hu => ?_) hs hpl))
  obtain ⟨vs, H1, I1, r1, a, b, xs, ys, rfl, hqx, hqy, q⟩ := hu
  obtain ⟨ua, ub, rfl, ra, rb⟩ := Vals.two r1
  cases ra
  cases rb
  obtain ⟨i1, v1, p1, _⟩ := I1.tuple hqx
  obtain ⟨i2, v2, p2, _⟩ := I1.list hqy
  have la : a < s1.heap.objs.size := by obtain ⟨o, ho, _⟩ := id p1; exact Heap.lt_size ho
  have lb : b < s1.heap.objs.size := p2.lt
  refine zip_begins2 (begins_tuple a i1.toArray) (begins_list b i2.toArray) p1 p2.isList fun h' g1 g2 g3 g4 g5 hsz hk => wpAny_pyIter_zip g1 ?_
  refine ⟨s1.heap.objs.size + 4, _, _, _, H1, rfl, I1.kept (t' := s1.toks) hk, turn_zipM la lb, ⟨g1, g2, ⟨_, _, g3⟩, ⟨_, g4, rfl, rfl⟩, ⟨_, g5, rfl, rfl⟩⟩, fun c hcm => ?_, q⟩
  have z' : c = s1.heap.objs.size + 4 ∨ c = s1.heap.objs.size + 2 ∨ c = s1.heap.objs.size + 3 ∨ c = s1.heap.objs.size ∨ c = s1.heap.objs.size + 1 := by simpa using hcm
  have hle : s1.heap.objs.size ≤ c := by
    rcases z' with z | z | z | z | z <;> rw [z]
    · exact Nat.le_add_right _ _
    · exact Nat.le_add_right _ _
    · exact Nat.le_add_right _ _
    · exact Nat.le_refl _
    · exact Nat.le_add_right _ _
  exact I1.fpOk hle (I1.hok.fresh hle)
def dZipL (i j : Nat) (tb : DS) : List D → List D → DS
  | x :: xs, y :: ys, D, rho, mu => tb { D with nx := dZipL i j tb xs ys D, ct := dZipL i j tb xs ys D, bk := D.nx } ((rho.set i (some x)).set j (some y)) mu
  | _, _, D, rho, mu => D.nx rho mu
def dForZ (i j : Nat) (da db : DE) (tb : DS) : DS := fun D rho mu => da rho mu fun x mu1 => db rho mu1 fun y mu2 => match tv x, y with
  | some xs, .lst ys => xs.length = ys.length ∧ dZipL i j tb xs ys D rho mu2
  | _, _ => False
theorem ls_forz {K : PySem.W.Frag} {i j : Nat} {ta tb : TE} {da db : DE} {t : TS} {dt : DS} (ha : LE ta da) (hb : LE tb db) (ht : LS t dt) : LS (tFor (iZipM K (tCons ta (tCons tb tNil))) (gTup K 2 (gNames [i, j])) t) (dForZ i j da db dt) := by
  intro M0 H0 ms Hs E D L rho mu σ H at_ e0 es hp
  refine ha M0 mu rho σ H _ _ at_ hp fun x mu1 v H1 hd o1 e1 r1 => ?_
  refine hb M0 mu1 rho σ H1 _ _ (at_.to o1 e1) hd fun y mu2 w H2 hd2 o2 e2 r2 => ?_
  have rx := Rep.tr e2.tr _ _ r1
  split at hd2
  · rename_i xs ys hx
    have ex : x = .tup xs := by cases x <;> simp only [tv] at hx <;> cases hx; rfl
    subst ex
    simp only [Rep] at rx r2
    obtain ⟨a, vs, rfl, na, hA, rs⟩ := rx
    obtain ⟨b, ws, rfl, nb, hB, rs2⟩ := r2
    have l1 := rs.len
    have l2 := rs2.len
    have at2 := (at_.to o1 e1).to o2 e2
    have ee := (e0.trans e1).trans e2
    have eS := (es.trans e1).trans e2
    refine ⟨a, b, vs, ws, rfl, SqT.of hA, SqL.of hB, ?_⟩
    refine ⟨fun k m σ' H' => ∃ rho' mu', At M0 mu' rho' σ' H' ∧ Ext mu2 H2 mu' H' ∧ dZipL i j dt (xs.drop k) (ys.drop k) D rho' mu' ∧ k + m = xs.length, ⟨xs.length, rho, mu2, at2, Ext.refl _ _, by rw [List.drop_zero, List.drop_zero]; exact hd2.2, by omega⟩, ?_⟩
    rintro k m σ' H' ⟨rho', mu', a', e', hd', hm⟩
    have tA := e'.tr (M0 := M0) a _ na hA
    have tB := e'.tr (M0 := M0) b _ nb hB
    by_cases hk : k < xs.length
    · right
      have hk2 : k < ys.length := by have := hd2.1; omega
      rw [List.drop_eq_getElem_cons hk, List.drop_eq_getElem_cons hk2] at hd'
      obtain ⟨v, hv, rv⟩ := (Reps.tr e'.tr _ _ rs).get (List.getElem?_eq_getElem hk)
      obtain ⟨w, hw, rw'⟩ := (Reps.tr e'.tr _ _ rs2).get (List.getElem?_eq_getElem hk2)
      refine ⟨⟨vs, ws, v, w, SqT.of tA.2, SqL.of tB.2, hv, hw⟩, fun σ2 H2' => ∃ rho2 mu2', At M0 mu2' rho2 σ2 H2' ∧ Ext mu2 H2 mu2' H2' ∧ dZipL i j dt (xs.drop (k + 1)) (ys.drop (k + 1)) D rho2 mu2', ?_, ?_⟩
      · rintro σ2 H2' ⟨rho2, mu2', q1, q2, q3⟩
        exact ⟨m - 1, by omega, rho2, mu2', q1, q2, q3, by omega⟩
      · intro u H'' hu
        obtain ⟨T, x', y', rfl, nT, rfl, f1, f2⟩ := hu
        have fx := f1 vs (SqT.of tA.2)
        have fy := f2 ws (SqL.of tB.2)
        rw [hv] at fx
        rw [hw] at fy
        cases fx
        cases fy
        have eT := ext_new (mu := mu') (o := .tup [v, w]) nT
        have aT : At M0 mu' rho' σ' (upd H' T (.tup [v, w])) := a'.to (a'.ok.new nT) eT
        refine ⟨T, [v, w], rfl, SqT.of upd_same, rfl, ?_⟩
        refine names_ok aT (reps_cons (Rep.tr eT.tr _ _ rv) (reps_one (Rep.tr eT.tr _ _ rw'))) rfl fun σ2 a2 => ?_
        refine ht M0 H0 mu2 H2 { E with nx := fun σ2 H2' => ∃ rho2 mu2', At M0 mu2' rho2 σ2 H2' ∧ Ext mu2 H2 mu2' H2' ∧ dZipL i j dt (xs.drop (k + 1)) (ys.drop (k + 1)) D rho2 mu2', ct := fun σ2 H2' => ∃ rho2 mu2', At M0 mu2' rho2 σ2 H2' ∧ Ext mu2 H2 mu2' H2' ∧ dZipL i j dt (xs.drop (k + 1)) (ys.drop (k + 1)) D rho2 mu2', bk := E.nx }
          { D with nx := dZipL i j dt (xs.drop (k + 1)) (ys.drop (k + 1)) D, ct := dZipL i j dt (xs.drop (k + 1)) (ys.drop (k + 1)) D, bk := D.nx }
          ⟨L.live, fun r m s h a e ee q => ⟨r, m, a, ee, q⟩, fun d m v h o e ee r q => L.rt d m v h o e (eS.trans ee) r q, fun r m s h a e ee q => L.nx r m s h a e (eS.trans ee) q, fun r m s h a e ee q => ⟨r, m, a, ee, q⟩⟩ _ mu' _ _ a2 ((ee.trans e').trans eT) (e'.trans eT) hd'
    · left
      have := hd2.1
      refine ⟨⟨vs, ws, SqT.of tA.2, SqL.of tB.2, by omega, by omega⟩, ?_⟩
      rw [List.drop_eq_nil_of_le (by omega), List.drop_eq_nil_of_le (by omega)] at hd'
      exact L.nx _ _ _ _ a' (ee.trans e') (eS.trans e') hd'
  · exact hd2.elim
section
variable {X : Cx} {e e2 : Expr} {ta tb : TE} {da db : DE} {es : List Expr} {k : Nat} {p pos pt fp : Pos} {body : List Stmt} {t : TS} {dt : DS}
theorem s_forz (i j : Nat) (hc : X.calm = true) (hp : PassesOwn (model X.prog X.w) X.A X.env X.xe) (hg : Gl X "zip") (hm : X.mg "zip" = none) (ha : PEd X e ta da) (hb : PEd X e2 tb db) (hn : PGs X es (gNames [i, j])) (ht : PSsd X body t dt)
    (h1 : starEach [e, e2] X.env = (false, eval e X.env) :: starEach [e2] X.env := by rfl) (h2 : starEach [e2] X.env = (false, eval e2 X.env) :: starEach [] X.env := by rfl) (hpl : (backTo pos (starEach [e2] X.env)).any (·.1) = false := by rfl)
    (hnl : (assignEach es X.env).length = 2 := by rfl) (hst : (assignEach es X.env).findIdx? (·.1) = none := by rfl) (hs : ∀ x, foldedSetIterable (.Call (.Name "zip" p) [e, e2] [] pos) X.env x = pure x := by intro _; rfl) :
    PSd X (.For (.Tuple es k pt) (.Call (.Name "zip" p) [e, e2] [] pos) body [] fp) (tFor (iZipM X.K (tCons ta (tCons tb tNil))) (gTup X.K 2 (gNames [i, j])) t) (dForZ i j da db dt) :=
  ⟨ps_for hp hc (pi_zipM hg hm (pa_cons ha.pe (pa_cons hb.pe pa_nil h2) h1) h1 hpl) (pg_tup hc hn hnl hst) ht.pe hs, ls_forz ha.le hb.le ht.le⟩
end
end DL
set_option maxHeartbeats 1000000
/-! K50I: list(reversed(a tuple)) -/
namespace RTL
open PySem PySem.Spec PyProof.Rows RT

theorem rtl_nolen : typeLookup (.type "reversed") "__len__" = pure none := by
  rw [typeLookup_type, builtinLookup_eq_fast]
  kernel_rfl
theorem rtl_slot : Slot "reversed" "__length_hint__" "reversed.__length_hint__" :=
  Slot.of (owner := "reversed") (n := "__length_hint__")
    (by rw [typeLookup_type, builtinLookup_eq_fast]; kernel_rfl)
    (by decide +kernel)
    (by decide +kernel)
    (by decide +kernel)
    (by first | exact Or.inl (by decide +kernel) | exact Or.inr (by decide +kernel))
    (by rw [isSubtype_type]; kernel_rfl)
theorem rtl_entry : entryFor table "reversed.__length_hint__" = some Builtin.«reversed.__length_hint__» :=
  entryFor_of_tree (by kernel_rfl)
theorem rtl_args (a : Value) : argsOk "reversed.__length_hint__" ⟨[a], []⟩ := by
  unfold argsOk
  rw [signature?_of (id := "reversed.__length_hint__") (n := "__length_hint__".toList.reverse) (o := "reversed".toList.reverse) (by kernel_rfl) owner_rt]
  kernel_rfl
theorem rtl_type : typeOf (.builtin "reversed.__length_hint__") = pure (.type "method_descriptor") := by
  show builtinType _ = _
  rw [builtinType_eq_fast]
  kernel_rfl

section
variable {prog : Program} {w : World} {A : Around} {E : Value → Shared → Prop} {s : Shared}
/-- what it says of its length: the items that are left -/
theorem rtl_call {r t : Addr} {i : Int} {items : Array Value} {Q : Value → Shared → Prop} (hr : IsRt s.heap r t i) (ht : IsTup s.heap t items) (hsz : items.size ≤ sizeLine) (hi : i + 1 ≤ items.size)
    (h : ∀ tk tk2, Q (.int (i + 1) tk) { s with toks := tk2 }) : wpAny (model prog w) A (call (.builtin "reversed.__length_hint__") [.ref r]) Q E s := by
  obtain ⟨o, ho, hc, hd⟩ := id hr
  rw [sizeLine_eq] at hsz
  refine wpAny_call_entry rtl_slot hr.typeIs rtl_entry ?_ (rtl_args _)
  unfold Builtin.«reversed.__length_hint__»
  refine wpAny_bind (wpAny_of_eq (a := Value.ref r) rfl ?_)
  try dsimp only
  refine wpAny_bind (wpAny_field ho hd (x := .ref t) rfl ?_)
  show wpAny _ _ (if (Value.ref t == Value.none) = true then _ else _) _ _ s
  rw [if_neg (show ¬ ((Value.ref t == Value.none) = true) from Bool.false_ne_true)]
  try dsimp only
  refine wpAny_bind (len_tuple ht (by omega) ?_)
  refine wpAny_bind (wpAny_of_eq (a := some ((items.size : Nat) : Int)) rfl ?_)
  try dsimp only
  refine wpAny_bind (wpAny_field (s := { s with toks := s.toks + 1 + 1 }) ho hd (x := rawInt i) rfl ?_)
  show wpAny _ _ (if ((items.size : Nat) : Int) < i + 1 then _ else _) _ _ _
  rw [if_neg (by omega)]
  show wpAny _ _ (mkInt (i + 1) >>= fun v => ret v) _ _ _
  refine wpAny_bind (wpAny_mkInt ?_)
  exact wpAny_pure ⟨_, rfl, h _ _⟩
theorem rtl_hint {r t : Addr} {i : Int} {items : Array Value} {Q : Bool → Shared → Prop} (hr : IsRt s.heap r t i) (ht : IsTup s.heap t items) (hsz : items.size ≤ sizeLine) (hi : i + 1 ≤ items.size) (h0 : 0 ≤ i + 1)
    (h : ∀ b tk, Q b { s with toks := tk }) : wpAny (model prog w) A (Builtin.List.listLengthHint (.ref r)) Q E s := by
  have hT := hr.typeIs
  have hsz' := hsz
  rw [sizeLine_eq] at hsz'
  unfold Builtin.List.listLengthHint
  refine wpAny_bind (wpAny_specialOf hT rtl_nolen ?_)
  show wpAny _ _ (specialOf (Value.ref r) (Str.ofString "__length_hint__") >>= _) _ _ _
  refine wpAny_bind (wpAny_specialOf hT rtl_slot.lookup ?_)
  generalize he : ("reversed.__length_hint__" : String) = id1
  wp_delta
  rw [show splitId id1 = some ("reversed", "__length_hint__") from by subst he; decide +kernel]
  subst he
  refine wpAny_bind (wpAny_isInstance (T := "reversed") (b := true) hT (by rw [isSubtype_type]; kernel_rfl) ?_)
  refine wpAny_ite_split (fun hab => absurd hab (by decide)) (fun _ => ?_)
  refine wpAny_ite_split (fun hab => absurd hab (by decide +kernel)) (fun _ => ?_)
  refine wpAny_bind (wpAny_rule ?_)
  refine wpAny_bind (m := bindSpecial _ _) ?_
  unfold bindSpecial
  refine wpAny_bind (wpAny_of_eq rtl_type ?_)
  rw [if_pos (by decide)]
  refine wpAny_pure ?_
  refine wpAny_bind (wpAny_attempt (rtl_call hr ht hsz hi fun tk tk2 => ?_))
  refine wpAny_bind (wpAny_of_eq (a := some (i + 1)) rfl ?_)
  refine wpAny_ite_split (fun hab => absurd hab ?_) (fun _ => ?_)
  · have : Builtin.List.listFitsIndex (i + 1) = true := by
      unfold Builtin.List.listFitsIndex
      rw [decide_eq_true (show -(2 ^ 63 : Int) ≤ i + 1 by omega), decide_eq_true (show i + 1 < 2 ^ 63 by omega)]
      rfl
    rw [this]
    decide
  refine wpAny_ite_split (fun hab => absurd hab (by omega)) (fun _ => ?_)
  refine wpAny_ite_split (fun hab => absurd hab ?_) (fun _ => ?_)
  · have : Builtin.List.listTooLong (i + 1).toNat = false := by
      unfold Builtin.List.listTooLong
      rw [sizeLine_eq]
      exact decide_eq_false (by omega)
    rw [this]
    decide
  exact wpAny_pure (h _ _)
theorem rtl_walks (hh : A.handled = none) (r t : Addr) (hne : t ≠ r) (items : Array Value) (hsz : items.size ≤ sizeLine) :
    Walks prog w A r [r, t] [r] items.size (fun i v => items[items.size - 1 - i]? = some v) (fun i h => i ≤ items.size ∧ IsRt h r t ((items.size : Int) - 1 - (i : Int)) ∧ IsTup h t items) where
  sub := fun b hb => by
    rw [List.mem_singleton.mp hb]
    simp
  frame := fun _ _ _ x hk => ⟨x.1, x.2.1.at fun o e => hk r (by simp) o e, by
    obtain ⟨o, ho, hc⟩ := x.2.2
    exact ⟨o, hk t (by simp) o ho, hc⟩⟩
  item := fun i s Q E hi x hQ => by
    obtain ⟨x1, x2, x3⟩ := x
    have e1 : (items.size : Int) - 1 - (i : Int) = ((items.size - 1 - i : Nat) : Int) := by omega
    rw [e1] at x2
    have hx : items[items.size - 1 - i]? = some (items[items.size - 1 - i]'(by omega)) := Array.getElem?_eq_getElem (by omega)
    refine next_rt_item x2 x3 hx hsz fun h' y sb => ?_
    have e2 : ((items.size - 1 - i : Nat) : Int) - 1 = (items.size : Int) - 1 - ((i + 1 : Nat) : Int) := by omega
    rw [e2] at y
    refine hQ _ h' _ hx ⟨hi, y, ?_⟩ fun b o hb eo => sb.extBut b o (fun q => hb (by rw [q]; simp)) eo
    obtain ⟨o, ho, hc⟩ := x3
    exact ⟨o, (sb.2 t hne).trans ho, hc⟩
  done := fun s Q E x hQ => by
    obtain ⟨x1, x2, x3⟩ := x
    have e1 : (items.size : Int) - 1 - (items.size : Int) = -1 := by omega
    rw [e1] at x2
    exact next_rt_end hh x2 fun h' eb => hQ h' s.toks fun b o hb eo => eb b o (fun q => hb (by rw [q]; simp)) eo
  self := fun _ _ _ _ x hQ => iter_rt x.2.1 hQ
theorem rtl_extend {R : Result → Shared → Prop} {r t : Addr} {items : Array Value} (hh : A.handled = none) (hr : IsRt s.heap r t ((items.size : Int) - 1)) (ht : IsTup s.heap t items) (hne : t ≠ r) (hsz : items.size ≤ sizeLine)
    (S : Addr) (hSr : S ≠ r) (hSt : S ≠ t) (res : Value) (c0 : Nat) (hS : s.heap.get? S = some { cls := .type "list", data := .seq #[] c0 })
    (hR : ∀ h' tk acc' c', (∀ b o, b ≠ S → b ≠ r → s.heap.get? b = some o → h'.get? b = some o) → h'.get? S = some { cls := .type "list", dict := none, data := .seq acc' c', slots := #[] } → ItemsOf (fun i v => items[items.size - 1 - i]? = some v) acc' items.size → R (.ok (.ret res)) { s with heap := h', toks := tk }) :
    wpAny (model prog w) A.in1 (Builtin.List.listExtendWith (.ref S) (.ref r) res)
      (fun fin s' => match fin with
        | .done f => R (.ok f) s'
        | .again c' => c'.quiet = true ∧ codeAny (model prog w) A c' R s') (fun e s' => R (.error e) s') s := by
  have W := (rtl_walks (prog := prog) (w := w) (A := A.in1) hh r t hne items hsz).toS
  have hSf : S ∉ [r, t] := by
    intro q
    rcases List.mem_cons.mp q with q | q
    · exact hSr q
    · exact hSt (List.mem_singleton.mp q)
  have e0 : ((items.size : Nat) : Int) - 1 - ((0 : Nat) : Int) = (items.size : Int) - 1 := by omega
  have go : ∀ (h : Heap) (c1 tk : Nat), IsRt h r t ((items.size : Int) - 1) → IsTup h t items → (∀ b o, b ≠ S → s.heap.get? b = some o → h.get? b = some o) → h.get? S = some { cls := .type "list", data := .seq #[] c1 } →
      codeAny (model prog w) A (.builtin "list.extend.loop" ⟨[.ref S, .ref r, res], []⟩) R { s with heap := h, toks := tk } := by
    intro h c1 tk q1 q2 q3 q4
    refine codeAny_extend_loopS W hsz S hSf res items.size 0 _ #[] c1 rfl (Nat.zero_le _) ⟨Nat.zero_le _, by rw [e0]; exact q1, q2⟩ q4 (ItemsOf.nil _) fun s' acc' c' hm hS' hacc => ?_
    rw [Moved.eq_with hm]
    refine hR s'.heap s'.toks acc' c' (fun b o hb hb2 e => hm.heap b o (fun hmem => ?_) (q3 b o hb e)) hS' hacc
    rcases List.mem_cons.mp hmem with z | z
    · exact hb z
    · exact hb2 (List.mem_singleton.mp z)
  have hT := hr.typeIs
  unfold Builtin.List.listExtendWith
  refine wpAny_bind (wpAny_typeOf hT ?_)
  have h1 : Builtin.List.listSameRef (.ref S) (.ref r) = false := by simp [Builtin.List.listSameRef, hSr]
  rw [if_neg (by rw [h1]; decide)]
  refine wpAny_bind (iter_rt hr ?_)
  refine wpAny_bind (wpAny_holding (rtl_hint hr ht hsz (by omega) (by omega) fun b tk => ?_))
  refine wpAny_ite_split (fun _ => ?_) (fun _ => wpAny_pure ⟨plainId_quiet F.plain_extend_loop _, go _ c0 _ hr ht (fun b o _ e => e) hS⟩)
  refine wpAny_bind (wpAny_rule ?_)
  refine wpAny_bind ?_
  show wpAny _ _ (updateSeq S (fun xs => xs.push .none) >>= fun _ => updateSeq S (fun xs => xs.pop)) _ _ _
  refine wpAny_bind (wpAny_updateSeq hS rfl ?_)
  have hS2 := Heap.get?_update_self (Obj.mapSeq (fun xs => xs.push Value.none)) hS rfl
  refine wpAny_updateSeq (hz := by seq_fits) hS2 rfl ?_
  have hS3 := Heap.get?_update_self (Obj.mapSeq (fun xs => xs.pop)) hS2 rfl
  have old : ∀ b o, b ≠ S → s.heap.get? b = some o → ((s.heap.update S (Obj.mapSeq (fun xs => xs.push Value.none))).update S (Obj.mapSeq (fun xs => xs.pop))).get? b = some o := fun b o hb e =>
    (Heap.get?_update_other _ _ (Ne.symm hb)).trans ((Heap.get?_update_other _ _ (Ne.symm hb)).trans e)
  refine wpAny_pure ⟨plainId_quiet F.plain_extend_loop _, go _ _ _ (hr.at fun o e => old r o (Ne.symm hSr) e) ?_ old hS3⟩
  obtain ⟨o, ho, hc⟩ := ht
  exact ⟨o, old t o (Ne.symm hSt) ho, hc⟩
theorem rtl_init {R : Result → Shared → Prop} {r t : Addr} {items : Array Value} (hh : A.handled = none) (hr : IsRt s.heap r t ((items.size : Int) - 1)) (ht : IsTup s.heap t items) (hne : t ≠ r) (hsz : items.size ≤ sizeLine)
    (S : Addr) (hSr : S ≠ r) (hSt : S ≠ t) (hS : s.heap.get? S = some { cls := .type "list", data := .seq #[] })
    (hR : ∀ h' tk acc' c', (∀ b o, b ≠ S → b ≠ r → s.heap.get? b = some o → h'.get? b = some o) → h'.get? S = some { cls := .type "list", dict := none, data := .seq acc' c', slots := #[] } → ItemsOf (fun i v => items[items.size - 1 - i]? = some v) acc' items.size → R (.ok (.ret .none)) { s with heap := h', toks := tk }) :
    wpAny (model prog w) A.in1 (Builtin.«list.__init__» ⟨[.ref S, .ref r], []⟩)
      (fun fin s' => match fin with
        | .done f => R (.ok f) s'
        | .again c' => c'.quiet = true ∧ codeAny (model prog w) A c' R s') (fun e s' => R (.error e) s') s := by
  show wpAny _ _ (do
    let old ← Builtin.List.listItems (.ref S)
    Builtin.List.listUpdate (.ref S) (fun _ => #[])
    letGo old.toList.reverse
    Builtin.List.listExtendWith (.ref S) (.ref r) .none) _ _ s
  refine wpAny_bind ?_
  unfold Builtin.List.listItems
  refine wpAny_bind (wpAny_seqItems hS rfl (wpAny_pure ?_))
  show wpAny _ _ (updateSeq S (fun _ => #[]) >>= fun _ => letGo (#[] : Array Value).toList.reverse >>= fun _ => Builtin.List.listExtendWith (.ref S) (.ref r) .none) _ _ s
  refine wpAny_bind (wpAny_updateSeq hS rfl ?_)
  have hS2 := Heap.get?_update_self (Obj.mapSeq (fun _ => (#[] : Array Value))) hS rfl
  have old : ∀ b o, b ≠ S → s.heap.get? b = some o → (s.heap.update S (Obj.mapSeq (fun _ => (#[] : Array Value)))).get? b = some o := fun b o hb e => (Heap.get?_update_other _ _ (Ne.symm hb)).trans e
  refine wpAny_bind (wpAny_letGo ?_)
  have ht2 : IsTup (s.heap.update S (Obj.mapSeq (fun _ => (#[] : Array Value)))) t items := by
    obtain ⟨o, ho, hc⟩ := ht
    exact ⟨o, old t o (Ne.symm hSt) ho, hc⟩
  exact rtl_extend hh (hr.at fun o e => old r o (Ne.symm hSr) e) ht2 hne hsz S hSr hSt .none _ hS2 fun h' tk acc' c' hk hS' hacc => hR h' tk acc' c' (fun b o hb hb2 e => hk b o hb hb2 (old b o hb e)) hS' hacc
theorem rtl_list {Q : Value → Shared → Prop} {r t : Addr} {items : Array Value} (hh : A.handled = none) (hr : IsRt s.heap r t ((items.size : Int) - 1)) (ht : IsTup s.heap t items) (hne : t ≠ r) (hsz : items.size ≤ sizeLine)
    (hQ : ∀ h' tk acc' c', (∀ b o, b ≠ r → s.heap.get? b = some o → h'.get? b = some o) → h'.get? s.heap.objs.size = some { cls := .type "list", dict := none, data := .seq acc' c', slots := #[] } → ItemsOf (fun i v => items[items.size - 1 - i]? = some v) acc' items.size → Q (.ref s.heap.objs.size) { s with heap := h', toks := tk }) :
    wpAny (model prog w) A (call (.type "list") [.ref r]) Q E s := by
  obtain ⟨o1, k1, _⟩ := id hr
  obtain ⟨o2, k2, _⟩ := id ht
  have nr : s.heap.objs.size ≠ r := Nat.ne_of_gt (Heap.lt_size k1)
  have nt : s.heap.objs.size ≠ t := Nat.ne_of_gt (Heap.lt_size k2)
  refine callType_codes (Q₁ := fun obj s1 => obj = .ref s.heap.objs.size ∧ s1 = { s with heap := s.heap.push { cls := .type "list", data := .seq #[] } }) F.called_list (F.typeCall_list_1 _) F.entry_list_init (code_list_new _ ⟨rfl, rfl⟩) fun obj s1 h1 => ?_
  obtain ⟨rfl, rfl⟩ := h1
  have hS : (s.heap.push { cls := .type "list", data := .seq #[] }).get? s.heap.objs.size = some { cls := .type "list", data := .seq #[] } := Heap.get?_push_size _ rfl
  have ht2 : IsTup (s.heap.push { cls := .type "list", data := .seq #[] }) t items := ⟨o2, Heap.get?_push_of_some _ k2, by assumption⟩
  refine ⟨⟨_, hS, rfl⟩, F.args_list_init_2 _ _, rtl_init (A := A.in1) hh (hr.at fun o e => Heap.get?_push_of_some _ e) ht2 hne hsz _ nr nt hS fun h' tk acc' c' hk hS' hacc => ?_⟩
  exact ⟨rfl, hQ h' tk acc' c' (fun b o hb e => hk b o (Nat.ne_of_lt (Heap.lt_size e)) hb (Heap.get?_push_of_some _ e)) hS' hacc⟩
end
end RTL
set_option maxHeartbeats 1000000
/-! K50J: list(reversed(a tuple)) over data; dicts read, written, displayed -/
namespace DL
open PySem PySem.Spec PyProof.Rows L2 RT

def tLstRev (K : PySem.W.Frag) (te : TE) : TE := fun σ H Q => te σ H fun v H1 => ∃ (a : Addr) (xs : List V), v = .ref a ∧ SqT K H1 a xs ∧ ∀ q, H1 q = none → Q (.ref q) (upd H1 q (.lst xs.reverse))
theorem pe_lstRev {X : Cx} {e : Expr} {te : TE} {p p2 pos pos2 : Pos} (hc : X.calm = true) (hg : Gl X "list") (hm : X.mg "list" = none) (hg2 : Gl X "reversed") (hm2 : X.mg "reversed" = none) (he : PE X e te)
    (hs : starEach [e] X.env = (false, eval e X.env) :: starEach [] X.env := by rfl)
    (hs2 : starEach [.Call (.Name "reversed" p2) [e] [] pos2] X.env = (false, eval (.Call (.Name "reversed" p2) [e] [] pos2) X.env) :: starEach [] X.env := by rfl) :
    PE X (.Call (.Name "list" p) [.Call (.Name "reversed" p2) [e] [] pos2] [] pos) (tLstRev X.K te) := by
  refine ⟨fun pins s σ H Q I h => ?_⟩
  refine Call_ (ld_blt I hg hm boot_list (PyProof.Rows.callWith_type1 (args_cons (Call_ (ld_blt I hg2 hm2 PyProof.Rows.boot_reversed (PyProof.Rows.callWith_type1 (args_cons (thn (he.run pins s σ H _ I h) fun u s1 ⟨v, H1, I1, r1, q1⟩ => args_nil ?_) hs) hs rfl))) hs2) hs2 rfl))
  obtain ⟨a, xs, ev, hq, q⟩ := q1
  subst ev
  obtain rfl : u = Value.ref a := r1
  obtain ⟨its, rv, p', hz⟩ := I1.tuple hq
  have hn := line63
  have hsz : its.toArray.size ≤ sizeLine := by rw [List.size_toArray, ← rv.length]; exact hz
  have hsz63 : its.toArray.size ≤ sizeLine := hsz
  refine call_reversed_tup p' (fun A E Q k => len_tuple p' (by simp only [List.size_toArray] <;> have := rv.length <;> omega) k) (args_nil ?_)
  obtain ⟨ol, hol, _⟩ := id p'
  have hne : a ≠ s1.heap.objs.size := Nat.ne_of_lt (Heap.lt_size hol)
  have ht2 : IsTup (s1.heap.push (rtObj a ((its.toArray.size : Int) - 1))) a its.toArray := by
    obtain ⟨o, ho, hcc⟩ := id p'
    exact ⟨o, Heap.get?_push_of_some _ ho, hcc⟩
  refine RTL.rtl_list (r := s1.heap.objs.size) (t := a) (items := its.toArray) (I1.ok.hd hc) ⟨_, Heap.get?_push_size _ rfl, rfl, rfl⟩ ht2 hne hsz fun h' tk acc c' hk hN hi => ?_
  have hT : s1.heap.objs.size ≤ (s1.heap.push (rtObj a ((its.toArray.size : Int) - 1))).objs.size := by
    have := Heap.lt_size (Heap.get?_push_size s1.heap (o := rtObj a ((its.toArray.size : Int) - 1)) rfl)
    exact Nat.le_of_lt this
  have eacc : acc = acc.toList.toArray := by rw [Array.toArray_toList]
  refine ⟨.ref _, upd H1 _ (.lst xs.reverse), I1.turnedNew (t' := tk) (ch := [s1.heap.objs.size]) (fun b o hb e => hk b o (fun z => hb (by simp [z])) (Heap.get?_push_of_some _ e)) (fun b hb => by
      rw [List.mem_singleton.mp hb]
      exact I1.fpOk (Nat.le_refl _) (I1.hok.fresh (Nat.le_refl _))) hT (show ObjOk X.prog X.w _ h' _ (.lst xs.reverse) from ⟨by rw [List.length_reverse]; exact hz, acc.toList, c', vals_rev rv hi, by rw [← eacc]; exact hN⟩), rfl, q _ (I1.hok.fresh hT)⟩
def dLstRev (de : DE) : DE := fun rho mu P => de rho mu fun d mu1 => match tv d with
  | some ds => P (.lst ds.reverse) mu1
  | none => False
def dLstRevM (de : DE) : DE := fun rho mu P => de rho mu fun d mu1 => match tv d with
  | some ds => ∀ p, p ∉ dom mu1 → P (.obj p) ((p, .lst ds.reverse) :: mu1)
  | none => False
theorem le_lstRev {K : PySem.W.Frag} {te : TE} {de : DE} (h : LE te de) : LE (tLstRev K te) (dLstRev de) := by
  intro M0 mu rho σ H P Q at_ hp k
  refine h M0 mu rho σ H _ _ at_ hp fun x mu1 v H1 hd o1 e1 r1 => ?_
  split at hd
  · rename_i ds e
    obtain ⟨a, vs, rfl, g1, g2⟩ := tv_at r1 e
    refine ⟨a, vs, rfl, SqT.of g1, fun q nq => ?_⟩
    exact k _ _ _ _ hd (o1.new nq) (e1.trans (ext_new nq)) (new_lst o1 g2.rev nq)
  · exact hd.elim
theorem le_lstRevM {K : PySem.W.Frag} {te : TE} {de : DE} (h : LE te de) : LE (tLstRev K te) (dLstRevM de) := by
  intro M0 mu rho σ H P Q at_ hp k
  refine h M0 mu rho σ H _ _ at_ hp fun x mu1 v H1 hd o1 e1 r1 => ?_
  split at hd
  · rename_i ds e
    obtain ⟨a, vs, rfl, g1, g2⟩ := tv_at r1 e
    refine ⟨a, vs, rfl, SqT.of g1, fun q nq => ?_⟩
    exact k _ _ _ _ (hd q (o1.notdom nq)) (new_lstM o1 g2.rev nq) (e1.trans (ext_cell nq)) (rep_of rfl)
  · exact hd.elim
section
variable {X : Cx} {e o i value : Expr} {te to ti tv_ : TE} {de do_ di dv_ : DE} {p p2 pos pos2 pos' : Pos}
theorem d_lstRev (hc : X.calm = true) (hg : Gl X "list") (hm : X.mg "list" = none) (hg2 : Gl X "reversed") (hm2 : X.mg "reversed" = none) (he : PEd X e te de)
    (hs : starEach [e] X.env = (false, eval e X.env) :: starEach [] X.env := by rfl)
    (hs2 : starEach [.Call (.Name "reversed" p2) [e] [] pos2] X.env = (false, eval (.Call (.Name "reversed" p2) [e] [] pos2) X.env) :: starEach [] X.env := by rfl) :
    PEd X (.Call (.Name "list" p) [.Call (.Name "reversed" p2) [e] [] pos2] [] pos) (tLstRev X.K te) (dLstRev de) := ⟨pe_lstRev hc hg hm hg2 hm2 he.pe hs hs2, le_lstRev he.le⟩
theorem d_lstRevM (hc : X.calm = true) (hg : Gl X "list") (hm : X.mg "list" = none) (hg2 : Gl X "reversed") (hm2 : X.mg "reversed" = none) (he : PEd X e te de)
    (hs : starEach [e] X.env = (false, eval e X.env) :: starEach [] X.env := by rfl)
    (hs2 : starEach [.Call (.Name "reversed" p2) [e] [] pos2] X.env = (false, eval (.Call (.Name "reversed" p2) [e] [] pos2) X.env) :: starEach [] X.env := by rfl) :
    PEd X (.Call (.Name "list" p) [.Call (.Name "reversed" p2) [e] [] pos2] [] pos) (tLstRev X.K te) (dLstRevM de) := ⟨pe_lstRev hc hg hm hg2 hm2 he.pe hs hs2, le_lstRevM he.le⟩
theorem d_dget (hu : X.A.units + 1 < cLine) (ho : PEd X o to do_) (hi : PEd X i ti di) (hs : NoSl i := by exact fun _ _ => rfl) : PEd X (.Subscript o i pos) (tDGet to ti) (dDGet do_ di) := ⟨pe_dget hu ho.pe hi.pe hs, le_dget ho.le hi.le⟩
theorem s_dput (hu : X.A.units + 1 < cLine) (ho : PEd X o to do_) (hi : PEd X i ti di) (hv : PEd X value tv_ dv_) (hs : swapsWith value (some (.Subscript o i pos')) pos.line X.env = pure false := by rfl) :
    PSd X (.Assign [.Subscript o i pos'] value pos) (sDPut to ti tv_) (dDPut dv_ do_ di) := ⟨ps_dput hu ho.pe hi.pe hv.pe hs, ls_dput hv.le ho.le hi.le⟩
structure PPd (X : Cx) (pos : Pos) (ks : List (Option Expr)) (vs : List Expr) (trs : List (TE × TE)) (kds : List (Str × DE)) : Prop where
  pe : PPs X pos ks vs trs
  le : LP trs kds
  all : ks.all (·.isSome) = true
  len : ks.length = vs.length
theorem pp_nil : PPd X pos [] [] [] [] := ⟨pps_nil, lp_nil, rfl, rfl⟩
theorem pp_cons {k : Str} {kp : Pos} {j : Nat} {v : Expr} {tw : TE} {dw : DE} {ks : List (Option Expr)} {vs : List Expr} {trs : List (TE × TE)} {kds : List (Str × DE)} (hv : PEd X v tw dw) (hr : PPd X pos ks vs trs kds) :
    PPd X pos (some (.Constant (.str k) j kp) :: ks) (v :: vs) ((tC (.str k), tw) :: trs) ((k, dw) :: kds) := ⟨pps_cons pe_str hv.pe hr.pe, lp_cons hv.le hr.le, by
      rw [List.all_cons, hr.all]
      rfl, by rw [List.length_cons, List.length_cons, hr.len]⟩
theorem d_disp {ks : List (Option Expr)} {vs : List Expr} {trs : List (TE × TE)} {kds : List (Str × DE)} (h : PPd X pos ks vs trs kds) (nd : (kds.map (·.1)).Nodup := by decide) (h15 : kds.length ≤ 15 := by decide) (hk : ks.length ≤ 15 := by decide) (h0 : ks ≠ [] := by intro h; cases h) :
    PEd X (.Dict ks vs pos) (tDisp trs) (dDisp kds) := ⟨pe_disp h.pe h.all h.len h0 hk, le_disp h.le nd h15⟩
end
end DL
set_option maxHeartbeats 200000
/-! K50K: cells let go at a def's end; the readings laid open for simp -/
namespace DL
open PySem PySem.Spec PyProof.Rows L2

structure Sub (mu2 mu1 : Mu) : Prop where
  nd : (dom mu1).Nodup → (dom mu2).Nodup
  get : (dom mu1).Nodup → ∀ a o, mget mu2 a = some o → mget mu1 a = some o
theorem Sub.refl (mu : Mu) : Sub mu mu := ⟨fun h => h, fun _ _ _ h => h⟩
theorem Sub.trans {a b c : Mu} (h : Sub a b) (k : Sub b c) : Sub a c := ⟨fun n => h.nd (k.nd n), fun n x o q => k.get n x o (h.get (k.nd n) x o q)⟩
theorem Sub.tail {mu2 mu1 : Mu} {p : Addr} {o : DO} (h : Sub mu2 mu1) : Sub mu2 ((p, o) :: mu1) where
  nd := fun n => h.nd (List.nodup_cons.mp n).2
  get := fun n a u q => by
    have n' := List.nodup_cons.mp n
    have z := h.get n'.2 a u q
    rw [mget_next (fun e => n'.1 (by show p ∈ dom mu1; rw [e]; exact mget_dom z))]
    exact z
theorem Sub.dom {mu2 mu1 : Mu} (h : Sub mu2 mu1) (n : (dom mu1).Nodup) {a : Addr} (q : a ∈ dom mu2) : a ∈ dom mu1 := by
  obtain ⟨o, e⟩ := dom_mget q
  exact mget_dom (h.get n a o e)
theorem Sub.put {mu2 mu1 : Mu} (h : Sub mu2 mu1) {a : Addr} {o : DO} (ha : a ∈ DL.dom mu2) : Sub (mput mu2 a o) (mput mu1 a o) where
  nd := fun n => by
    rw [dom_mput] at n ⊢
    exact h.nd n
  get := fun n b u q => by
    rw [dom_mput] at n
    by_cases e : b = a
    · subst e
      obtain ⟨w, hw⟩ := dom_mget ha
      obtain ⟨w2, hw2⟩ := dom_mget (h.dom n ha)
      rw [get_put_same hw] at q
      rw [get_put_same hw2]
      exact q
    · rw [get_put_ne e] at q ⊢
      exact h.get n b u q
theorem Ok.sub {M0 : AP} {mu1 mu2 : Mu} {H : Hp} (o : Ok M0 mu1 H) (s : Sub mu2 mu1) : Ok M0 mu2 H ∧ Tr (U M0 mu1) H (U M0 mu2) H := by
  have hu : ∀ a, U M0 mu2 a → U M0 mu1 a := fun a h => h.elim .inl fun q => .inr (s.dom o.nd q)
  have t : Tr (U M0 mu1) H (U M0 mu2) H := fun a o h1 h2 => ⟨fun q => h1 (hu a q), h2⟩
  exact ⟨⟨s.nd o.nd, fun a h => o.live a (hu a h), fun a u q => (o.cell a u (s.get o.nd a u q)).tr t rfl⟩, t⟩
theorem Ext.sub {mu mu1 mu2 : Mu} {H H' : Hp} (e : Ext mu H mu1 H') (s : Sub mu2 mu1) (n : (dom mu1).Nodup) : Ext mu H mu2 H' := ⟨e.keep, fun a h => e.new a (s.dom n h), e.alive⟩

abbrev endsG (mu : Mu) (P : PD) : DEnds := ⟨mu, fun _ mu' => ∃ mu2, Sub mu2 mu' ∧ P .non mu2, fun d mu' => ∃ mu2, Sub mu2 mu' ∧ P d mu2, fun _ _ => False, fun _ _ => False⟩
theorem body_ofG {X : Cx} {N : List Str} {sts : List Stmt} {ts : TS} {ds : DS} {R : DR} (h : PSsd X sts ts ds) (hb : ∀ mu es P, R mu es P → ds (endsG mu P) (startD N es) mu) {vs : List V} {H : Hp} {Q : VK} {E : XK} (hs : spD R vs H Q E) :
    ∃ t, PSs X sts t ∧ t { nx := fun _ H' => Q .non H', rt := Q } (L2.start N vs) H := by
  obtain ⟨M0, mu, es, P, ok, rs, hr, k⟩ := hs
  refine ⟨ts, h.pe, ?_⟩
  refine h.le M0 H mu H _ (endsG mu P) ⟨ok.live, fun rho mu' σ H' a e _ q => ?_, fun d mu' v H' o e _ r q => ?_, fun _ _ _ _ _ _ _ q => q.elim, fun _ _ _ _ _ _ _ q => q.elim⟩ _ _ _ _ (start_at ok rs) (Ext.refl _ _) (Ext.refl _ _) (hb mu es P hr)
  · obtain ⟨mu2, s, q⟩ := q
    exact k _ _ _ _ q (a.ok.sub s).1 (e.sub s a.ok.nd) (rep_of rfl)
  · obtain ⟨mu2, s, q⟩ := q
    exact k _ _ _ _ q (o.sub s).1 (e.sub s o.nd) (Rep.tr (o.sub s).2 _ _ r)
section
variable {Pr : Program} {w : World} {K : PySem.W.Frag} {mg : Str → Option Value} {base : Heap}
theorem calG {x : Str} {st : Stmt} {f : Addr} {fd : FuncData} {N ps : List Str} {k : Nat} {R : DR} {dds : DS} (F : C8.Def K mg x st f fd) (b : Binds K fd ps []) (S : FnScope N ps (C8.fnScope st)) (len : ∀ mu ds P, R mu ds P → ds.length = ps.length)
    (der : ∀ (cdv : Value) (A : Around) (outer : List Env) (s : Shared) (H : Hp) (E : XK), Room k (A.deeper (envOfC x (C8.fnScope st) s.heap.objs.size f cdv)) → ∃ ts, PSsd (cxOf C8.CX0 Pr w K mg base N x (C8.fnScope st) f cdv A outer s H E).nox (C8.fnBody st) ts dds)
    (body : ∀ mu es P, R mu es P → dds (endsG mu P) (startD N es) mu) : C8.Cal Pr w K mg base (k + 1) x (spD R) [] :=
  C8.cal0 F b .nil S (len_spD len) fun cdv A outer s H vs Q E hr h => by
    obtain ⟨ts, ht⟩ := der cdv A outer s H E hr
    exact body_ofG ht body h
theorem metG {m qual : Str} {C : Addr} {st : Stmt} {f : Addr} {fd : FuncData} {N ps : List Str} {k : Nat} {R : DR} {dds : DS} (c : Cls K C) (me : Meth K C m f) (F : C8.Fun K m qual st f fd) (b : Binds K fd ps []) (S : FnScope N ps (C8.fnScope st)) (len : ∀ mu ds P, R mu ds P → ds.length = ps.length)
    (der : ∀ (cdv : Value) (A : Around) (outer : List Env) (s : Shared) (H : Hp) (E : XK), Room k (A.deeper (envOfC qual (C8.fnScope st) s.heap.objs.size f cdv)) → ∃ ts, PSsd (cxOf C8.CX0 Pr w K mg base N qual (C8.fnScope st) f cdv A outer s H E).nox (C8.fnBody st) ts dds)
    (body : ∀ mu es P, R mu es P → dds (endsG mu P) (startD N es) mu) : C8.Met Pr w K mg base (k + 1) C m (spD R) [] :=
  C8.met0 c me F b S (len_spD len) fun cdv A outer s H vs Q E hr h => by
    obtain ⟨ts, ht⟩ := der cdv A outer s H E hr
    exact body_ofG ht body h
theorem makG {x qual : Str} {C : Addr} {st : Stmt} {f : Addr} {fd : FuncData} {N ps : List Str} {k : Nat} {R : DR} {dds : DS} (M : Mk K C f) (hm : mg x = some (.ref C)) (F : C8.Fun K "__init__" qual st f fd) (b : Binds K fd ps []) (S : FnScope N ps (C8.fnScope st)) (len : ∀ mu ds P, R mu ds P → ds.length = ps.length)
    (der : ∀ (cdv : Value) (A : Around) (outer : List Env) (s : Shared) (H : Hp) (E : XK), Room k (A.deeper (envOfC qual (C8.fnScope st) s.heap.objs.size f cdv)) → ∃ ts, PSsd (cxOf C8.CX0 Pr w K mg base N qual (C8.fnScope st) f cdv A outer s H E).nox (C8.fnBody st) ts dds)
    (body : ∀ mu es P, R mu es P → dds (endsG mu P) (startD N es) mu) : C8.Mak Pr w K mg base (k + 1) x C (spD R) [] :=
  C8.mak0 M hm F b .nil S (len_spD len) fun cdv A outer s H vs Q E hr h => by
    obtain ⟨ts, ht⟩ := der cdv A outer s H E hr
    exact body_ofG ht body h
end

section
variable (de da db dv dk do_ di : DE) (t u c : DT) (Z : DEnds) (rho : Rho) (mu : Mu) (P : PD) (ta : DA) (s r : DS)
@[simp] theorem x_seq : dSeq s r Z rho mu = s { Z with nx := r Z } rho mu := propext ⟨fun h => h, fun h => h⟩
@[simp] theorem x_next : dNext Z rho mu = Z.nx rho mu := propext ⟨fun h => h, fun h => h⟩
@[simp] theorem x_asg (i : Nat) : dAsg de i Z rho mu = de rho mu fun d mu1 => Z.nx (rho.set i (some d)) mu1 := propext ⟨fun h => h, fun h => h⟩
@[simp] theorem x_ret : dRet de Z rho mu = de rho mu Z.rt := propext ⟨fun h => h, fun h => h⟩
@[simp] theorem x_drop : dDrop de Z rho mu = de rho mu fun _ mu1 => Z.nx rho mu1 := propext ⟨fun h => h, fun h => h⟩
@[simp] theorem x_if : dIf c s r Z rho mu = c rho mu fun b mu1 => if b = true then s Z rho mu1 else r Z rho mu1 := propext ⟨fun h => h, fun h => h⟩
@[simp] theorem x_break : dBreak Z rho mu = Z.bk rho mu := propext ⟨fun h => h, fun h => h⟩
@[simp] theorem x_never : dNever Z rho mu = False := propext ⟨fun h => h, fun h => h⟩
@[simp] theorem x_frz (i : Nat) : dFrz i s Z rho mu = ∃ a o d, rho[i]? = some (some (.obj a)) ∧ a ∉ dom Z.mu0 ∧ mget mu a = some o ∧ frz o = some d ∧ s Z (rho.set i (some d)) (mdel mu a) := propext ⟨fun h => h, fun h => h⟩
@[simp] theorem x_c (d : D) : dC d rho mu P = P d mu := propext ⟨fun h => h, fun h => h⟩
@[simp] theorem x_nil (Pl : List D → Mu → Prop) : dNil rho mu Pl = Pl [] mu := propext ⟨fun h => h, fun h => h⟩
@[simp] theorem x_cons (Pl : List D → Mu → Prop) : dCons de ta rho mu Pl = de rho mu fun d mu1 => ta rho mu1 fun ds mu2 => Pl (d :: ds) mu2 := propext ⟨fun h => h, fun h => h⟩
@[simp] theorem x_tup : dTup ta rho mu P = ta rho mu fun ds mu1 => ds.length ≤ 16000000 ∧ P (.tup ds) mu1 := propext ⟨fun h => h, fun h => h⟩
@[simp] theorem x_lst : dLst ta rho mu P = ta rho mu fun ds mu1 => ds.length ≤ 16000000 ∧ P (.lst ds) mu1 := propext ⟨fun h => h, fun h => h⟩
@[simp] theorem x_lstM : dLstM ta rho mu P = ta rho mu fun ds mu1 => ds.length ≤ 16000000 ∧ ∀ p, p ∉ dom mu1 → P (.obj p) ((p, .lst ds) :: mu1) := propext ⟨fun h => h, fun h => h⟩
@[simp] theorem x_op (dr : D2) : dOp dr da db rho mu P = da rho mu fun x mu1 => db rho mu1 fun y mu2 => dr x y mu2 P := propext ⟨fun h => h, fun h => h⟩
@[simp] theorem x_test (Pb : Bool → Mu → Prop) : dTest de rho mu Pb = de rho mu fun d mu1 => match d with
  | .bl b => Pb b mu1
  | _ => False := propext ⟨fun h => h, fun h => h⟩
@[simp] theorem x_and (Pb : Bool → Mu → Prop) : dAnd t u rho mu Pb = t rho mu fun b mu1 => if b = true then u rho mu1 Pb else Pb false mu1 := propext ⟨fun h => h, fun h => h⟩
@[simp] theorem x_or (Pb : Bool → Mu → Prop) : dOr t u rho mu Pb = t rho mu fun b mu1 => if b = true then Pb true mu1 else u rho mu1 Pb := propext ⟨fun h => h, fun h => h⟩
@[simp] theorem x_not (Pb : Bool → Mu → Prop) : dNot t rho mu Pb = t rho mu fun b mu1 => Pb (!b) mu1 := propext ⟨fun h => h, fun h => h⟩
@[simp] theorem x_notV : dNotV de rho mu P = de rho mu fun d mu1 => match d with
  | .bl b => P (.bl (!b)) mu1
  | _ => False := propext ⟨fun h => h, fun h => h⟩
@[simp] theorem x_yes (Pb : Bool → Mu → Prop) : dYes rho mu Pb = Pb true mu := propext ⟨fun h => h, fun h => h⟩
@[simp] theorem x_call (R : DR) : dCall R ta rho mu P = ta rho mu fun ds mu1 => R mu1 ds P := propext ⟨fun h => h, fun h => h⟩
@[simp] theorem x_meth (C : Addr) (m : Str) (R : DR) : dMeth C m R do_ ta rho mu P = do_ rho mu fun x mu1 => match x with
  | .obj a => match mget mu1 a with
    | some (.ins C' ns ds) => C' = C ∧ m ∉ ns ∧ ta rho mu1 fun es mu2 => R mu2 (.obj a :: es) P
    | _ => False
  | _ => False := propext ⟨fun h => h, fun h => h⟩
@[simp] theorem x_make (C : Addr) (R : DR) : dMake C R ta rho mu P = ta rho mu fun es mu1 => ∀ p, p ∉ dom mu1 → R ((p, .ins C [] []) :: mu1) (.obj p :: es) fun d mu2 => d = .non ∧ P (.obj p) mu2 := propext ⟨fun h => h, fun h => h⟩
@[simp] theorem x_frzE : dFrzE de rho mu P = de rho mu fun d mu1 => match d with
  | .obj a => ∃ u d', a ∉ dom mu ∧ mget mu1 a = some u ∧ frz u = some d' ∧ P d' (mdel mu1 a)
  | _ => False := propext ⟨fun h => h, fun h => h⟩
@[simp] theorem x_fld (C : Addr) (f : Str) : dFld C f de rho mu P = de rho mu fun x mu1 => match insv mu1 C x with
  | some (ns, ds) => (match flk f ns ds with
    | some d => P d mu1
    | none => False)
  | none => False := propext ⟨fun h => h, fun h => h⟩
@[simp] theorem x_fldset (C : Addr) (f : Str) : dFldSet C f do_ dv Z rho mu = dv rho mu fun y mu1 => do_ rho mu1 fun x mu2 => match x with
  | .obj a => match mget mu2 a with
    | some (.ins C' ns ds) => C' = C ∧ ns.length ≤ 100 ∧ Z.nx rho (mput mu2 a (.ins C (nput f ns) (vput f y ns ds)))
    | _ => False
  | _ => False := propext ⟨fun h => h, fun h => h⟩
@[simp] theorem x_fldadd (C : Addr) (f : Str) : dFldAdd C f do_ dv Z rho mu = do_ rho mu fun x mu1 => match x with
  | .obj a => match mget mu1 a with
    | some (.ins C' ns ds) => C' = C ∧ ns.length ≤ 100 ∧ (match flk f ns ds with
      | some (.int i) => dv rho mu1 fun y mu2 => match y with
        | .int j => mu2 = mu1 ∧ Z.nx rho (mput mu1 a (.ins C (nput f ns) (vput f (.int (i + j)) ns ds)))
        | _ => False
      | _ => False)
    | _ => False
  | _ => False := propext ⟨fun h => h, fun h => h⟩
@[simp] theorem x_unp (is : List Nat) : dUnp de is Z rho mu = de rho mu fun d mu1 => match tv d with
  | some ds => ds.length = is.length ∧ Z.nx (setAll is ds rho) mu1
  | none => False := propext ⟨fun h => h, fun h => h⟩
@[simp] theorem x_unl (is : List Nat) : dUnl de is Z rho mu = de rho mu fun d mu1 => match lv mu1 d with
  | some ds => ds.length = is.length ∧ Z.nx (setAll is ds rho) mu1
  | none => False := propext ⟨fun h => h, fun h => h⟩
@[simp] theorem x_par (i j : Nat) : dPar i j da db Z rho mu = da rho mu fun x mu1 => db rho mu1 fun y mu2 => Z.nx ((rho.set i (some x)).set j (some y)) mu2 := propext ⟨fun h => h, fun h => h⟩
@[simp] theorem x_setix : dSetIx dv do_ di Z rho mu = dv rho mu fun y mu1 => do_ rho mu1 fun x mu2 => di rho mu2 fun z mu3 => match x, z with
  | .obj a, .int i => match mget mu3 a with
    | some (.lst ds) => (match ixN ds.length i with
      | some j => Z.nx rho (mput mu3 a (.lst (ds.set j y)))
      | none => False)
    | _ => False
  | _, _ => False := propext ⟨fun h => h, fun h => h⟩
@[simp] theorem x_app : dAppT do_ dv rho mu P = do_ rho mu fun x mu1 => match x with
  | .obj a => (∃ ds, mget mu1 a = some (.lst ds)) ∧ dv rho mu1 fun y mu2 => match mget mu2 a with
    | some (.lst ds) => ds.length < 16000000 ∧ P .non (mput mu2 a (.lst (ds ++ [y])))
    | _ => False
  | _ => False := propext ⟨fun h => h, fun h => h⟩
@[simp] theorem x_pop : dPop do_ rho mu P = do_ rho mu fun x mu1 => match x with
  | .obj a => match mget mu1 a with
    | some (.lst ds) => (match ds[ds.length - 1]? with
      | some d => P d (mput mu1 a (.lst ds.dropLast))
      | none => False)
    | _ => False
  | _ => False := propext ⟨fun h => h, fun h => h⟩
@[simp] theorem x_ext : dExt do_ dv rho mu P = do_ rho mu fun x mu1 => match x with
  | .obj a => (∃ ds, mget mu1 a = some (.lst ds)) ∧ dv rho mu1 fun y mu2 => match mget mu2 a, lv mu2 y with
    | some (.lst ds), some es => ds.length + es.length ≤ 16000000 ∧ P .non (mput mu2 a (.lst (ds ++ es)))
    | _, _ => False
  | _ => False := propext ⟨fun h => h, fun h => h⟩
@[simp] theorem x_cb (dr : DR) : dCB dr ta rho mu P = ta rho mu fun ds mu1 => dr mu1 ds P := propext ⟨fun h => h, fun h => h⟩
@[simp] theorem x_lc (i : Nat) (dii : DA) : dLc i dii t de rho mu P = dii rho mu fun ds mu1 => dLcL i t de ds [] (rho.set i none) mu1 P := propext ⟨fun h => h, fun h => h⟩
@[simp] theorem x_lcM (i : Nat) (dii : DA) : dLcM i dii t de rho mu P = dii rho mu fun ds mu1 => dLcL i t de ds [] (rho.set i none) mu1 fun d mu2 => match d with
  | .lst acc => ∀ p, p ∉ dom mu2 → P (.obj p) ((p, .lst acc) :: mu2)
  | _ => False := propext ⟨fun h => h, fun h => h⟩
@[simp] theorem x_list (Pl : List D → Mu → Prop) : dList de rho mu Pl = de rho mu fun d mu1 => match d with
  | .lst ds => Pl ds mu1
  | _ => False := propext ⟨fun h => h, fun h => h⟩
@[simp] theorem x_tuple (Pl : List D → Mu → Prop) : dTuple de rho mu Pl = de rho mu fun d mu1 => match d with
  | .tup ds => Pl ds mu1
  | _ => False := propext ⟨fun h => h, fun h => h⟩
@[simp] theorem x_range (Pl : List D → Mu → Prop) : dRange de rho mu Pl = de rho mu fun d mu1 => match d with
  | .int n => (0 ≤ n ∧ n ≤ 1000000) ∧ Pl ((List.range n.toNat).map fun k => D.int ((k : Nat) : Int)) mu1
  | _ => False := propext ⟨fun h => h, fun h => h⟩
@[simp] theorem x_rev (Pl : List D → Mu → Prop) : dRev de rho mu Pl = de rho mu fun d mu1 => match d with
  | .lst ds => Pl ds.reverse mu1
  | _ => False := propext ⟨fun h => h, fun h => h⟩
@[simp] theorem x_fori (i : Nat) (dii : DA) : dForI i dii s Z rho mu = dii rho mu fun ds mu1 => dFor i s ds Z rho mu1 := propext ⟨fun h => h, fun h => h⟩
@[simp] theorem x_forz (i j : Nat) : dForZ i j da db s Z rho mu = da rho mu fun x mu1 => db rho mu1 fun y mu2 => match tv x, y with
  | some xs, .lst ys => xs.length = ys.length ∧ dZipL i j s xs ys Z rho mu2
  | _, _ => False := propext ⟨fun h => h, fun h => h⟩
@[simp] theorem x_lstRev : dLstRev de rho mu P = de rho mu fun d mu1 => match tv d with
  | some ds => P (.lst ds.reverse) mu1
  | none => False := propext ⟨fun h => h, fun h => h⟩
@[simp] theorem x_lstRevM : dLstRevM de rho mu P = de rho mu fun d mu1 => match tv d with
  | some ds => ∀ p, p ∉ dom mu1 → P (.obj p) ((p, .lst ds.reverse) :: mu1)
  | none => False := propext ⟨fun h => h, fun h => h⟩
@[simp] theorem x_no (Po : Option Int → Mu → Prop) : dNoP rho mu Po = Po none mu := propext ⟨fun h => h, fun h => h⟩
@[simp] theorem x_part (Po : Option Int → Mu → Prop) : dPart de rho mu Po = de rho mu fun d mu1 => match d with
  | .int i => Po (some i) mu1
  | _ => False := propext ⟨fun h => h, fun h => h⟩
@[simp] theorem x_sl (dl dh : DOp) : dSl de dl dh rho mu P = de rho mu fun x mu1 => dl rho mu1 fun lo mu2 => dh rho mu2 fun hi mu3 => match x with
  | .str z => z.length ≤ 16000000 ∧ P (.str (cutS z lo hi)) mu3
  | x => match lv mu3 x with
    | some ds => P (.lst (dcut ds lo hi)) mu3
    | none => match tv x with
      | some ds => P (.tup (dcut ds lo hi)) mu3
      | none => False := propext ⟨fun h => h, fun h => h⟩
@[simp] theorem x_dget : dDGet do_ dk rho mu P = do_ rho mu fun x mu1 => dk rho mu1 fun y mu2 => match x, y with
  | .obj a, .str k => match mget mu2 a with
    | some (.dic ks ds) => (match flk k ks ds with
      | some d => P d mu2
      | none => False)
    | _ => False
  | _, _ => False := propext ⟨fun h => h, fun h => h⟩
@[simp] theorem x_dput : dDPut dv do_ dk Z rho mu = dv rho mu fun y mu1 => do_ rho mu1 fun x mu2 => dk rho mu2 fun z mu3 => match x, z with
  | .obj a, .str k => match mget mu3 a with
    | some (.dic ks ds) => ks.length ≤ 100 ∧ Z.nx rho (mput mu3 a (.dic (nput k ks) (vput k y ks ds)))
    | _ => False
  | _, _ => False := propext ⟨fun h => h, fun h => h⟩
@[simp] theorem x_disp (kds : List (Str × DE)) : dDisp kds rho mu P = dPairs kds rho mu fun ds mu1 => ∀ p, p ∉ dom mu1 → P (.obj p) ((p, .dic (kds.map (·.1)) ds) :: mu1) := propext ⟨fun h => h, fun h => h⟩
@[simp] theorem x_pairs0 (Pl : List D → Mu → Prop) : dPairs [] rho mu Pl = Pl [] mu := propext ⟨fun h => h, fun h => h⟩
@[simp] theorem x_pairs1 (k : Str) (kds : List (Str × DE)) (Pl : List D → Mu → Prop) : dPairs ((k, de) :: kds) rho mu Pl = de rho mu fun d mu1 => dPairs kds rho mu1 fun ds mu2 => Pl (d :: ds) mu2 := propext ⟨fun h => h, fun h => h⟩
@[simp] theorem x_upd : dUpd do_ dv rho mu P = do_ rho mu fun x mu1 => match x with
  | .obj a => (∃ ks ds, mget mu1 a = some (.dic ks ds)) ∧ dv rho mu1 fun y mu2 => match y with
    | .obj b => match mget mu2 a, mget mu2 b with
      | some (.dic ks ds), some (.dic ks2 ds2) => a ≠ b ∧ ks.length ≤ 100 ∧ ks2.length ≤ 100 ∧ P .non (mput mu2 a (.dic (kmerge ks ds ks2 ds2).1 (kmerge ks ds ks2 ds2).2))
      | _, _ => False
    | _ => False
  | _ => False := propext ⟨fun h => h, fun h => h⟩
@[simp] theorem x_index : dIndex do_ dv rho mu P = do_ rho mu fun x mu1 => match x with
  | .lst ds => dv rho mu1 fun y mu2 => ∃ j z, (plains ds = true ∧ plain y = true ∧ SeqAt.shaped (.list (pyds ds)) = true ∧ SeqAt.shaped (pyd y) = true) ∧ (pyds ds)[j]? = some z ∧ PyData.eqv z (pyd y) = true ∧ (∀ (m : Nat) (z' : PyData), m < j → (pyds ds)[m]? = some z' → PyData.eqv z' (pyd y) = false) ∧ P (.int (j : Nat)) mu2
  | _ => False := propext ⟨fun h => h, fun h => h⟩
@[simp] theorem x_join : dJoin do_ dv rho mu P = do_ rho mu fun x mu1 => match x with
  | .str a => dv rho mu1 fun y mu2 => match lv mu2 y with
    | some ds => match txs ds with
      | some ys => (ys.map (·.length)).sum + ys.length * a.length ≤ 16777216 ∧ P (.str (Txt.join a ys)) mu2
      | none => False
    | none => False
  | _ => False := propext ⟨fun h => h, fun h => h⟩
end
/-- a name's slot -/
@[simp] theorem x_var (i : Nat) (rho : Rho) (mu : Mu) (P : PD) : dVar i rho mu P = match rho[i]? with
  | some (some d) => P d mu
  | _ => False := propext ⟨fun h => h, fun h => h⟩
@[simp] theorem x_for0 (i : Nat) (tb : DS) (Z : DEnds) (rho : Rho) (mu : Mu) : dFor i tb [] Z rho mu = Z.nx rho mu := propext ⟨fun h => h, fun h => h⟩
theorem x_for1 (i : Nat) (tb : DS) (d : D) (ds : List D) (Z : DEnds) (rho : Rho) (mu : Mu) : dFor i tb (d :: ds) Z rho mu = tb { Z with nx := dFor i tb ds Z, ct := dFor i tb ds Z, bk := Z.nx } (rho.set i (some d)) mu := rfl
@[simp] theorem x_start (N : List Str) (ds : List D) : startD N ds = ds.map some ++ List.replicate (N.length - ds.length) none := rfl
end DL
set_option maxHeartbeats 200000
/-! K50L: -x; a comprehension given to a name -/
namespace DL
open PySem PySem.Spec PyProof.Rows L2
def dNeg (da : DE) : DE := fun rho mu P => da rho mu fun d mu1 => match d with
  | .int i => P (.int (-i)) mu1
  | _ => False
theorem le_neg {ta : TE} {da : DE} (h : LE ta da) : LE (tUn (rU fun i => .int (-i)) ta) (dNeg da) := by
  intro M0 mu rho σ H P Q at_ hp k
  refine h M0 mu rho σ H _ _ at_ hp fun d mu1 v H1 hd o1 e1 r1 => ?_
  split at hd
  · rename_i i
    obtain rfl := rep_eq rfl r1
    exact ⟨i, rfl, k _ _ _ _ hd o1 e1 (rep_of rfl)⟩
  · exact hd.elim
@[simp] theorem x_neg (da : DE) (rho : Rho) (mu : Mu) (P : PD) : dNeg da rho mu P = da rho mu fun d mu1 => match d with
  | .int i => P (.int (-i)) mu1
  | _ => False := propext ⟨fun h => h, fun h => h⟩
section
variable {X : Cx} {a : Expr} {ta : TE} {da : DE} {pos : Pos}
theorem d_neg (h : PEd X a ta da) : PEd X (.UnaryOp .USub a pos) (tUn (rU fun i => .int (-i)) ta) (dNeg da) := ⟨pe_un un_neg h.pe, le_neg h.le⟩
end
section
variable {X : Cx} {a b : Expr} {ta tb : TE} {da db : DE} {pos : Pos}
theorem d_ixK (K : PySem.W.Frag) (hK : X.K = K) (ha : PEd X a ta da) (hb : PEd X b tb db) (hs : PlainIx b := by exact fun _ _ => rfl) : PEd X (.Subscript a b pos) (tOp (rIx K) ta tb) (dOp dix da db) := by
  subst hK
  exact d_ix ha hb hs
theorem c_lenK (K : PySem.W.Frag) (hK : X.K = K) : CallRd X (.builtin "len") (rLenA K) drLen := by
  subst hK
  exact c_len
theorem c_isK (K : PySem.W.Frag) (hK : X.K = K) : CallRd X (.builtin "isinstance") (rIsi K) drIs := by
  subst hK
  exact c_is
end
section
variable {X : Cx} {elt iter : Expr} {ifs : List Expr} {scope : Scope} {x y : Str} {px py pos spos : Pos} {wi : TI} {di : DA} {tt : TT} {dt : DT} {te : TE} {de : DE}
theorem s_setLc (j i : Nat) (hc : X.calm = true) (hN : X.N.Nodup) (hi : PId X (.Name x px) iter wi di) (ok : BlkOk X.N X.env.scope scope [(x, i)])
    (hg : ∀ (s : Shared) (H : Hp) (C : Addr) (cl : List (Str × Addr)) (fp : List Addr), PG (X.blk s H scope (compEnvC scope cl C X.env) fp) (.Name x px) (gName i))
    (ht : ∀ (s : Shared) (H : Hp) (C : Addr) (cl : List (Str × Addr)) (fp : List Addr), PTsd (X.blk s H scope (compEnvC scope cl C X.env) fp) ifs tt dt)
    (he : ∀ (s : Shared) (H : Hp) (C : Addr) (cl : List (Str × Addr)) (fp : List Addr), PEd (X.blk s H scope (compEnvC scope cl C X.env) fp) elt te de)
    (hy : X.N[j]? = some y := by rfl) (hyl : X.env.scope.names.lookup y = some .local := by rfl) (hsw : swapsWith (.ListComp elt [⟨.Name x px, iter, ifs, 0⟩] scope pos) (some (.Name y py)) spos.line X.env = pure true := by rfl) (hs : ∀ x, foldedSetIterable iter X.env x = pure x := by intro _; rfl) :
    PSd X (.Assign [.Name y py] (.ListComp elt [⟨.Name x px, iter, ifs, 0⟩] scope pos) spos) (tAsg (tLc wi (gName i) tt te [i]) (gName j)) (dAsg (dLc i di dt de) j) :=
  ⟨ps_setLc (own := [(x, i)]) hc hN hy hyl hsw hi.pe ok hg (fun s H C cl fp => (ht s H C cl fp).pe) (fun s H C cl fp => (he s H C cl fp).pe) hs,
    ls_asg (fun M0 mu rho σ H P Q a h k => le_lc hi.le (ht ⟨X.s_0.heap, X.s_0.gens, X.s_0.drawn, X.s_0.toks, X.s_0.os⟩ X.H_0 0 [] []).le (he ⟨X.s_0.heap, X.s_0.gens, X.s_0.drawn, X.s_0.toks, X.s_0.os⟩ X.H_0 0 [] []).le M0 mu rho σ H P Q a h k)⟩
theorem s_setLcM (j i : Nat) (hc : X.calm = true) (hN : X.N.Nodup) (hi : PId X (.Name x px) iter wi di) (ok : BlkOk X.N X.env.scope scope [(x, i)])
    (hg : ∀ (s : Shared) (H : Hp) (C : Addr) (cl : List (Str × Addr)) (fp : List Addr), PG (X.blk s H scope (compEnvC scope cl C X.env) fp) (.Name x px) (gName i))
    (ht : ∀ (s : Shared) (H : Hp) (C : Addr) (cl : List (Str × Addr)) (fp : List Addr), PTsd (X.blk s H scope (compEnvC scope cl C X.env) fp) ifs tt dt)
    (he : ∀ (s : Shared) (H : Hp) (C : Addr) (cl : List (Str × Addr)) (fp : List Addr), PEd (X.blk s H scope (compEnvC scope cl C X.env) fp) elt te de)
    (hy : X.N[j]? = some y := by rfl) (hyl : X.env.scope.names.lookup y = some .local := by rfl) (hsw : swapsWith (.ListComp elt [⟨.Name x px, iter, ifs, 0⟩] scope pos) (some (.Name y py)) spos.line X.env = pure true := by rfl) (hs : ∀ x, foldedSetIterable iter X.env x = pure x := by intro _; rfl) :
    PSd X (.Assign [.Name y py] (.ListComp elt [⟨.Name x px, iter, ifs, 0⟩] scope pos) spos) (tAsg (tLc wi (gName i) tt te [i]) (gName j)) (dAsg (dLcM i di dt de) j) :=
  ⟨ps_setLc (own := [(x, i)]) hc hN hy hyl hsw hi.pe ok hg (fun s H C cl fp => (ht s H C cl fp).pe) (fun s H C cl fp => (he s H C cl fp).pe) hs,
    ls_asg (fun M0 mu rho σ H P Q a h k => le_lcM hi.le (ht ⟨X.s_0.heap, X.s_0.gens, X.s_0.drawn, X.s_0.toks, X.s_0.os⟩ X.H_0 0 [] []).le (he ⟨X.s_0.heap, X.s_0.gens, X.s_0.drawn, X.s_0.toks, X.s_0.os⟩ X.H_0 0 [] []).le M0 mu rho σ H P Q a h k)⟩
end
end DL
set_option maxHeartbeats 200000
/-! K51: trees, programs, frames, states as plain data; one step of a run -/
namespace DL
open PySem PySem.Spec PyProof.Rows L2

inductive Tree where
  | num (n : Int) | var (x : Str) | call (f : Str) (h : Option Str) (as : List Tree) | op (s : Str) (a b : Tree) | lett (x : Str) (a b : Tree) | iff (c a b : Tree)
  | deed (d : Str) (a : Tree) | handle (h : Str) (a b : Tree) | go (a b : Tree) | guard (a b : Tree)
def optS : Option Str → D
  | none => .non
  | some x => .str x
mutual
def treeD : Tree → D
  | .num n => .tup [.str "num", .int n]
  | .var x => .tup [.str "var", .str x]
  | .call f h as => .tup [.str "call", .str f, optS h, .tup (treesD as)]
  | .op s a b => .tup [.str "op", .str s, treeD a, treeD b]
  | .lett x a b => .tup [.str "let", .str x, treeD a, treeD b]
  | .iff c a b => .tup [.str "if", treeD c, treeD a, treeD b]
  | .deed d a => .tup [.str "do", .str d, treeD a]
  | .handle h a b => .tup [.str "handle", .str h, treeD a, treeD b]
  | .go a b => .tup [.str "go", treeD a, treeD b]
  | .guard a b => .tup [.str "guard", treeD a, treeD b]
def treesD : List Tree → List D
  | [] => []
  | t :: r => treeD t :: treesD r
end
theorem treesD_map : ∀ ts : List Tree, treesD ts = ts.map treeD
  | [] => by simp only [treesD, List.map_nil]
  | t :: r => by simp only [treesD, List.map_cons, treesD_map r]
theorem treesD_len (ts : List Tree) : (treesD ts).length = ts.length := by rw [treesD_map, List.length_map]

abbrev Known := List (Str × Int)
def knownD : Known → D
  | [] => .non
  | (x, n) :: r => .tup [.str x, .int n, knownD r]
structure Sc where
  known : Known
  block : Option Str
  handed : Option Str
def scD (s : Sc) : D := .tup [knownD s.known, optS s.block, optS s.handed]
structure Clause where
  deed : Str
  x : Str
  s : Str
  body : Tree
def clauseD (c : Clause) : D := .tup [.str c.deed, .str c.x, .str c.s, treeD c.body]
structure Hand where
  name : Str
  clauses : List Clause
  x : Str
  s : Str
  fin : Tree
def handD (h : Hand) : D := .tup [.str "handler", .str h.name, .tup (h.clauses.map clauseD), .tup [.str h.x, .str h.s, treeD h.fin]]
structure Fn where
  name : Str
  params : List Str
  block : Option Str
  body : Tree
def fnD (f : Fn) : D := .tup [.str "def", .str f.name, .tup (f.params.map .str), optS f.block, treeD f.body]
inductive Item where
  | fn (f : Fn)
  | hand (h : Hand)
def Item.name : Item → Str
  | .fn f => f.name
  | .hand h => h.name
def itemD : Item → D
  | .fn f => fnD f
  | .hand h => handD h
abbrev Prog := List Item
def progD (p : Prog) : D := .tup (p.map itemD)

inductive Frame where
  | args (f : Str) (h : Option Str) (as : List Tree) (ns : List Int) (sc : Sc)
  | first (t : Tree) (sc : Sc)
  | second (s : Str) (a : Int)
  | deed (d : Str)
  | goes (a : Int)
  | clause (pre : List Frame) (h : Hand) (kept : Int) (went : Bool)
  | stands (h : Hand) (kept : Int)
  | cleans (n : Int)
def kindS : Tree → Str
  | .num _ => "num"
  | .var _ => "var"
  | .call _ _ _ => "call"
  | .op _ _ _ => "op"
  | .lett _ _ _ => "let"
  | .iff _ _ _ => "if"
  | .deed _ _ => "do"
  | .handle _ _ _ => "handle"
  | .go _ _ => "go"
  | .guard _ _ => "guard"
mutual
def frameD : Frame → D
  | .args f h as ns sc => .tup [.str "args", .tup [.str "call", .str f, optS h, .tup (treesD as)], .lst (ns.map .int), scD sc]
  | .first t sc => .tup [.str (kindS t), treeD t, scD sc]
  | .second s a => .tup [.str "second", .str s, .int a]
  | .deed d => .tup [.str "deed", .str d]
  | .goes a => .tup [.str "goes", .int a]
  | .clause pre h kept went => .tup [.str "clause", .tup (framesD pre ++ [.tup [.str "stands", handD h, .int kept]]), .bl went]
  | .stands h kept => .tup [.str "stands", handD h, .int kept]
  | .cleans n => .tup [.str "cleans", .int n]
def framesD : List Frame → List D
  | [] => []
  | f :: r => frameD f :: framesD r
end
theorem framesD_map : ∀ fs : List Frame, framesD fs = fs.map frameD
  | [] => by simp only [framesD, List.map_nil]
  | t :: r => by simp only [framesD, List.map_cons, framesD_map r]
def restD : List Frame → D
  | [] => .non
  | f :: r => .tup [frameD f, restD r]

inductive Ent where
  | deed (d : Str) (n : Int)
  | guard (n : Int)
  | clean (n : Int)
def entD : Ent → D
  | .deed d n => .tup [.str "do", .str d, .int n]
  | .guard n => .tup [.str "guard", .int n]
  | .clean n => .tup [.str "clean", .int n]
inductive End where
  | spent
  | asks (d : Str) (n : Int)
  | great
  | done (n : Int)
def endD : End → D
  | .spent => .tup [.str "spent"]
  | .asks d n => .tup [.str "asks", .str d, .int n]
  | .great => .tup [.str "great"]
  | .done n => .tup [.str "done", .int n]
def oendD : Option End → D
  | none => .non
  | some e => endD e
inductive Ctl where
  | look (t : Tree) (sc : Sc) (k : List Frame)
  | tell (n : Int) (k : List Frame)
def ctlD : Ctl → D
  | .look t sc k => .tup [.str "look", treeD t, scD sc, restD k]
  | .tell n k => .tup [.str "tell", .int n, restD k]
def octlD : Option Ctl → D
  | none => .non
  | some c => ctlD c

/-! ### the program's functions -/
def itemNamed : Prog → Str → Option Item
  | [], _ => none
  | i :: p, x => if i.name = x then some i else itemNamed p x
def fnNamed (p : Prog) (x : Str) : Option Fn := match itemNamed p x with
  | some (.fn f) => some f
  | _ => none
def handNamed (p : Prog) (x : Str) : Option Hand := match itemNamed p x with
  | some (.hand h) => some h
  | _ => none
def clauseFor : List Clause → Str → Option Clause
  | [], _ => none
  | c :: r, d => if c.deed = d then some c else clauseFor r d
/-- frames down to the first handler with a clause for d -/
def takenOff (d : Str) : List Frame → Option (List Frame × Hand × Int × List Frame)
  | [] => none
  | f :: r => match f with
    | .stands h kept => if (clauseFor h.clauses d).isSome then some ([], h, kept, r) else match takenOff d r with
      | some (pre, h', k', r') => some (f :: pre, h', k', r')
      | none => none
    | _ => match takenOff d r with
      | some (pre, h', k', r') => some (f :: pre, h', k', r')
      | none => none
def goneFrom : List Frame → Option (List Frame × List Frame × Hand × Int × List Frame)
  | [] => none
  | .clause pre h kept went :: r => some ([], pre, h, kept, r)
  | f :: r => match goneFrom r with
    | some (over, pre, h, kept, r') => some (f :: over, pre, h, kept, r')
    | none => none
mutual
def thrF : Frame → List Int
  | .cleans n => [n]
  | .clause pre _ _ false => thrFs pre
  | _ => []
def thrFs : List Frame → List Int
  | [] => []
  | f :: r => thrF f ++ thrFs r
end
def valueOf : Known → Str → Option Int
  | [], _ => none
  | (y, n) :: r, x => if y = x then some n else valueOf r x
def reckoned (s : Str) (a b : Int) : Int := if s = "+" then a + b else if s = "-" then a - b else if s = "*" then a * b else if a < b then 1 else 0
structure Out where
  turn : Bool
  ents : List Ent
  fin : Option End
  ctl : Ctl
def calleeOf (p : Prog) (sc : Sc) (f : Str) : Option Fn := if sc.block = some f then (match sc.handed with
    | some g => fnNamed p g
    | none => none) else fnNamed p f
def handedOf (sc : Sc) (h : Option Str) : Option Str := if h ≠ none ∧ h = sc.block then sc.handed else h
def called (p : Prog) (sc : Sc) (f : Str) (h : Option Str) (ns : List Int) (k : List Frame) : Option Out := match calleeOf p sc f with
  | some fn => if fn.params.length = ns.length then some ⟨true, [], none, .look fn.body ⟨(fn.params.zip ns).reverse, fn.block, handedOf sc h⟩ k⟩ else none
  | none => none
def asked (d : Str) (n : Int) (k : List Frame) : Option Out := match takenOff d k with
  | none => some ⟨true, [.deed d n], some (.asks d n), .tell n k⟩
  | some (pre, h, kept, r) => match clauseFor h.clauses d with
    | some c => some ⟨true, [.deed d n], none, .look c.body ⟨[(c.s, kept), (c.x, n)], none, none⟩ (.clause pre h kept false :: r)⟩
    | none => none
def begunTree (p : Prog) (t : Tree) (sc : Sc) (k : List Frame) : Option Out := match t with
  | .num n => some ⟨false, [], none, .tell n k⟩
  | .var x => match valueOf sc.known x with
    | some n => some ⟨false, [], none, .tell n k⟩
    | none => none
  | .call f h [] => called p sc f h [] k
  | .call f h (a :: as) => some ⟨false, [], none, .look a sc (.args f h (a :: as) [] sc :: k)⟩
  | .op s a b => some ⟨false, [], none, .look a sc (.first (.op s a b) sc :: k)⟩
  | .lett x a b => some ⟨false, [], none, .look a sc (.first (.lett x a b) sc :: k)⟩
  | .iff c a b => some ⟨false, [], none, .look c sc (.first (.iff c a b) sc :: k)⟩
  | .deed d a => some ⟨false, [], none, .look a sc (.deed d :: k)⟩
  | .handle h a b => some ⟨false, [], none, .look a sc (.first (.handle h a b) sc :: k)⟩
  | .go a b => some ⟨false, [], none, .look a sc (.first (.go a b) sc :: k)⟩
  | .guard a b => some ⟨false, [], none, .look a sc (.first (.guard a b) sc :: k)⟩
def toldTree (p : Prog) (t : Tree) (sc : Sc) (n : Int) (k : List Frame) : Option Out := match t with
  | .op s _ b => some ⟨false, [], none, .look b sc (.second s n :: k)⟩
  | .lett x _ b => some ⟨false, [], none, .look b ⟨(x, n) :: sc.known, sc.block, sc.handed⟩ k⟩
  | .iff _ a b => some ⟨false, [], none, if n ≠ 0 then .look a sc k else .look b sc k⟩
  | .handle h _ b => match handNamed p h with
    | some hd => some ⟨false, [], none, .look b sc (.stands hd n :: k)⟩
    | none => none
  | .go _ b => some ⟨false, [], none, .look b sc (.goes n :: k)⟩
  | .guard _ b => some ⟨false, [.guard n], none, .look b sc (.cleans n :: k)⟩
  | _ => none
def toldArg (p : Prog) (f : Str) (h : Option Str) (as : List Tree) (ns : List Int) (sc : Sc) (n : Int) (k : List Frame) : Option Out := match as[ns.length + 1]? with
  | some a => some ⟨false, [], none, .look a sc (.args f h as (ns ++ [n]) sc :: k)⟩
  | none => if ns.length + 1 = as.length then called p sc f h (ns ++ [n]) k else none
def great : Int := 10 ^ 18
def toldSecond (s : Str) (a n : Int) (k : List Frame) : Option Out :=
  if a.natAbs ≤ great.natAbs ∧ n.natAbs ≤ great.natAbs then some ⟨false, [], if (reckoned s a n).natAbs > great.natAbs then some .great else none, .tell (reckoned s a n) k⟩ else none
def toldGo (a kept : Int) (k : List Frame) : Option Out := match goneFrom k with
  | some (over, pre, h, kept0, r) => some ⟨true, [], none, .tell a (pre ++ .stands h kept :: (over ++ .clause pre h kept0 true :: r))⟩
  | none => none
def toldClause (pre : List Frame) (went : Bool) (n : Int) (k : List Frame) : Option Out := some ⟨false, if went then [] else (thrFs pre).map .clean, none, .tell n k⟩
def told (p : Prog) (n : Int) : List Frame → Option Out
  | [] => none
  | .args f h as ns sc :: k => toldArg p f h as ns sc n k
  | .first t sc :: k => toldTree p t sc n k
  | .second s a :: k => toldSecond s a n k
  | .deed d :: k => asked d n k
  | .goes a :: k => toldGo a n k
  | .clause pre _ _ went :: k => toldClause pre went n k
  | .stands h kept :: k => some ⟨false, [], none, .look h.fin ⟨[(h.s, kept), (h.x, n)], none, none⟩ k⟩
  | .cleans m :: k => some ⟨false, [.clean m], none, .tell n k⟩
/-! ### sizes -/
mutual
def wF : Frame → Nat
  | .clause pre _ _ false => 2 + wFs pre
  | .clause _ _ _ true => 2
  | _ => 1
def wFs : List Frame → Nat
  | [] => 0
  | f :: r => wF f + wFs r
end
def Ctl.rest : Ctl → List Frame
  | .look _ _ k => k
  | .tell _ k => k
def step (p : Prog) (c : Ctl) : Option Out := match c with
  | .look t sc k => begunTree p t sc k
  | .tell n k => told p n k
end DL
set_option maxHeartbeats 200000
/-! K52: printed by gen.py: each def's reading, and that it is its reading -/
namespace DL
open PySem PySem.Spec PyProof.Rows L2

def top (i : Nat) : Stmt := PySem.Challenge.pw_deedwright_k50_whole_bounds_of_turns.main.body.getD i (.Pass ⟨0, 0, 0, 0⟩)
theorem hb_list : bootBuiltins "list" = some (.type "list") := by decide +kernel
theorem hb_tuple : bootBuiltins "tuple" = some (.type "tuple") := by decide +kernel
theorem hb_int : bootBuiltins "int" = some (.type "int") := by decide +kernel
theorem hb_bool : bootBuiltins "bool" = some (.type "bool") := by decide +kernel
theorem hb_range : bootBuiltins "range" = some (.type "range") := by decide +kernel
theorem hb_zip : bootBuiltins "zip" = some (.type "zip") := by decide +kernel
theorem hb_reversed : bootBuiltins "reversed" = some (.type "reversed") := by decide +kernel
theorem hb_len : bootBuiltins "len" = some (.builtin "len") := by decide +kernel
theorem hb_abs : bootBuiltins "abs" = some (.builtin "abs") := by decide +kernel
theorem hb_max : bootBuiltins "max" = some (.builtin "max") := by decide +kernel
theorem hb_isinstance : bootBuiltins "isinstance" = some (.builtin "isinstance") := by decide +kernel
theorem hb_any : bootBuiltins "any" = some (.builtin "any") := by decide +kernel
structure Txt (K : PySem.W.Frag) (mg : Str → Option Value) (CH CC : Addr) (gr : Value) : Prop where
  n_list : mg "list" = none
  n_tuple : mg "tuple" = none
  n_int : mg "int" = none
  n_bool : mg "bool" = none
  n_range : mg "range" = none
  n_zip : mg "zip" = none
  n_reversed : mg "reversed" = none
  n_len : mg "len" = none
  n_abs : mg "abs" = none
  n_max : mg "max" = none
  n_isinstance : mg "isinstance" = none
  n_any : mg "any" = none
  hgr : mg "GREATEST" = some gr
  rgr : RelV (.int (10 ^ 18)) gr
  c_CH : Cls K CH
  c_CC : Cls K CC
  a_CH_end : NoAttr K CH "end"
  a_CH_record : NoAttr K CH "record"
  a_CH_used : NoAttr K CH "used"
  a_CH_waits : NoAttr K CH "waits"
  a_CC_program : NoAttr K CC "program"
  a_CC_turns : NoAttr K CC "turns"
  a_CC_used : NoAttr K CC "used"
  a_CC_record : NoAttr K CC "record"
  a_CC_end : NoAttr K CC "end"
section
variable {Pr : Program} {w : World} {K : PySem.W.Frag} {mg : Str → Option Value} {base : Heap} {CH CC : Addr} {gr : Value}
/-! item_named -/
abbrev st_item_named : Stmt := top 6
abbrev N_item_named : List Str := ["program", "name", "item"]
abbrev P_item_named : List Str := ["program", "name"]
theorem sc_item_named : FnScope N_item_named P_item_named (C8.fnScope st_item_named) := C8.fnScope_by (by decide +kernel)
def b_item_named_L1 (CH CC : Addr) : DS := (dIf (dTest (dOp (deq) (dOp dix (dVar 2) (dC (.int 1))) (dVar 1))) (dRet (dVar 2)) dNext)
def b_item_named (CH CC : Addr) : DS := (dSeq (dForI 2 (dTuple (dVar 0)) (b_item_named_L1 CH CC))
    (dRet (dC .non)))
theorem der_item_named (T : Txt K mg CH CC gr) {k : Nat} {f : Addr} (cdv : Value) (A : Around) (outer : List Env) (s : Shared) (H : Hp) (E : XK) (hr : Room k (A.deeper (envOfC "item_named" (C8.fnScope st_item_named) s.heap.objs.size f cdv))) :
    ∃ ts, PSsd (cxOf C8.CX0 Pr w K mg base N_item_named "item_named" (C8.fnScope st_item_named) f cdv A outer s H E).nox (C8.fnBody st_item_named) ts (b_item_named CH CC) := by
  have S := sc_item_named
  have hu64 : (A.deeper (envOfC "item_named" (C8.fnScope st_item_named) s.heap.objs.size f cdv)).units + 64 < cLine := by have := hr.un; omega
  have hu65 : (A.deeper (envOfC "item_named" (C8.fnScope st_item_named) s.heap.objs.size f cdv)).units + 65 < cLine := by have := hr.un; omega
  have hu1 : (A.deeper (envOfC "item_named" (C8.fnScope st_item_named) s.heap.objs.size f cdv)).units + 1 < cLine := by have := hr.un; omega
  exact ⟨_, (ss_cons (s_for 2 S.nd rfl PassesOwn.never (i_tuple (dv 0)) (ss_one (s_if (t_cmp o_eq (d_ix (dv 2) d_int) (dv 1)) (ss_one (s_ret (dv 2))) ss_nil)))
    (ss_one (s_ret d_non)))⟩
/-! function_named -/
abbrev st_function_named : Stmt := top 7
abbrev N_function_named : List Str := ["program", "name", "item"]
abbrev P_function_named : List Str := ["program", "name"]
theorem sc_function_named : FnScope N_function_named P_function_named (C8.fnScope st_function_named) := C8.fnScope_by (by decide +kernel)
def b_function_named (CH CC : Addr) (R_item_named : DR) : DS := (dSeq (dAsg (dCall R_item_named (dCons (dVar 0) (dCons (dVar 1) dNil))) 2)
    (dSeq (dIf (dAnd (dTest (dOp (dnotN) (dVar 2) (dC .non))) (dTest (dOp (deq) (dOp dix (dVar 2) (dC (.int 0))) (dC (.str "def"))))) (dRet (dVar 2)) dNext)
    (dRet (dC .non))))
theorem der_function_named (T : Txt K mg CH CC gr) {k : Nat} {f : Addr} {R_item_named : DR} {l_item_named : Nat} (c_item_named : C8.Cal Pr w K mg base l_item_named "item_named" (spD R_item_named) []) (k_item_named : l_item_named ≤ k) (cdv : Value) (A : Around) (outer : List Env) (s : Shared) (H : Hp) (E : XK) (hr : Room k (A.deeper (envOfC "function_named" (C8.fnScope st_function_named) s.heap.objs.size f cdv))) :
    ∃ ts, PSsd (cxOf C8.CX0 Pr w K mg base N_function_named "function_named" (C8.fnScope st_function_named) f cdv A outer s H E).nox (C8.fnBody st_function_named) ts (b_function_named CH CC R_item_named) := by
  have S := sc_function_named
  have hu64 : (A.deeper (envOfC "function_named" (C8.fnScope st_function_named) s.heap.objs.size f cdv)).units + 64 < cLine := by have := hr.un; omega
  have hu65 : (A.deeper (envOfC "function_named" (C8.fnScope st_function_named) s.heap.objs.size f cdv)).units + 65 < cLine := by have := hr.un; omega
  have hu1 : (A.deeper (envOfC "function_named" (C8.fnScope st_function_named) s.heap.objs.size f cdv)).units + 1 < cLine := by have := hr.un; omega
  exact ⟨_, (ss_cons (s_set 2 S.nd (d_call c_item_named hr k_item_named (by rfl) (da_cons (dv 0) (da_cons (dv 1) da_nil))))
    (ss_cons (s_if (t_pw (w_and (t_cmp o_notN (dv 2) d_non) (w_and1 (t_cmp o_eq (d_ix (dv 2) d_int) d_str)))) (ss_one (s_ret (dv 2))) ss_nil)
    (ss_one (s_ret d_non))))⟩
/-! handler_named -/
abbrev st_handler_named : Stmt := top 8
abbrev N_handler_named : List Str := ["program", "name", "item"]
abbrev P_handler_named : List Str := ["program", "name"]
theorem sc_handler_named : FnScope N_handler_named P_handler_named (C8.fnScope st_handler_named) := C8.fnScope_by (by decide +kernel)
def b_handler_named (CH CC : Addr) (R_item_named : DR) : DS := (dSeq (dAsg (dCall R_item_named (dCons (dVar 0) (dCons (dVar 1) dNil))) 2)
    (dSeq (dIf (dAnd (dTest (dOp (dnotN) (dVar 2) (dC .non))) (dTest (dOp (deq) (dOp dix (dVar 2) (dC (.int 0))) (dC (.str "handler"))))) (dRet (dVar 2)) dNext)
    (dRet (dC .non))))
theorem der_handler_named (T : Txt K mg CH CC gr) {k : Nat} {f : Addr} {R_item_named : DR} {l_item_named : Nat} (c_item_named : C8.Cal Pr w K mg base l_item_named "item_named" (spD R_item_named) []) (k_item_named : l_item_named ≤ k) (cdv : Value) (A : Around) (outer : List Env) (s : Shared) (H : Hp) (E : XK) (hr : Room k (A.deeper (envOfC "handler_named" (C8.fnScope st_handler_named) s.heap.objs.size f cdv))) :
    ∃ ts, PSsd (cxOf C8.CX0 Pr w K mg base N_handler_named "handler_named" (C8.fnScope st_handler_named) f cdv A outer s H E).nox (C8.fnBody st_handler_named) ts (b_handler_named CH CC R_item_named) := by
  have S := sc_handler_named
  have hu64 : (A.deeper (envOfC "handler_named" (C8.fnScope st_handler_named) s.heap.objs.size f cdv)).units + 64 < cLine := by have := hr.un; omega
  have hu65 : (A.deeper (envOfC "handler_named" (C8.fnScope st_handler_named) s.heap.objs.size f cdv)).units + 65 < cLine := by have := hr.un; omega
  have hu1 : (A.deeper (envOfC "handler_named" (C8.fnScope st_handler_named) s.heap.objs.size f cdv)).units + 1 < cLine := by have := hr.un; omega
  exact ⟨_, (ss_cons (s_set 2 S.nd (d_call c_item_named hr k_item_named (by rfl) (da_cons (dv 0) (da_cons (dv 1) da_nil))))
    (ss_cons (s_if (t_pw (w_and (t_cmp o_notN (dv 2) d_non) (w_and1 (t_cmp o_eq (d_ix (dv 2) d_int) d_str)))) (ss_one (s_ret (dv 2))) ss_nil)
    (ss_one (s_ret d_non))))⟩
/-! clause_for -/
abbrev st_clause_for : Stmt := top 9
abbrev N_clause_for : List Str := ["handler", "deed", "clause"]
abbrev P_clause_for : List Str := ["handler", "deed"]
theorem sc_clause_for : FnScope N_clause_for P_clause_for (C8.fnScope st_clause_for) := C8.fnScope_by (by decide +kernel)
def b_clause_for_L1 (CH CC : Addr) : DS := (dIf (dTest (dOp (deq) (dOp dix (dVar 2) (dC (.int 0))) (dVar 1))) (dRet (dVar 2)) dNext)
def b_clause_for (CH CC : Addr) : DS := (dSeq (dForI 2 (dTuple (dOp dix (dVar 0) (dC (.int 2)))) (b_clause_for_L1 CH CC))
    (dRet (dC .non)))
theorem der_clause_for (T : Txt K mg CH CC gr) {k : Nat} {f : Addr} (cdv : Value) (A : Around) (outer : List Env) (s : Shared) (H : Hp) (E : XK) (hr : Room k (A.deeper (envOfC "clause_for" (C8.fnScope st_clause_for) s.heap.objs.size f cdv))) :
    ∃ ts, PSsd (cxOf C8.CX0 Pr w K mg base N_clause_for "clause_for" (C8.fnScope st_clause_for) f cdv A outer s H E).nox (C8.fnBody st_clause_for) ts (b_clause_for CH CC) := by
  have S := sc_clause_for
  have hu64 : (A.deeper (envOfC "clause_for" (C8.fnScope st_clause_for) s.heap.objs.size f cdv)).units + 64 < cLine := by have := hr.un; omega
  have hu65 : (A.deeper (envOfC "clause_for" (C8.fnScope st_clause_for) s.heap.objs.size f cdv)).units + 65 < cLine := by have := hr.un; omega
  have hu1 : (A.deeper (envOfC "clause_for" (C8.fnScope st_clause_for) s.heap.objs.size f cdv)).units + 1 < cLine := by have := hr.un; omega
  exact ⟨_, (ss_cons (s_for 2 S.nd rfl PassesOwn.never (i_tuple (d_ix (dv 0) d_int)) (ss_one (s_if (t_cmp o_eq (d_ix (dv 2) d_int) (dv 1)) (ss_one (s_ret (dv 2))) ss_nil)))
    (ss_one (s_ret d_non)))⟩
/-! taken_off -/
abbrev st_taken_off : Stmt := top 11
abbrev N_taken_off : List Str := ["rest", "deed", "held", "frame"]
abbrev P_taken_off : List Str := ["rest", "deed"]
theorem sc_taken_off : FnScope N_taken_off P_taken_off (C8.fnScope st_taken_off) := C8.fnScope_by (by decide +kernel)
def b_taken_off_L1 (CH CC : Addr) (R_clause_for : DR) : DS := (dSeq (dUnp (dVar 0) [3, 0])
    (dSeq (dDrop (dAppT (dVar 2) (dVar 3)))
    (dIf (dAnd (dTest (dOp (deq) (dOp dix (dVar 3) (dC (.int 0))) (dC (.str "stands")))) (dTest (dOp (dnotN) (dCall R_clause_for (dCons (dOp dix (dVar 3) (dC (.int 1))) (dCons (dVar 1) dNil))) (dC .non)))) (dRet (dTup (dCons (dCB drTuple (dCons (dVar 2) dNil)) (dCons (dVar 0) dNil)))) dNext)))
def b_taken_off (CH CC : Addr) (R_clause_for : DR) : DS := (dSeq (dAsg (dLstM dNil) 2)
    (dSeq (dWhile (dTest (dOp (dnotN) (dVar 0) (dC .non))) (b_taken_off_L1 CH CC R_clause_for))
    (dRet (dC .non))))
theorem der_taken_off (T : Txt K mg CH CC gr) {k : Nat} {f : Addr} {R_clause_for : DR} {l_clause_for : Nat} (c_clause_for : C8.Cal Pr w K mg base l_clause_for "clause_for" (spD R_clause_for) []) (k_clause_for : l_clause_for ≤ k) (cdv : Value) (A : Around) (outer : List Env) (s : Shared) (H : Hp) (E : XK) (hr : Room k (A.deeper (envOfC "taken_off" (C8.fnScope st_taken_off) s.heap.objs.size f cdv))) :
    ∃ ts, PSsd (cxOf C8.CX0 Pr w K mg base N_taken_off "taken_off" (C8.fnScope st_taken_off) f cdv A outer s H E).nox (C8.fnBody st_taken_off) ts (b_taken_off CH CC R_clause_for) := by
  have S := sc_taken_off
  have hu64 : (A.deeper (envOfC "taken_off" (C8.fnScope st_taken_off) s.heap.objs.size f cdv)).units + 64 < cLine := by have := hr.un; omega
  have hu65 : (A.deeper (envOfC "taken_off" (C8.fnScope st_taken_off) s.heap.objs.size f cdv)).units + 65 < cLine := by have := hr.un; omega
  have hu1 : (A.deeper (envOfC "taken_off" (C8.fnScope st_taken_off) s.heap.objs.size f cdv)).units + 1 < cLine := by have := hr.un; omega
  exact ⟨_, (ss_cons (s_set 2 S.nd (d_lstM da_nil))
    (ss_cons (s_while PassesOwn.never (t_cmp o_notN (dv 0) d_non) (ss_cons (s_unp [3, 0] rfl (pgs_cons (pg_name (i := 3) S.nd rfl (.inl rfl)) (pgs_cons (pg_name (i := 0) S.nd rfl (.inl rfl)) pgs_nil)) (dv 0))
    (ss_cons (s_expr (d_app (dv 2) (dv 3)))
    (ss_one (s_if (t_pw (w_and (t_cmp o_eq (d_ix (dv 3) d_int) d_str) (w_and1 (t_cmp o_notN (d_call c_clause_for hr k_clause_for (by rfl) (da_cons (d_ix (dv 3) d_int) (da_cons (dv 1) da_nil))) d_non)))) (ss_one (s_ret (d_tup (da_cons (d_callT c_tuple (by rfl) T.n_tuple hb_tuple (da_cons (dv 2) da_nil)) (da_cons (dv 0) da_nil))))) ss_nil)))))
    (ss_one (s_ret d_non))))⟩
/-! piled -/
abbrev st_piled : Stmt := top 12
abbrev N_piled : List Str := ["frames", "rest", "frame"]
abbrev P_piled : List Str := ["frames", "rest"]
theorem sc_piled : FnScope N_piled P_piled (C8.fnScope st_piled) := C8.fnScope_by (by decide +kernel)
def b_piled_L1 (CH CC : Addr) : DS := (dAsg (dTup (dCons (dVar 2) (dCons (dVar 1) dNil))) 1)
def b_piled (CH CC : Addr) : DS := (dSeq (dForI 2 (dRev (dVar 0)) (b_piled_L1 CH CC))
    (dRet (dVar 1)))
theorem der_piled (T : Txt K mg CH CC gr) {k : Nat} {f : Addr} (cdv : Value) (A : Around) (outer : List Env) (s : Shared) (H : Hp) (E : XK) (hr : Room k (A.deeper (envOfC "piled" (C8.fnScope st_piled) s.heap.objs.size f cdv))) :
    ∃ ts, PSsd (cxOf C8.CX0 Pr w K mg base N_piled "piled" (C8.fnScope st_piled) f cdv A outer s H E).nox (C8.fnBody st_piled) ts (b_piled CH CC) := by
  have S := sc_piled
  have hu64 : (A.deeper (envOfC "piled" (C8.fnScope st_piled) s.heap.objs.size f cdv)).units + 64 < cLine := by have := hr.un; omega
  have hu65 : (A.deeper (envOfC "piled" (C8.fnScope st_piled) s.heap.objs.size f cdv)).units + 65 < cLine := by have := hr.un; omega
  have hu1 : (A.deeper (envOfC "piled" (C8.fnScope st_piled) s.heap.objs.size f cdv)).units + 1 < cLine := by have := hr.un; omega
  exact ⟨_, (ss_cons (s_for 2 S.nd rfl PassesOwn.never (i_rev (by rfl) T.n_reversed (dv 0)) (ss_one (s_set 1 S.nd (d_tup (da_cons (dv 2) (da_cons (dv 1) da_nil))))))
    (ss_one (s_ret (dv 1))))⟩
/-! put_on -/
abbrev st_put_on : Stmt := top 13
abbrev N_put_on : List Str := ["held", "kept", "rest", "last"]
abbrev P_put_on : List Str := ["held", "kept", "rest"]
theorem sc_put_on : FnScope N_put_on P_put_on (C8.fnScope st_put_on) := C8.fnScope_by (by decide +kernel)
def b_put_on (CH CC : Addr) (R_piled : DR) : DS := (dSeq (dAsg (dOp dix (dVar 0) (dNeg (dC (.int 1)))) 3)
    (dRet (dCall R_piled (dCons (dOp (dcatL) (dCB drList (dCons (dSl (dVar 0) dNoP (dPart (dNeg (dC (.int 1))))) dNil)) (dLst (dCons (dTup (dCons (dC (.str "stands")) (dCons (dOp dix (dVar 3) (dC (.int 1))) (dCons (dVar 1) dNil)))) dNil))) (dCons (dVar 2) dNil)))))
theorem der_put_on (T : Txt K mg CH CC gr) {k : Nat} {f : Addr} {R_piled : DR} {l_piled : Nat} (c_piled : C8.Cal Pr w K mg base l_piled "piled" (spD R_piled) []) (k_piled : l_piled ≤ k) (cdv : Value) (A : Around) (outer : List Env) (s : Shared) (H : Hp) (E : XK) (hr : Room k (A.deeper (envOfC "put_on" (C8.fnScope st_put_on) s.heap.objs.size f cdv))) :
    ∃ ts, PSsd (cxOf C8.CX0 Pr w K mg base N_put_on "put_on" (C8.fnScope st_put_on) f cdv A outer s H E).nox (C8.fnBody st_put_on) ts (b_put_on CH CC R_piled) := by
  have S := sc_put_on
  have hu64 : (A.deeper (envOfC "put_on" (C8.fnScope st_put_on) s.heap.objs.size f cdv)).units + 64 < cLine := by have := hr.un; omega
  have hu65 : (A.deeper (envOfC "put_on" (C8.fnScope st_put_on) s.heap.objs.size f cdv)).units + 65 < cLine := by have := hr.un; omega
  have hu1 : (A.deeper (envOfC "put_on" (C8.fnScope st_put_on) s.heap.objs.size f cdv)).units + 1 < cLine := by have := hr.un; omega
  exact ⟨_, (ss_cons (s_set 3 S.nd (d_ix (dv 0) (d_neg d_int)))
    (ss_one (s_ret (d_call c_piled hr k_piled (by rfl) (da_cons (d_op o_catL (d_callT c_list (by rfl) T.n_list hb_list (da_cons (d_sl (dv 0) do_none (do_some (d_neg d_int))) da_nil)) (d_lst (da_cons (d_tup (da_cons d_str (da_cons (d_ix (dv 3) d_int) (da_cons (dv 1) da_nil)))) da_nil))) (da_cons (dv 2) da_nil))))))⟩
/-! gone_from -/
abbrev st_gone_from : Stmt := top 14
abbrev N_gone_from : List Str := ["rest", "over", "held"]
abbrev P_gone_from : List Str := ["rest"]
theorem sc_gone_from : FnScope N_gone_from P_gone_from (C8.fnScope st_gone_from) := C8.fnScope_by (by decide +kernel)
def b_gone_from_L1 (CH CC : Addr) (R_piled : DR) : DS := (dSeq (dDrop (dAppT (dVar 1) (dOp dix (dVar 0) (dC (.int 0)))))
    (dAsg (dOp dix (dVar 0) (dC (.int 1))) 0))
def b_gone_from (CH CC : Addr) (R_piled : DR) : DS := (dSeq (dAsg (dLstM dNil) 1)
    (dSeq (dWhile (dTest (dOp (dne) (dOp dix (dOp dix (dVar 0) (dC (.int 0))) (dC (.int 0))) (dC (.str "clause")))) (b_gone_from_L1 CH CC R_piled))
    (dFrz 1 (dSeq (dAsg (dOp dix (dOp dix (dVar 0) (dC (.int 0))) (dC (.int 1))) 2)
    (dRet (dTup (dCons (dVar 2) (dCons (dCall R_piled (dCons (dVar 1) (dCons (dTup (dCons (dTup (dCons (dC (.str "clause")) (dCons (dVar 2) (dCons (dC (.bl true)) dNil)))) (dCons (dOp dix (dVar 0) (dC (.int 1))) dNil))) dNil))) dNil))))))))
theorem der_gone_from (T : Txt K mg CH CC gr) {k : Nat} {f : Addr} {R_piled : DR} {l_piled : Nat} (c_piled : C8.Cal Pr w K mg base l_piled "piled" (spD R_piled) []) (k_piled : l_piled ≤ k) (cdv : Value) (A : Around) (outer : List Env) (s : Shared) (H : Hp) (E : XK) (hr : Room k (A.deeper (envOfC "gone_from" (C8.fnScope st_gone_from) s.heap.objs.size f cdv))) :
    ∃ ts, PSsd (cxOf C8.CX0 Pr w K mg base N_gone_from "gone_from" (C8.fnScope st_gone_from) f cdv A outer s H E).nox (C8.fnBody st_gone_from) ts (b_gone_from CH CC R_piled) := by
  have S := sc_gone_from
  have hu64 : (A.deeper (envOfC "gone_from" (C8.fnScope st_gone_from) s.heap.objs.size f cdv)).units + 64 < cLine := by have := hr.un; omega
  have hu65 : (A.deeper (envOfC "gone_from" (C8.fnScope st_gone_from) s.heap.objs.size f cdv)).units + 65 < cLine := by have := hr.un; omega
  have hu1 : (A.deeper (envOfC "gone_from" (C8.fnScope st_gone_from) s.heap.objs.size f cdv)).units + 1 < cLine := by have := hr.un; omega
  exact ⟨_, (ss_cons (s_set 1 S.nd (d_lstM da_nil))
    (ss_cons (s_while PassesOwn.never (t_cmp o_ne (d_ix (d_ix (dv 0) d_int) d_int) d_str) (ss_cons (s_expr (d_app (dv 1) (d_ix (dv 0) d_int)))
    (ss_one (s_set 0 S.nd (d_ix (dv 0) d_int)))))
    (ss_frz 1 (ss_cons (s_set 2 S.nd (d_ix (d_ix (dv 0) d_int) d_int))
    (ss_one (s_ret (d_tup (da_cons (dv 2) (da_cons (d_call c_piled hr k_piled (by rfl) (da_cons (dv 1) (da_cons (d_tup (da_cons (d_tup (da_cons d_str (da_cons (dv 2) (da_cons d_bl da_nil)))) (da_cons (d_ix (dv 0) d_int) da_nil))) da_nil))) da_nil)))))))))⟩
/-! thrown -/
abbrev st_thrown : Stmt := top 15
abbrev N_thrown : List Str := ["held", "cleaned", "work", "frame"]
abbrev P_thrown : List Str := ["held"]
theorem sc_thrown : FnScope N_thrown P_thrown (C8.fnScope st_thrown) := C8.fnScope_by (by decide +kernel)
def b_thrown_L1 (CH CC : Addr) : DS := (dSeq (dAsg (dPop (dVar 2)) 3)
    (dSeq (dIf (dTest (dOp (deq) (dOp dix (dVar 3) (dC (.int 0))) (dC (.str "cleans")))) (dDrop (dAppT (dVar 1) (dOp dix (dVar 3) (dC (.int 1))))) dNext)
    (dIf (dAnd (dTest (dOp (deq) (dOp dix (dVar 3) (dC (.int 0))) (dC (.str "clause")))) (dNot (dTest (dOp dix (dVar 3) (dC (.int 2)))))) (dDrop (dExt (dVar 2) (dLstRev (dOp dix (dVar 3) (dC (.int 1)))))) dNext)))
def b_thrown (CH CC : Addr) : DS := (dSeq (dAsg (dLstM dNil) 1)
    (dSeq (dAsg (dLstRevM (dVar 0)) 2)
    (dSeq (dWhile (dTest (dOp (dneNil) (dVar 2) (dLst dNil))) (b_thrown_L1 CH CC))
    (dFrz 1 (dRet (dVar 1))))))
theorem der_thrown (T : Txt K mg CH CC gr) {k : Nat} {f : Addr} (cdv : Value) (A : Around) (outer : List Env) (s : Shared) (H : Hp) (E : XK) (hr : Room k (A.deeper (envOfC "thrown" (C8.fnScope st_thrown) s.heap.objs.size f cdv))) :
    ∃ ts, PSsd (cxOf C8.CX0 Pr w K mg base N_thrown "thrown" (C8.fnScope st_thrown) f cdv A outer s H E).nox (C8.fnBody st_thrown) ts (b_thrown CH CC) := by
  have S := sc_thrown
  have hu64 : (A.deeper (envOfC "thrown" (C8.fnScope st_thrown) s.heap.objs.size f cdv)).units + 64 < cLine := by have := hr.un; omega
  have hu65 : (A.deeper (envOfC "thrown" (C8.fnScope st_thrown) s.heap.objs.size f cdv)).units + 65 < cLine := by have := hr.un; omega
  have hu1 : (A.deeper (envOfC "thrown" (C8.fnScope st_thrown) s.heap.objs.size f cdv)).units + 1 < cLine := by have := hr.un; omega
  exact ⟨_, (ss_cons (s_set 1 S.nd (d_lstM da_nil))
    (ss_cons (s_set 2 S.nd (d_lstRevM rfl (by rfl) T.n_list (by rfl) T.n_reversed (dv 0)))
    (ss_cons (s_while PassesOwn.never (t_cmp (o_neNil (hu64)) (dv 2) (d_lst da_nil)) (ss_cons (s_set 3 S.nd (d_pop (dv 2)))
    (ss_cons (s_if (t_cmp o_eq (d_ix (dv 3) d_int) d_str) (ss_one (s_expr (d_app (dv 1) (d_ix (dv 3) d_int)))) ss_nil)
    (ss_one (s_if (t_pw (w_and (t_cmp o_eq (d_ix (dv 3) d_int) d_str) (w_and1 (t_not (t_val (d_ix (dv 3) d_int)))))) (ss_one (s_expr (d_ext (dv 2) (d_lstRev rfl (by rfl) T.n_list (by rfl) T.n_reversed (d_ix (dv 3) d_int))))) ss_nil)))))
    (ss_frz 1 (ss_one (s_ret (dv 1)))))))⟩
/-! Halt.__init__ -/
abbrev st_halt : Stmt := inClass (top 18) 0
abbrev N_halt : List Str := ["self", "end", "record", "used", "waits"]
abbrev P_halt : List Str := ["self", "end", "record", "used", "waits"]
theorem sc_halt : FnScope N_halt P_halt (C8.fnScope st_halt) := C8.fnScope_by (by decide +kernel)
def b_halt (CH CC : Addr) : DS := (dSeq (dFldSet CH "end" (dVar 0) (dVar 1))
    (dSeq (dFldSet CH "record" (dVar 0) (dCB drList (dCons (dVar 2) dNil)))
    (dSeq (dFldSet CH "used" (dVar 0) (dVar 3))
    (dFldSet CH "waits" (dVar 0) (dVar 4)))))
theorem der_halt (T : Txt K mg CH CC gr) {k : Nat} {f : Addr} (cdv : Value) (A : Around) (outer : List Env) (s : Shared) (H : Hp) (E : XK) (hr : Room k (A.deeper (envOfC "Halt.__init__" (C8.fnScope st_halt) s.heap.objs.size f cdv))) :
    ∃ ts, PSsd (cxOf C8.CX0 Pr w K mg base N_halt "Halt.__init__" (C8.fnScope st_halt) f cdv A outer s H E).nox (C8.fnBody st_halt) ts (b_halt CH CC) := by
  have S := sc_halt
  have hu64 : (A.deeper (envOfC "Halt.__init__" (C8.fnScope st_halt) s.heap.objs.size f cdv)).units + 64 < cLine := by have := hr.un; omega
  have hu65 : (A.deeper (envOfC "Halt.__init__" (C8.fnScope st_halt) s.heap.objs.size f cdv)).units + 65 < cLine := by have := hr.un; omega
  have hu1 : (A.deeper (envOfC "Halt.__init__" (C8.fnScope st_halt) s.heap.objs.size f cdv)).units + 1 < cLine := by have := hr.un; omega
  exact ⟨_, (ss_cons (s_fld CH T.c_CH T.a_CH_end (dv 0) (dv 1))
    (ss_cons (s_fld CH T.c_CH T.a_CH_record (dv 0) (d_callT c_list (by rfl) T.n_list hb_list (da_cons (dv 2) da_nil)))
    (ss_cons (s_fld CH T.c_CH T.a_CH_used (dv 0) (dv 3))
    (ss_one (s_fld CH T.c_CH T.a_CH_waits (dv 0) (dv 4))))))⟩
/-! Course.__init__ -/
abbrev st_course : Stmt := inClass (top 19) 0
abbrev N_course : List Str := ["self", "program", "turns", "used", "record"]
abbrev P_course : List Str := ["self", "program", "turns", "used", "record"]
theorem sc_course : FnScope N_course P_course (C8.fnScope st_course) := C8.fnScope_by (by decide +kernel)
def b_course (CH CC : Addr) : DS := (dSeq (dFldSet CC "program" (dVar 0) (dVar 1))
    (dSeq (dFldSet CC "turns" (dVar 0) (dVar 2))
    (dSeq (dFldSet CC "used" (dVar 0) (dVar 3))
    (dSeq (dFldSet CC "record" (dVar 0) (dCB drListM (dCons (dVar 4) dNil)))
    (dFldSet CC "end" (dVar 0) (dC .non))))))
theorem der_course (T : Txt K mg CH CC gr) {k : Nat} {f : Addr} (cdv : Value) (A : Around) (outer : List Env) (s : Shared) (H : Hp) (E : XK) (hr : Room k (A.deeper (envOfC "Course.__init__" (C8.fnScope st_course) s.heap.objs.size f cdv))) :
    ∃ ts, PSsd (cxOf C8.CX0 Pr w K mg base N_course "Course.__init__" (C8.fnScope st_course) f cdv A outer s H E).nox (C8.fnBody st_course) ts (b_course CH CC) := by
  have S := sc_course
  have hu64 : (A.deeper (envOfC "Course.__init__" (C8.fnScope st_course) s.heap.objs.size f cdv)).units + 64 < cLine := by have := hr.un; omega
  have hu65 : (A.deeper (envOfC "Course.__init__" (C8.fnScope st_course) s.heap.objs.size f cdv)).units + 65 < cLine := by have := hr.un; omega
  have hu1 : (A.deeper (envOfC "Course.__init__" (C8.fnScope st_course) s.heap.objs.size f cdv)).units + 1 < cLine := by have := hr.un; omega
  exact ⟨_, (ss_cons (s_fld CC T.c_CC T.a_CC_program (dv 0) (dv 1))
    (ss_cons (s_fld CC T.c_CC T.a_CC_turns (dv 0) (dv 2))
    (ss_cons (s_fld CC T.c_CC T.a_CC_used (dv 0) (dv 3))
    (ss_cons (s_fld CC T.c_CC T.a_CC_record (dv 0) (d_callT c_listM (by rfl) T.n_list hb_list (da_cons (dv 4) da_nil)))
    (ss_one (s_fld CC T.c_CC T.a_CC_end (dv 0) d_non))))))⟩
/-! Course.take_turn -/
abbrev st_take_turn : Stmt := inClass (top 19) 1
abbrev N_take_turn : List Str := ["self"]
abbrev P_take_turn : List Str := ["self"]
theorem sc_take_turn : FnScope N_take_turn P_take_turn (C8.fnScope st_take_turn) := C8.fnScope_by (by decide +kernel)
def b_take_turn (CH CC : Addr) : DS := (dSeq (dIf (dTest (dOp (i2 fun i j => .bl (decide (j ≤ i))) (dFld CC "used" (dVar 0)) (dFld CC "turns" (dVar 0)))) (dSeq (dFldSet CC "end" (dVar 0) (dTup (dCons (dC (.str "spent")) dNil)))
    (dRet (dC (.bl false)))) dNext)
    (dSeq (dFldAdd CC "used" (dVar 0) (dC (.int 1)))
    (dRet (dC (.bl true)))))
theorem der_take_turn (T : Txt K mg CH CC gr) {k : Nat} {f : Addr} (cdv : Value) (A : Around) (outer : List Env) (s : Shared) (H : Hp) (E : XK) (hr : Room k (A.deeper (envOfC "Course.take_turn" (C8.fnScope st_take_turn) s.heap.objs.size f cdv))) :
    ∃ ts, PSsd (cxOf C8.CX0 Pr w K mg base N_take_turn "Course.take_turn" (C8.fnScope st_take_turn) f cdv A outer s H E).nox (C8.fnBody st_take_turn) ts (b_take_turn CH CC) := by
  have S := sc_take_turn
  have hu64 : (A.deeper (envOfC "Course.take_turn" (C8.fnScope st_take_turn) s.heap.objs.size f cdv)).units + 64 < cLine := by have := hr.un; omega
  have hu65 : (A.deeper (envOfC "Course.take_turn" (C8.fnScope st_take_turn) s.heap.objs.size f cdv)).units + 65 < cLine := by have := hr.un; omega
  have hu1 : (A.deeper (envOfC "Course.take_turn" (C8.fnScope st_take_turn) s.heap.objs.size f cdv)).units + 1 < cLine := by have := hr.un; omega
  exact ⟨_, (ss_cons (s_if (t_cmp o_ge (d_fld CC T.c_CC T.a_CC_used (dv 0)) (d_fld CC T.c_CC T.a_CC_turns (dv 0))) (ss_cons (s_fld CC T.c_CC T.a_CC_end (dv 0) (d_tup (da_cons d_str da_nil)))
    (ss_one (s_ret d_bl))) ss_nil)
    (ss_cons (s_fldadd CC T.c_CC T.a_CC_used (dv 0) d_int)
    (ss_one (s_ret d_bl))))⟩
/-! value_of -/
abbrev st_value_of : Stmt := top 20
abbrev N_value_of : List Str := ["known", "name"]
abbrev P_value_of : List Str := ["known", "name"]
theorem sc_value_of : FnScope N_value_of P_value_of (C8.fnScope st_value_of) := C8.fnScope_by (by decide +kernel)
def b_value_of_L1 (CH CC : Addr) : DS := (dAsg (dOp dix (dVar 0) (dC (.int 2))) 0)
def b_value_of (CH CC : Addr) : DS := (dSeq (dWhile (dTest (dOp (dne) (dOp dix (dVar 0) (dC (.int 0))) (dVar 1))) (b_value_of_L1 CH CC))
    (dRet (dOp dix (dVar 0) (dC (.int 1)))))
theorem der_value_of (T : Txt K mg CH CC gr) {k : Nat} {f : Addr} (cdv : Value) (A : Around) (outer : List Env) (s : Shared) (H : Hp) (E : XK) (hr : Room k (A.deeper (envOfC "value_of" (C8.fnScope st_value_of) s.heap.objs.size f cdv))) :
    ∃ ts, PSsd (cxOf C8.CX0 Pr w K mg base N_value_of "value_of" (C8.fnScope st_value_of) f cdv A outer s H E).nox (C8.fnBody st_value_of) ts (b_value_of CH CC) := by
  have S := sc_value_of
  have hu64 : (A.deeper (envOfC "value_of" (C8.fnScope st_value_of) s.heap.objs.size f cdv)).units + 64 < cLine := by have := hr.un; omega
  have hu65 : (A.deeper (envOfC "value_of" (C8.fnScope st_value_of) s.heap.objs.size f cdv)).units + 65 < cLine := by have := hr.un; omega
  have hu1 : (A.deeper (envOfC "value_of" (C8.fnScope st_value_of) s.heap.objs.size f cdv)).units + 1 < cLine := by have := hr.un; omega
  exact ⟨_, (ss_cons (s_while PassesOwn.never (t_cmp o_ne (d_ix (dv 0) d_int) (dv 1)) (ss_one (s_set 0 S.nd (d_ix (dv 0) d_int))))
    (ss_one (s_ret (d_ix (dv 0) d_int))))⟩
/-! reckoned -/
abbrev st_reckoned : Stmt := top 21
abbrev N_reckoned : List Str := ["sign", "one", "other"]
abbrev P_reckoned : List Str := ["sign", "one", "other"]
theorem sc_reckoned : FnScope N_reckoned P_reckoned (C8.fnScope st_reckoned) := C8.fnScope_by (by decide +kernel)
def b_reckoned (CH CC : Addr) : DS := (dSeq (dIf (dTest (dOp (deq) (dVar 0) (dC (.str "+")))) (dRet (dOp (i2 fun i j => .int (i + j)) (dVar 1) (dVar 2))) dNext)
    (dSeq (dIf (dTest (dOp (deq) (dVar 0) (dC (.str "-")))) (dRet (dOp (i2 fun i j => .int (i - j)) (dVar 1) (dVar 2))) dNext)
    (dSeq (dIf (dTest (dOp (deq) (dVar 0) (dC (.str "*")))) (dRet (dOp (i2c CMul fun i j => .int (i * j)) (dVar 1) (dVar 2))) dNext)
    (dRet (dCB drInt (dCons (dOp (i2 fun i j => .bl (decide (i < j))) (dVar 1) (dVar 2)) dNil))))))
theorem der_reckoned (T : Txt K mg CH CC gr) {k : Nat} {f : Addr} (cdv : Value) (A : Around) (outer : List Env) (s : Shared) (H : Hp) (E : XK) (hr : Room k (A.deeper (envOfC "reckoned" (C8.fnScope st_reckoned) s.heap.objs.size f cdv))) :
    ∃ ts, PSsd (cxOf C8.CX0 Pr w K mg base N_reckoned "reckoned" (C8.fnScope st_reckoned) f cdv A outer s H E).nox (C8.fnBody st_reckoned) ts (b_reckoned CH CC) := by
  have S := sc_reckoned
  have hu64 : (A.deeper (envOfC "reckoned" (C8.fnScope st_reckoned) s.heap.objs.size f cdv)).units + 64 < cLine := by have := hr.un; omega
  have hu65 : (A.deeper (envOfC "reckoned" (C8.fnScope st_reckoned) s.heap.objs.size f cdv)).units + 65 < cLine := by have := hr.un; omega
  have hu1 : (A.deeper (envOfC "reckoned" (C8.fnScope st_reckoned) s.heap.objs.size f cdv)).units + 1 < cLine := by have := hr.un; omega
  exact ⟨_, (ss_cons (s_if (t_cmp o_eq (dv 0) d_str) (ss_one (s_ret (d_op o_add (dv 1) (dv 2)))) ss_nil)
    (ss_cons (s_if (t_cmp o_eq (dv 0) d_str) (ss_one (s_ret (d_op o_sub (dv 1) (dv 2)))) ss_nil)
    (ss_cons (s_if (t_cmp o_eq (dv 0) d_str) (ss_one (s_ret (d_op o_mul (dv 1) (dv 2)))) ss_nil)
    (ss_one (s_ret (d_callT c_int (by rfl) T.n_int hb_int (da_cons (d_cmp o_lt (dv 1) (dv 2)) da_nil)))))))⟩
/-! called -/
abbrev st_called : Stmt := top 22
abbrev N_called : List Str := ["course", "scope", "tree", "numbers", "rest", "callee", "handed", "known", "name", "number"]
abbrev P_called : List Str := ["course", "scope", "tree", "numbers", "rest"]
theorem sc_called : FnScope N_called P_called (C8.fnScope st_called) := C8.fnScope_by (by decide +kernel)
def b_called_L1 (CH CC : Addr) (R_take_turn : DR) (R_function_named : DR) : DS := (dAsg (dTup (dCons (dVar 8) (dCons (dVar 9) (dCons (dVar 7) dNil)))) 7)
def b_called (CH CC : Addr) (R_take_turn : DR) (R_function_named : DR) : DS := (dSeq (dIf (dNot (dTest (dMeth CC "take_turn" R_take_turn (dVar 0) dNil))) (dRet (dC .non)) dNext)
    (dSeq (dIf (dAnd (dTest (dOp (dnotN) (dOp dix (dVar 1) (dC (.int 1))) (dC .non))) (dTest (dOp (deq) (dOp dix (dVar 2) (dC (.int 1))) (dOp dix (dVar 1) (dC (.int 1)))))) (dAsg (dCall R_function_named (dCons (dFld CC "program" (dVar 0)) (dCons (dOp dix (dVar 1) (dC (.int 2))) dNil))) 5) (dAsg (dCall R_function_named (dCons (dFld CC "program" (dVar 0)) (dCons (dOp dix (dVar 2) (dC (.int 1))) dNil))) 5))
    (dSeq (dAsg (dOp dix (dVar 2) (dC (.int 2))) 6)
    (dSeq (dIf (dAnd (dTest (dOp (dnotN) (dVar 6) (dC .non))) (dTest (dOp (deq) (dVar 6) (dOp dix (dVar 1) (dC (.int 1)))))) (dAsg (dOp dix (dVar 1) (dC (.int 2))) 6) dNext)
    (dSeq (dAsg (dC .non) 7)
    (dSeq (dForZ 8 9 (dOp dix (dVar 5) (dC (.int 2))) (dVar 3) (b_called_L1 CH CC R_take_turn R_function_named))
    (dRet (dTup (dCons (dC (.str "look")) (dCons (dOp dix (dVar 5) (dC (.int 4))) (dCons (dTup (dCons (dVar 7) (dCons (dOp dix (dVar 5) (dC (.int 3))) (dCons (dVar 6) dNil)))) (dCons (dVar 4) dNil))))))))))))
theorem der_called (T : Txt K mg CH CC gr) {k : Nat} {f : Addr} {R_take_turn : DR} {l_take_turn : Nat} (c_take_turn : C8.Met Pr w K mg base l_take_turn CC "take_turn" (spD R_take_turn) []) (k_take_turn : l_take_turn ≤ k) {R_function_named : DR} {l_function_named : Nat} (c_function_named : C8.Cal Pr w K mg base l_function_named "function_named" (spD R_function_named) []) (k_function_named : l_function_named ≤ k) (cdv : Value) (A : Around) (outer : List Env) (s : Shared) (H : Hp) (E : XK) (hr : Room k (A.deeper (envOfC "called" (C8.fnScope st_called) s.heap.objs.size f cdv))) :
    ∃ ts, PSsd (cxOf C8.CX0 Pr w K mg base N_called "called" (C8.fnScope st_called) f cdv A outer s H E).nox (C8.fnBody st_called) ts (b_called CH CC R_take_turn R_function_named) := by
  have S := sc_called
  have hu64 : (A.deeper (envOfC "called" (C8.fnScope st_called) s.heap.objs.size f cdv)).units + 64 < cLine := by have := hr.un; omega
  have hu65 : (A.deeper (envOfC "called" (C8.fnScope st_called) s.heap.objs.size f cdv)).units + 65 < cLine := by have := hr.un; omega
  have hu1 : (A.deeper (envOfC "called" (C8.fnScope st_called) s.heap.objs.size f cdv)).units + 1 < cLine := by have := hr.un; omega
  exact ⟨_, (ss_cons (s_if (t_not (t_val (d_meth0 c_take_turn hr k_take_turn (dv 0)))) (ss_one (s_ret d_non)) ss_nil)
    (ss_cons (s_if (t_pw (w_and (t_cmp o_notN (d_ix (dv 1) d_int) d_non) (w_and1 (t_cmp o_eq (d_ix (dv 2) d_int) (d_ix (dv 1) d_int))))) (ss_one (s_set 5 S.nd (d_call c_function_named hr k_function_named (by rfl) (da_cons (d_fld CC T.c_CC T.a_CC_program (dv 0)) (da_cons (d_ix (dv 1) d_int) da_nil))))) (ss_one (s_set 5 S.nd (d_call c_function_named hr k_function_named (by rfl) (da_cons (d_fld CC T.c_CC T.a_CC_program (dv 0)) (da_cons (d_ix (dv 2) d_int) da_nil))))))
    (ss_cons (s_set 6 S.nd (d_ix (dv 2) d_int))
    (ss_cons (s_if (t_pw (w_and (t_cmp o_notN (dv 6) d_non) (w_and1 (t_cmp o_eq (dv 6) (d_ix (dv 1) d_int))))) (ss_one (s_set 6 S.nd (d_ix (dv 1) d_int))) ss_nil)
    (ss_cons (s_set 7 S.nd d_non)
    (ss_cons (s_forz 8 9 rfl PassesOwn.never (by rfl) T.n_zip (d_ix (dv 5) d_int) (dv 3) (pgs_cons (pg_name (i := 8) S.nd rfl (.inl rfl)) (pgs_cons (pg_name (i := 9) S.nd rfl (.inl rfl)) pgs_nil)) (ss_one (s_set 7 S.nd (d_tup (da_cons (dv 8) (da_cons (dv 9) (da_cons (dv 7) da_nil)))))))
    (ss_one (s_ret (d_tup (da_cons d_str (da_cons (d_ix (dv 5) d_int) (da_cons (d_tup (da_cons (dv 7) (da_cons (d_ix (dv 5) d_int) (da_cons (dv 6) da_nil)))) (da_cons (dv 4) da_nil)))))))))))))⟩
/-! asked -/
abbrev st_asked : Stmt := top 23
abbrev N_asked : List Str := ["course", "deed", "number", "rest", "found", "held", "handler", "clause", "known"]
abbrev P_asked : List Str := ["course", "deed", "number", "rest"]
theorem sc_asked : FnScope N_asked P_asked (C8.fnScope st_asked) := C8.fnScope_by (by decide +kernel)
def b_asked (CH CC : Addr) (R_take_turn : DR) (R_taken_off : DR) (R_clause_for : DR) : DS := (dSeq (dIf (dNot (dTest (dMeth CC "take_turn" R_take_turn (dVar 0) dNil))) (dRet (dC .non)) dNext)
    (dSeq (dDrop (dAppT (dFld CC "record" (dVar 0)) (dTup (dCons (dC (.str "do")) (dCons (dVar 1) (dCons (dVar 2) dNil))))))
    (dSeq (dAsg (dCall R_taken_off (dCons (dVar 3) (dCons (dVar 1) dNil))) 4)
    (dSeq (dIf (dTest (dOp (disN) (dVar 4) (dC .non))) (dSeq (dFldSet CC "end" (dVar 0) (dTup (dCons (dC (.str "asks")) (dCons (dVar 1) (dCons (dVar 2) dNil)))))
    (dRet (dTup (dCons (dC (.str "tell")) (dCons (dVar 2) (dCons (dVar 3) dNil)))))) dNext)
    (dSeq (dUnp (dVar 4) [5, 3])
    (dSeq (dAsg (dOp dix (dOp dix (dVar 5) (dNeg (dC (.int 1)))) (dC (.int 1))) 6)
    (dSeq (dAsg (dCall R_clause_for (dCons (dVar 6) (dCons (dVar 1) dNil))) 7)
    (dSeq (dAsg (dTup (dCons (dOp dix (dVar 7) (dC (.int 2))) (dCons (dOp dix (dOp dix (dVar 5) (dNeg (dC (.int 1)))) (dC (.int 2))) (dCons (dTup (dCons (dOp dix (dVar 7) (dC (.int 1))) (dCons (dVar 2) (dCons (dC .non) dNil)))) dNil)))) 8)
    (dRet (dTup (dCons (dC (.str "look")) (dCons (dOp dix (dVar 7) (dC (.int 3))) (dCons (dTup (dCons (dVar 8) (dCons (dC .non) (dCons (dC .non) dNil)))) (dCons (dTup (dCons (dTup (dCons (dC (.str "clause")) (dCons (dVar 5) (dCons (dC (.bl false)) dNil)))) (dCons (dVar 3) dNil))) dNil))))))))))))))
theorem der_asked (T : Txt K mg CH CC gr) {k : Nat} {f : Addr} {R_take_turn : DR} {l_take_turn : Nat} (c_take_turn : C8.Met Pr w K mg base l_take_turn CC "take_turn" (spD R_take_turn) []) (k_take_turn : l_take_turn ≤ k) {R_taken_off : DR} {l_taken_off : Nat} (c_taken_off : C8.Cal Pr w K mg base l_taken_off "taken_off" (spD R_taken_off) []) (k_taken_off : l_taken_off ≤ k) {R_clause_for : DR} {l_clause_for : Nat} (c_clause_for : C8.Cal Pr w K mg base l_clause_for "clause_for" (spD R_clause_for) []) (k_clause_for : l_clause_for ≤ k) (cdv : Value) (A : Around) (outer : List Env) (s : Shared) (H : Hp) (E : XK) (hr : Room k (A.deeper (envOfC "asked" (C8.fnScope st_asked) s.heap.objs.size f cdv))) :
    ∃ ts, PSsd (cxOf C8.CX0 Pr w K mg base N_asked "asked" (C8.fnScope st_asked) f cdv A outer s H E).nox (C8.fnBody st_asked) ts (b_asked CH CC R_take_turn R_taken_off R_clause_for) := by
  have S := sc_asked
  have hu64 : (A.deeper (envOfC "asked" (C8.fnScope st_asked) s.heap.objs.size f cdv)).units + 64 < cLine := by have := hr.un; omega
  have hu65 : (A.deeper (envOfC "asked" (C8.fnScope st_asked) s.heap.objs.size f cdv)).units + 65 < cLine := by have := hr.un; omega
  have hu1 : (A.deeper (envOfC "asked" (C8.fnScope st_asked) s.heap.objs.size f cdv)).units + 1 < cLine := by have := hr.un; omega
  exact ⟨_, (ss_cons (s_if (t_not (t_val (d_meth0 c_take_turn hr k_take_turn (dv 0)))) (ss_one (s_ret d_non)) ss_nil)
    (ss_cons (s_expr (d_app (d_fld CC T.c_CC T.a_CC_record (dv 0)) (d_tup (da_cons d_str (da_cons (dv 1) (da_cons (dv 2) da_nil))))))
    (ss_cons (s_set 4 S.nd (d_call c_taken_off hr k_taken_off (by rfl) (da_cons (dv 3) (da_cons (dv 1) da_nil))))
    (ss_cons (s_if (t_cmp o_isN (dv 4) d_non) (ss_cons (s_fld CC T.c_CC T.a_CC_end (dv 0) (d_tup (da_cons d_str (da_cons (dv 1) (da_cons (dv 2) da_nil)))))
    (ss_one (s_ret (d_tup (da_cons d_str (da_cons (dv 2) (da_cons (dv 3) da_nil))))))) ss_nil)
    (ss_cons (s_unp [5, 3] rfl (pgs_cons (pg_name (i := 5) S.nd rfl (.inl rfl)) (pgs_cons (pg_name (i := 3) S.nd rfl (.inl rfl)) pgs_nil)) (dv 4))
    (ss_cons (s_set 6 S.nd (d_ix (d_ix (dv 5) (d_neg d_int)) d_int))
    (ss_cons (s_set 7 S.nd (d_call c_clause_for hr k_clause_for (by rfl) (da_cons (dv 6) (da_cons (dv 1) da_nil))))
    (ss_cons (s_set 8 S.nd (d_tup (da_cons (d_ix (dv 7) d_int) (da_cons (d_ix (d_ix (dv 5) (d_neg d_int)) d_int) (da_cons (d_tup (da_cons (d_ix (dv 7) d_int) (da_cons (dv 2) (da_cons d_non da_nil)))) da_nil)))))
    (ss_one (s_ret (d_tup (da_cons d_str (da_cons (d_ix (dv 7) d_int) (da_cons (d_tup (da_cons (dv 8) (da_cons d_non (da_cons d_non da_nil)))) (da_cons (d_tup (da_cons (d_tup (da_cons d_str (da_cons (dv 5) (da_cons d_bl da_nil)))) (da_cons (dv 3) da_nil))) da_nil)))))))))))))))⟩
/-! begun_tree -/
abbrev st_begun_tree : Stmt := top 24
abbrev N_begun_tree : List Str := ["course", "tree", "scope", "rest", "kind"]
abbrev P_begun_tree : List Str := ["course", "tree", "scope", "rest"]
theorem sc_begun_tree : FnScope N_begun_tree P_begun_tree (C8.fnScope st_begun_tree) := C8.fnScope_by (by decide +kernel)
def b_begun_tree (CH CC : Addr) (R_value_of : DR) (R_called : DR) : DS := (dSeq (dAsg (dOp dix (dVar 1) (dC (.int 0))) 4)
    (dSeq (dIf (dTest (dOp (deq) (dVar 4) (dC (.str "num")))) (dRet (dTup (dCons (dC (.str "tell")) (dCons (dOp dix (dVar 1) (dC (.int 1))) (dCons (dVar 3) dNil))))) dNext)
    (dSeq (dIf (dTest (dOp (deq) (dVar 4) (dC (.str "var")))) (dRet (dTup (dCons (dC (.str "tell")) (dCons (dCall R_value_of (dCons (dOp dix (dVar 2) (dC (.int 0))) (dCons (dOp dix (dVar 1) (dC (.int 1))) dNil))) (dCons (dVar 3) dNil))))) dNext)
    (dSeq (dIf (dTest (dOp (deq) (dVar 4) (dC (.str "call")))) (dSeq (dIf (dTest (dOp (deqNilT) (dOp dix (dVar 1) (dC (.int 3))) (dTup dNil))) (dRet (dCall R_called (dCons (dVar 0) (dCons (dVar 2) (dCons (dVar 1) (dCons (dLst dNil) (dCons (dVar 3) dNil))))))) dNext)
    (dRet (dTup (dCons (dC (.str "look")) (dCons (dOp dix (dOp dix (dVar 1) (dC (.int 3))) (dC (.int 0))) (dCons (dVar 2) (dCons (dTup (dCons (dTup (dCons (dC (.str "args")) (dCons (dVar 1) (dCons (dLst dNil) (dCons (dVar 2) dNil))))) (dCons (dVar 3) dNil))) dNil))))))) dNext)
    (dSeq (dIf (dTest (dOp (dinS false) (dVar 4) (dTup (dCons (dC (.str "op")) (dCons (dC (.str "let")) (dCons (dC (.str "handle")) dNil)))))) (dRet (dTup (dCons (dC (.str "look")) (dCons (dOp dix (dVar 1) (dC (.int 2))) (dCons (dVar 2) (dCons (dTup (dCons (dTup (dCons (dVar 4) (dCons (dVar 1) (dCons (dVar 2) dNil)))) (dCons (dVar 3) dNil))) dNil)))))) dNext)
    (dSeq (dIf (dTest (dOp (deq) (dVar 4) (dC (.str "do")))) (dRet (dTup (dCons (dC (.str "look")) (dCons (dOp dix (dVar 1) (dC (.int 2))) (dCons (dVar 2) (dCons (dTup (dCons (dTup (dCons (dC (.str "deed")) (dCons (dOp dix (dVar 1) (dC (.int 1))) dNil))) (dCons (dVar 3) dNil))) dNil)))))) dNext)
    (dRet (dTup (dCons (dC (.str "look")) (dCons (dOp dix (dVar 1) (dC (.int 1))) (dCons (dVar 2) (dCons (dTup (dCons (dTup (dCons (dVar 4) (dCons (dVar 1) (dCons (dVar 2) dNil)))) (dCons (dVar 3) dNil))) dNil))))))))))))
theorem der_begun_tree (T : Txt K mg CH CC gr) {k : Nat} {f : Addr} {R_value_of : DR} {l_value_of : Nat} (c_value_of : C8.Cal Pr w K mg base l_value_of "value_of" (spD R_value_of) []) (k_value_of : l_value_of ≤ k) {R_called : DR} {l_called : Nat} (c_called : C8.Cal Pr w K mg base l_called "called" (spD R_called) []) (k_called : l_called ≤ k) (cdv : Value) (A : Around) (outer : List Env) (s : Shared) (H : Hp) (E : XK) (hr : Room k (A.deeper (envOfC "begun_tree" (C8.fnScope st_begun_tree) s.heap.objs.size f cdv))) :
    ∃ ts, PSsd (cxOf C8.CX0 Pr w K mg base N_begun_tree "begun_tree" (C8.fnScope st_begun_tree) f cdv A outer s H E).nox (C8.fnBody st_begun_tree) ts (b_begun_tree CH CC R_value_of R_called) := by
  have S := sc_begun_tree
  have hu64 : (A.deeper (envOfC "begun_tree" (C8.fnScope st_begun_tree) s.heap.objs.size f cdv)).units + 64 < cLine := by have := hr.un; omega
  have hu65 : (A.deeper (envOfC "begun_tree" (C8.fnScope st_begun_tree) s.heap.objs.size f cdv)).units + 65 < cLine := by have := hr.un; omega
  have hu1 : (A.deeper (envOfC "begun_tree" (C8.fnScope st_begun_tree) s.heap.objs.size f cdv)).units + 1 < cLine := by have := hr.un; omega
  exact ⟨_, (ss_cons (s_set 4 S.nd (d_ix (dv 1) d_int))
    (ss_cons (s_if (t_cmp o_eq (dv 4) d_str) (ss_one (s_ret (d_tup (da_cons d_str (da_cons (d_ix (dv 1) d_int) (da_cons (dv 3) da_nil)))))) ss_nil)
    (ss_cons (s_if (t_cmp o_eq (dv 4) d_str) (ss_one (s_ret (d_tup (da_cons d_str (da_cons (d_call c_value_of hr k_value_of (by rfl) (da_cons (d_ix (dv 2) d_int) (da_cons (d_ix (dv 1) d_int) da_nil))) (da_cons (dv 3) da_nil)))))) ss_nil)
    (ss_cons (s_if (t_cmp o_eq (dv 4) d_str) (ss_cons (s_if (t_cmp (o_eqNilT (hu64)) (d_ix (dv 1) d_int) (d_tup da_nil)) (ss_one (s_ret (d_call c_called hr k_called (by rfl) (da_cons (dv 0) (da_cons (dv 2) (da_cons (dv 1) (da_cons (d_lst da_nil) (da_cons (dv 3) da_nil)))))))) ss_nil)
    (ss_one (s_ret (d_tup (da_cons d_str (da_cons (d_ix (d_ix (dv 1) d_int) d_int) (da_cons (dv 2) (da_cons (d_tup (da_cons (d_tup (da_cons d_str (da_cons (dv 1) (da_cons (d_lst da_nil) (da_cons (dv 2) da_nil))))) (da_cons (dv 3) da_nil))) da_nil)))))))) ss_nil)
    (ss_cons (s_if (t_cmp o_in (dv 4) (d_tup (da_cons d_str (da_cons d_str (da_cons d_str da_nil)))) (by with_unfolding_all rfl)) (ss_one (s_ret (d_tup (da_cons d_str (da_cons (d_ix (dv 1) d_int) (da_cons (dv 2) (da_cons (d_tup (da_cons (d_tup (da_cons (dv 4) (da_cons (dv 1) (da_cons (dv 2) da_nil)))) (da_cons (dv 3) da_nil))) da_nil))))))) ss_nil)
    (ss_cons (s_if (t_cmp o_eq (dv 4) d_str) (ss_one (s_ret (d_tup (da_cons d_str (da_cons (d_ix (dv 1) d_int) (da_cons (dv 2) (da_cons (d_tup (da_cons (d_tup (da_cons d_str (da_cons (d_ix (dv 1) d_int) da_nil))) (da_cons (dv 3) da_nil))) da_nil))))))) ss_nil)
    (ss_one (s_ret (d_tup (da_cons d_str (da_cons (d_ix (dv 1) d_int) (da_cons (dv 2) (da_cons (d_tup (da_cons (d_tup (da_cons (dv 4) (da_cons (dv 1) (da_cons (dv 2) da_nil)))) (da_cons (dv 3) da_nil))) da_nil)))))))))))))⟩
/-! told_tree -/
abbrev st_told_tree : Stmt := top 25
abbrev N_told_tree : List Str := ["course", "frame", "number", "rest", "kind", "tree", "scope"]
abbrev P_told_tree : List Str := ["course", "frame", "number", "rest"]
theorem sc_told_tree : FnScope N_told_tree P_told_tree (C8.fnScope st_told_tree) := C8.fnScope_by (by decide +kernel)
def b_told_tree (CH CC : Addr) (R_handler_named : DR) : DS := (dSeq (dUnp (dVar 1) [4, 5, 6])
    (dSeq (dIf (dTest (dOp (deq) (dVar 4) (dC (.str "op")))) (dRet (dTup (dCons (dC (.str "look")) (dCons (dOp dix (dVar 5) (dC (.int 3))) (dCons (dVar 6) (dCons (dTup (dCons (dTup (dCons (dC (.str "second")) (dCons (dOp dix (dVar 5) (dC (.int 1))) (dCons (dVar 2) dNil)))) (dCons (dVar 3) dNil))) dNil)))))) dNext)
    (dSeq (dIf (dTest (dOp (deq) (dVar 4) (dC (.str "let")))) (dRet (dTup (dCons (dC (.str "look")) (dCons (dOp dix (dVar 5) (dC (.int 3))) (dCons (dTup (dCons (dTup (dCons (dOp dix (dVar 5) (dC (.int 1))) (dCons (dVar 2) (dCons (dOp dix (dVar 6) (dC (.int 0))) dNil)))) (dCons (dOp dix (dVar 6) (dC (.int 1))) (dCons (dOp dix (dVar 6) (dC (.int 2))) dNil)))) (dCons (dVar 3) dNil)))))) dNext)
    (dSeq (dIf (dTest (dOp (deq) (dVar 4) (dC (.str "handle")))) (dRet (dTup (dCons (dC (.str "look")) (dCons (dOp dix (dVar 5) (dC (.int 3))) (dCons (dVar 6) (dCons (dTup (dCons (dTup (dCons (dC (.str "stands")) (dCons (dCall R_handler_named (dCons (dFld CC "program" (dVar 0)) (dCons (dOp dix (dVar 5) (dC (.int 1))) dNil))) (dCons (dVar 2) dNil)))) (dCons (dVar 3) dNil))) dNil)))))) dNext)
    (dSeq (dIf (dTest (dOp (deq) (dVar 4) (dC (.str "go")))) (dRet (dTup (dCons (dC (.str "look")) (dCons (dOp dix (dVar 5) (dC (.int 2))) (dCons (dVar 6) (dCons (dTup (dCons (dTup (dCons (dC (.str "goes")) (dCons (dVar 2) dNil))) (dCons (dVar 3) dNil))) dNil)))))) dNext)
    (dSeq (dIf (dTest (dOp (deq) (dVar 4) (dC (.str "guard")))) (dSeq (dDrop (dAppT (dFld CC "record" (dVar 0)) (dTup (dCons (dC (.str "guard")) (dCons (dVar 2) dNil)))))
    (dRet (dTup (dCons (dC (.str "look")) (dCons (dOp dix (dVar 5) (dC (.int 2))) (dCons (dVar 6) (dCons (dTup (dCons (dTup (dCons (dC (.str "cleans")) (dCons (dVar 2) dNil))) (dCons (dVar 3) dNil))) dNil))))))) dNext)
    (dSeq (dIf (dTest (dOp (dne) (dVar 2) (dC (.int 0)))) (dRet (dTup (dCons (dC (.str "look")) (dCons (dOp dix (dVar 5) (dC (.int 2))) (dCons (dVar 6) (dCons (dVar 3) dNil)))))) dNext)
    (dRet (dTup (dCons (dC (.str "look")) (dCons (dOp dix (dVar 5) (dC (.int 3))) (dCons (dVar 6) (dCons (dVar 3) dNil)))))))))))))
theorem der_told_tree (T : Txt K mg CH CC gr) {k : Nat} {f : Addr} {R_handler_named : DR} {l_handler_named : Nat} (c_handler_named : C8.Cal Pr w K mg base l_handler_named "handler_named" (spD R_handler_named) []) (k_handler_named : l_handler_named ≤ k) (cdv : Value) (A : Around) (outer : List Env) (s : Shared) (H : Hp) (E : XK) (hr : Room k (A.deeper (envOfC "told_tree" (C8.fnScope st_told_tree) s.heap.objs.size f cdv))) :
    ∃ ts, PSsd (cxOf C8.CX0 Pr w K mg base N_told_tree "told_tree" (C8.fnScope st_told_tree) f cdv A outer s H E).nox (C8.fnBody st_told_tree) ts (b_told_tree CH CC R_handler_named) := by
  have S := sc_told_tree
  have hu64 : (A.deeper (envOfC "told_tree" (C8.fnScope st_told_tree) s.heap.objs.size f cdv)).units + 64 < cLine := by have := hr.un; omega
  have hu65 : (A.deeper (envOfC "told_tree" (C8.fnScope st_told_tree) s.heap.objs.size f cdv)).units + 65 < cLine := by have := hr.un; omega
  have hu1 : (A.deeper (envOfC "told_tree" (C8.fnScope st_told_tree) s.heap.objs.size f cdv)).units + 1 < cLine := by have := hr.un; omega
  exact ⟨_, (ss_cons (s_unp [4, 5, 6] rfl (pgs_cons (pg_name (i := 4) S.nd rfl (.inl rfl)) (pgs_cons (pg_name (i := 5) S.nd rfl (.inl rfl)) (pgs_cons (pg_name (i := 6) S.nd rfl (.inl rfl)) pgs_nil))) (dv 1))
    (ss_cons (s_if (t_cmp o_eq (dv 4) d_str) (ss_one (s_ret (d_tup (da_cons d_str (da_cons (d_ix (dv 5) d_int) (da_cons (dv 6) (da_cons (d_tup (da_cons (d_tup (da_cons d_str (da_cons (d_ix (dv 5) d_int) (da_cons (dv 2) da_nil)))) (da_cons (dv 3) da_nil))) da_nil))))))) ss_nil)
    (ss_cons (s_if (t_cmp o_eq (dv 4) d_str) (ss_one (s_ret (d_tup (da_cons d_str (da_cons (d_ix (dv 5) d_int) (da_cons (d_tup (da_cons (d_tup (da_cons (d_ix (dv 5) d_int) (da_cons (dv 2) (da_cons (d_ix (dv 6) d_int) da_nil)))) (da_cons (d_ix (dv 6) d_int) (da_cons (d_ix (dv 6) d_int) da_nil)))) (da_cons (dv 3) da_nil))))))) ss_nil)
    (ss_cons (s_if (t_cmp o_eq (dv 4) d_str) (ss_one (s_ret (d_tup (da_cons d_str (da_cons (d_ix (dv 5) d_int) (da_cons (dv 6) (da_cons (d_tup (da_cons (d_tup (da_cons d_str (da_cons (d_call c_handler_named hr k_handler_named (by rfl) (da_cons (d_fld CC T.c_CC T.a_CC_program (dv 0)) (da_cons (d_ix (dv 5) d_int) da_nil))) (da_cons (dv 2) da_nil)))) (da_cons (dv 3) da_nil))) da_nil))))))) ss_nil)
    (ss_cons (s_if (t_cmp o_eq (dv 4) d_str) (ss_one (s_ret (d_tup (da_cons d_str (da_cons (d_ix (dv 5) d_int) (da_cons (dv 6) (da_cons (d_tup (da_cons (d_tup (da_cons d_str (da_cons (dv 2) da_nil))) (da_cons (dv 3) da_nil))) da_nil))))))) ss_nil)
    (ss_cons (s_if (t_cmp o_eq (dv 4) d_str) (ss_cons (s_expr (d_app (d_fld CC T.c_CC T.a_CC_record (dv 0)) (d_tup (da_cons d_str (da_cons (dv 2) da_nil)))))
    (ss_one (s_ret (d_tup (da_cons d_str (da_cons (d_ix (dv 5) d_int) (da_cons (dv 6) (da_cons (d_tup (da_cons (d_tup (da_cons d_str (da_cons (dv 2) da_nil))) (da_cons (dv 3) da_nil))) da_nil)))))))) ss_nil)
    (ss_cons (s_if (t_cmp o_ne (dv 2) d_int) (ss_one (s_ret (d_tup (da_cons d_str (da_cons (d_ix (dv 5) d_int) (da_cons (dv 6) (da_cons (dv 3) da_nil))))))) ss_nil)
    (ss_one (s_ret (d_tup (da_cons d_str (da_cons (d_ix (dv 5) d_int) (da_cons (dv 6) (da_cons (dv 3) da_nil))))))))))))))⟩
/-! told_arg -/
abbrev st_told_arg : Stmt := top 26
abbrev N_told_arg : List Str := ["course", "frame", "number", "rest", "tree", "scope", "numbers"]
abbrev P_told_arg : List Str := ["course", "frame", "number", "rest"]
theorem sc_told_arg : FnScope N_told_arg P_told_arg (C8.fnScope st_told_arg) := C8.fnScope_by (by decide +kernel)
def b_told_arg (CH CC : Addr) (R_called : DR) : DS := (dSeq (dPar 4 5 (dOp dix (dVar 1) (dC (.int 1))) (dOp dix (dVar 1) (dC (.int 3))))
    (dSeq (dAsg (dOp (dcatL) (dOp dix (dVar 1) (dC (.int 2))) (dLst (dCons (dVar 2) dNil))) 6)
    (dSeq (dIf (dTest (dOp (i2 fun i j => .bl (decide (i < j))) (dCB drLen (dCons (dVar 6) dNil)) (dCB drLen (dCons (dOp dix (dVar 4) (dC (.int 3))) dNil)))) (dRet (dTup (dCons (dC (.str "look")) (dCons (dOp dix (dOp dix (dVar 4) (dC (.int 3))) (dCB drLen (dCons (dVar 6) dNil))) (dCons (dVar 5) (dCons (dTup (dCons (dTup (dCons (dC (.str "args")) (dCons (dVar 4) (dCons (dVar 6) (dCons (dVar 5) dNil))))) (dCons (dVar 3) dNil))) dNil)))))) dNext)
    (dRet (dCall R_called (dCons (dVar 0) (dCons (dVar 5) (dCons (dVar 4) (dCons (dVar 6) (dCons (dVar 3) dNil))))))))))
theorem der_told_arg (T : Txt K mg CH CC gr) {k : Nat} {f : Addr} {R_called : DR} {l_called : Nat} (c_called : C8.Cal Pr w K mg base l_called "called" (spD R_called) []) (k_called : l_called ≤ k) (cdv : Value) (A : Around) (outer : List Env) (s : Shared) (H : Hp) (E : XK) (hr : Room k (A.deeper (envOfC "told_arg" (C8.fnScope st_told_arg) s.heap.objs.size f cdv))) :
    ∃ ts, PSsd (cxOf C8.CX0 Pr w K mg base N_told_arg "told_arg" (C8.fnScope st_told_arg) f cdv A outer s H E).nox (C8.fnBody st_told_arg) ts (b_told_arg CH CC R_called) := by
  have S := sc_told_arg
  have hu64 : (A.deeper (envOfC "told_arg" (C8.fnScope st_told_arg) s.heap.objs.size f cdv)).units + 64 < cLine := by have := hr.un; omega
  have hu65 : (A.deeper (envOfC "told_arg" (C8.fnScope st_told_arg) s.heap.objs.size f cdv)).units + 65 < cLine := by have := hr.un; omega
  have hu1 : (A.deeper (envOfC "told_arg" (C8.fnScope st_told_arg) s.heap.objs.size f cdv)).units + 1 < cLine := by have := hr.un; omega
  exact ⟨_, (ss_cons (s_par 4 5 rfl S.nd (d_ix (dv 1) d_int) (d_ix (dv 1) d_int))
    (ss_cons (s_set 6 S.nd (d_op o_catL (d_ix (dv 1) d_int) (d_lst (da_cons (dv 2) da_nil))))
    (ss_cons (s_if (t_cmp o_lt (d_callB c_len (by rfl) T.n_len hb_len (da_cons (dv 6) da_nil)) (d_callB c_len (by rfl) T.n_len hb_len (da_cons (d_ix (dv 4) d_int) da_nil))) (ss_one (s_ret (d_tup (da_cons d_str (da_cons (d_ix (d_ix (dv 4) d_int) (d_callB c_len (by rfl) T.n_len hb_len (da_cons (dv 6) da_nil))) (da_cons (dv 5) (da_cons (d_tup (da_cons (d_tup (da_cons d_str (da_cons (dv 4) (da_cons (dv 6) (da_cons (dv 5) da_nil))))) (da_cons (dv 3) da_nil))) da_nil))))))) ss_nil)
    (ss_one (s_ret (d_call c_called hr k_called (by rfl) (da_cons (dv 0) (da_cons (dv 5) (da_cons (dv 4) (da_cons (dv 6) (da_cons (dv 3) da_nil)))))))))))⟩
/-! told_second -/
abbrev st_told_second : Stmt := top 27
abbrev N_told_second : List Str := ["course", "frame", "number", "rest", "found"]
abbrev P_told_second : List Str := ["course", "frame", "number", "rest"]
theorem sc_told_second : FnScope N_told_second P_told_second (C8.fnScope st_told_second) := C8.fnScope_by (by decide +kernel)
def b_told_second (CH CC : Addr) (R_reckoned : DR) : DS := (dSeq (dAsg (dCall R_reckoned (dCons (dOp dix (dVar 1) (dC (.int 1))) (dCons (dOp dix (dVar 1) (dC (.int 2))) (dCons (dVar 2) dNil)))) 4)
    (dSeq (dIf (dTest (dOp (i2 fun i j => .bl (decide (j < i))) (dCB drAbs (dCons (dVar 4) dNil)) (dC (.int (10 ^ 18))))) (dFldSet CC "end" (dVar 0) (dTup (dCons (dC (.str "great")) dNil))) dNext)
    (dRet (dTup (dCons (dC (.str "tell")) (dCons (dVar 4) (dCons (dVar 3) dNil)))))))
theorem der_told_second (T : Txt K mg CH CC gr) {k : Nat} {f : Addr} {R_reckoned : DR} {l_reckoned : Nat} (c_reckoned : C8.Cal Pr w K mg base l_reckoned "reckoned" (spD R_reckoned) []) (k_reckoned : l_reckoned ≤ k) (cdv : Value) (A : Around) (outer : List Env) (s : Shared) (H : Hp) (E : XK) (hr : Room k (A.deeper (envOfC "told_second" (C8.fnScope st_told_second) s.heap.objs.size f cdv))) :
    ∃ ts, PSsd (cxOf C8.CX0 Pr w K mg base N_told_second "told_second" (C8.fnScope st_told_second) f cdv A outer s H E).nox (C8.fnBody st_told_second) ts (b_told_second CH CC R_reckoned) := by
  have S := sc_told_second
  have hu64 : (A.deeper (envOfC "told_second" (C8.fnScope st_told_second) s.heap.objs.size f cdv)).units + 64 < cLine := by have := hr.un; omega
  have hu65 : (A.deeper (envOfC "told_second" (C8.fnScope st_told_second) s.heap.objs.size f cdv)).units + 65 < cLine := by have := hr.un; omega
  have hu1 : (A.deeper (envOfC "told_second" (C8.fnScope st_told_second) s.heap.objs.size f cdv)).units + 1 < cLine := by have := hr.un; omega
  exact ⟨_, (ss_cons (s_set 4 S.nd (d_call c_reckoned hr k_reckoned (by rfl) (da_cons (d_ix (dv 1) d_int) (da_cons (d_ix (dv 1) d_int) (da_cons (dv 2) da_nil)))))
    (ss_cons (s_if (t_cmp o_gt (d_callB c_abs (by rfl) T.n_abs hb_abs (da_cons (dv 4) da_nil)) (d_glob (d := .int (10 ^ 18)) (v := .int (10 ^ 18)) (by rfl) T.hgr T.rgr rfl)) (ss_one (s_fld CC T.c_CC T.a_CC_end (dv 0) (d_tup (da_cons d_str da_nil)))) ss_nil)
    (ss_one (s_ret (d_tup (da_cons d_str (da_cons (dv 4) (da_cons (dv 3) da_nil))))))))⟩
/-! told_go -/
abbrev st_told_go : Stmt := top 28
abbrev N_told_go : List Str := ["course", "answer", "kept", "rest", "held"]
abbrev P_told_go : List Str := ["course", "answer", "kept", "rest"]
theorem sc_told_go : FnScope N_told_go P_told_go (C8.fnScope st_told_go) := C8.fnScope_by (by decide +kernel)
def b_told_go (CH CC : Addr) (R_take_turn : DR) (R_gone_from : DR) (R_put_on : DR) : DS := (dSeq (dIf (dNot (dTest (dMeth CC "take_turn" R_take_turn (dVar 0) dNil))) (dRet (dC .non)) dNext)
    (dSeq (dUnp (dCall R_gone_from (dCons (dVar 3) dNil)) [4, 3])
    (dRet (dTup (dCons (dC (.str "tell")) (dCons (dVar 1) (dCons (dCall R_put_on (dCons (dVar 4) (dCons (dVar 2) (dCons (dVar 3) dNil)))) dNil)))))))
theorem der_told_go (T : Txt K mg CH CC gr) {k : Nat} {f : Addr} {R_take_turn : DR} {l_take_turn : Nat} (c_take_turn : C8.Met Pr w K mg base l_take_turn CC "take_turn" (spD R_take_turn) []) (k_take_turn : l_take_turn ≤ k) {R_gone_from : DR} {l_gone_from : Nat} (c_gone_from : C8.Cal Pr w K mg base l_gone_from "gone_from" (spD R_gone_from) []) (k_gone_from : l_gone_from ≤ k) {R_put_on : DR} {l_put_on : Nat} (c_put_on : C8.Cal Pr w K mg base l_put_on "put_on" (spD R_put_on) []) (k_put_on : l_put_on ≤ k) (cdv : Value) (A : Around) (outer : List Env) (s : Shared) (H : Hp) (E : XK) (hr : Room k (A.deeper (envOfC "told_go" (C8.fnScope st_told_go) s.heap.objs.size f cdv))) :
    ∃ ts, PSsd (cxOf C8.CX0 Pr w K mg base N_told_go "told_go" (C8.fnScope st_told_go) f cdv A outer s H E).nox (C8.fnBody st_told_go) ts (b_told_go CH CC R_take_turn R_gone_from R_put_on) := by
  have S := sc_told_go
  have hu64 : (A.deeper (envOfC "told_go" (C8.fnScope st_told_go) s.heap.objs.size f cdv)).units + 64 < cLine := by have := hr.un; omega
  have hu65 : (A.deeper (envOfC "told_go" (C8.fnScope st_told_go) s.heap.objs.size f cdv)).units + 65 < cLine := by have := hr.un; omega
  have hu1 : (A.deeper (envOfC "told_go" (C8.fnScope st_told_go) s.heap.objs.size f cdv)).units + 1 < cLine := by have := hr.un; omega
  exact ⟨_, (ss_cons (s_if (t_not (t_val (d_meth0 c_take_turn hr k_take_turn (dv 0)))) (ss_one (s_ret d_non)) ss_nil)
    (ss_cons (s_unp [4, 3] rfl (pgs_cons (pg_name (i := 4) S.nd rfl (.inl rfl)) (pgs_cons (pg_name (i := 3) S.nd rfl (.inl rfl)) pgs_nil)) (d_call c_gone_from hr k_gone_from (by rfl) (da_cons (dv 3) da_nil)))
    (ss_one (s_ret (d_tup (da_cons d_str (da_cons (dv 1) (da_cons (d_call c_put_on hr k_put_on (by rfl) (da_cons (dv 4) (da_cons (dv 2) (da_cons (dv 3) da_nil)))) da_nil))))))))⟩
/-! told_clause -/
abbrev st_told_clause : Stmt := top 29
abbrev N_told_clause : List Str := ["course", "frame", "number", "rest", "cleaned"]
abbrev P_told_clause : List Str := ["course", "frame", "number", "rest"]
theorem sc_told_clause : FnScope N_told_clause P_told_clause (C8.fnScope st_told_clause) := C8.fnScope_by (by decide +kernel)
def b_told_clause_L1 (CH CC : Addr) (R_thrown : DR) : DS := (dDrop (dAppT (dFld CC "record" (dVar 0)) (dTup (dCons (dC (.str "clean")) (dCons (dVar 4) dNil)))))
def b_told_clause (CH CC : Addr) (R_thrown : DR) : DS := (dSeq (dIf (dNot (dTest (dOp dix (dVar 1) (dC (.int 2))))) (dForI 4 (dList (dCall R_thrown (dCons (dOp dix (dVar 1) (dC (.int 1))) dNil))) (b_told_clause_L1 CH CC R_thrown)) dNext)
    (dRet (dTup (dCons (dC (.str "tell")) (dCons (dVar 2) (dCons (dVar 3) dNil))))))
theorem der_told_clause (T : Txt K mg CH CC gr) {k : Nat} {f : Addr} {R_thrown : DR} {l_thrown : Nat} (c_thrown : C8.Cal Pr w K mg base l_thrown "thrown" (spD R_thrown) []) (k_thrown : l_thrown ≤ k) (cdv : Value) (A : Around) (outer : List Env) (s : Shared) (H : Hp) (E : XK) (hr : Room k (A.deeper (envOfC "told_clause" (C8.fnScope st_told_clause) s.heap.objs.size f cdv))) :
    ∃ ts, PSsd (cxOf C8.CX0 Pr w K mg base N_told_clause "told_clause" (C8.fnScope st_told_clause) f cdv A outer s H E).nox (C8.fnBody st_told_clause) ts (b_told_clause CH CC R_thrown) := by
  have S := sc_told_clause
  have hu64 : (A.deeper (envOfC "told_clause" (C8.fnScope st_told_clause) s.heap.objs.size f cdv)).units + 64 < cLine := by have := hr.un; omega
  have hu65 : (A.deeper (envOfC "told_clause" (C8.fnScope st_told_clause) s.heap.objs.size f cdv)).units + 65 < cLine := by have := hr.un; omega
  have hu1 : (A.deeper (envOfC "told_clause" (C8.fnScope st_told_clause) s.heap.objs.size f cdv)).units + 1 < cLine := by have := hr.un; omega
  exact ⟨_, (ss_cons (s_if (t_not (t_val (d_ix (dv 1) d_int))) (ss_one (s_for 4 S.nd rfl PassesOwn.never (i_list (d_call c_thrown hr k_thrown (by rfl) (da_cons (d_ix (dv 1) d_int) da_nil))) (ss_one (s_expr (d_app (d_fld CC T.c_CC T.a_CC_record (dv 0)) (d_tup (da_cons d_str (da_cons (dv 4) da_nil)))))))) ss_nil)
    (ss_one (s_ret (d_tup (da_cons d_str (da_cons (dv 2) (da_cons (dv 3) da_nil)))))))⟩
/-! told -/
abbrev st_told : Stmt := top 30
abbrev N_told : List Str := ["course", "number", "rest", "frame", "kind", "end"]
abbrev P_told : List Str := ["course", "number", "rest"]
theorem sc_told : FnScope N_told P_told (C8.fnScope st_told) := C8.fnScope_by (by decide +kernel)
def b_told (CH CC : Addr) (R_told_arg : DR) (R_told_second : DR) (R_asked : DR) (R_told_go : DR) (R_told_clause : DR) (R_told_tree : DR) : DS := (dSeq (dUnp (dVar 2) [3, 2])
    (dSeq (dAsg (dOp dix (dVar 3) (dC (.int 0))) 4)
    (dSeq (dIf (dTest (dOp (deq) (dVar 4) (dC (.str "args")))) (dRet (dCall R_told_arg (dCons (dVar 0) (dCons (dVar 3) (dCons (dVar 1) (dCons (dVar 2) dNil)))))) dNext)
    (dSeq (dIf (dTest (dOp (deq) (dVar 4) (dC (.str "second")))) (dRet (dCall R_told_second (dCons (dVar 0) (dCons (dVar 3) (dCons (dVar 1) (dCons (dVar 2) dNil)))))) dNext)
    (dSeq (dIf (dTest (dOp (deq) (dVar 4) (dC (.str "deed")))) (dRet (dCall R_asked (dCons (dVar 0) (dCons (dOp dix (dVar 3) (dC (.int 1))) (dCons (dVar 1) (dCons (dVar 2) dNil)))))) dNext)
    (dSeq (dIf (dTest (dOp (deq) (dVar 4) (dC (.str "goes")))) (dRet (dCall R_told_go (dCons (dVar 0) (dCons (dOp dix (dVar 3) (dC (.int 1))) (dCons (dVar 1) (dCons (dVar 2) dNil)))))) dNext)
    (dSeq (dIf (dTest (dOp (deq) (dVar 4) (dC (.str "clause")))) (dRet (dCall R_told_clause (dCons (dVar 0) (dCons (dVar 3) (dCons (dVar 1) (dCons (dVar 2) dNil)))))) dNext)
    (dSeq (dIf (dTest (dOp (deq) (dVar 4) (dC (.str "stands")))) (dSeq (dAsg (dOp dix (dOp dix (dVar 3) (dC (.int 1))) (dC (.int 3))) 5)
    (dRet (dTup (dCons (dC (.str "look")) (dCons (dOp dix (dVar 5) (dC (.int 2))) (dCons (dTup (dCons (dTup (dCons (dOp dix (dVar 5) (dC (.int 1))) (dCons (dOp dix (dVar 3) (dC (.int 2))) (dCons (dTup (dCons (dOp dix (dVar 5) (dC (.int 0))) (dCons (dVar 1) (dCons (dC .non) dNil)))) dNil)))) (dCons (dC .non) (dCons (dC .non) dNil)))) (dCons (dVar 2) dNil))))))) dNext)
    (dSeq (dIf (dTest (dOp (deq) (dVar 4) (dC (.str "cleans")))) (dSeq (dDrop (dAppT (dFld CC "record" (dVar 0)) (dTup (dCons (dC (.str "clean")) (dCons (dOp dix (dVar 3) (dC (.int 1))) dNil)))))
    (dRet (dTup (dCons (dC (.str "tell")) (dCons (dVar 1) (dCons (dVar 2) dNil)))))) dNext)
    (dRet (dCall R_told_tree (dCons (dVar 0) (dCons (dVar 3) (dCons (dVar 1) (dCons (dVar 2) dNil)))))))))))))))
theorem der_told (T : Txt K mg CH CC gr) {k : Nat} {f : Addr} {R_told_arg : DR} {l_told_arg : Nat} (c_told_arg : C8.Cal Pr w K mg base l_told_arg "told_arg" (spD R_told_arg) []) (k_told_arg : l_told_arg ≤ k) {R_told_second : DR} {l_told_second : Nat} (c_told_second : C8.Cal Pr w K mg base l_told_second "told_second" (spD R_told_second) []) (k_told_second : l_told_second ≤ k) {R_asked : DR} {l_asked : Nat} (c_asked : C8.Cal Pr w K mg base l_asked "asked" (spD R_asked) []) (k_asked : l_asked ≤ k) {R_told_go : DR} {l_told_go : Nat} (c_told_go : C8.Cal Pr w K mg base l_told_go "told_go" (spD R_told_go) []) (k_told_go : l_told_go ≤ k) {R_told_clause : DR} {l_told_clause : Nat} (c_told_clause : C8.Cal Pr w K mg base l_told_clause "told_clause" (spD R_told_clause) []) (k_told_clause : l_told_clause ≤ k) {R_told_tree : DR} {l_told_tree : Nat} (c_told_tree : C8.Cal Pr w K mg base l_told_tree "told_tree" (spD R_told_tree) []) (k_told_tree : l_told_tree ≤ k) (cdv : Value) (A : Around) (outer : List Env) (s : Shared) (H : Hp) (E : XK) (hr : Room k (A.deeper (envOfC "told" (C8.fnScope st_told) s.heap.objs.size f cdv))) :
    ∃ ts, PSsd (cxOf C8.CX0 Pr w K mg base N_told "told" (C8.fnScope st_told) f cdv A outer s H E).nox (C8.fnBody st_told) ts (b_told CH CC R_told_arg R_told_second R_asked R_told_go R_told_clause R_told_tree) := by
  have S := sc_told
  have hu64 : (A.deeper (envOfC "told" (C8.fnScope st_told) s.heap.objs.size f cdv)).units + 64 < cLine := by have := hr.un; omega
  have hu65 : (A.deeper (envOfC "told" (C8.fnScope st_told) s.heap.objs.size f cdv)).units + 65 < cLine := by have := hr.un; omega
  have hu1 : (A.deeper (envOfC "told" (C8.fnScope st_told) s.heap.objs.size f cdv)).units + 1 < cLine := by have := hr.un; omega
  exact ⟨_, (ss_cons (s_unp [3, 2] rfl (pgs_cons (pg_name (i := 3) S.nd rfl (.inl rfl)) (pgs_cons (pg_name (i := 2) S.nd rfl (.inl rfl)) pgs_nil)) (dv 2))
    (ss_cons (s_set 4 S.nd (d_ix (dv 3) d_int))
    (ss_cons (s_if (t_cmp o_eq (dv 4) d_str) (ss_one (s_ret (d_call c_told_arg hr k_told_arg (by rfl) (da_cons (dv 0) (da_cons (dv 3) (da_cons (dv 1) (da_cons (dv 2) da_nil))))))) ss_nil)
    (ss_cons (s_if (t_cmp o_eq (dv 4) d_str) (ss_one (s_ret (d_call c_told_second hr k_told_second (by rfl) (da_cons (dv 0) (da_cons (dv 3) (da_cons (dv 1) (da_cons (dv 2) da_nil))))))) ss_nil)
    (ss_cons (s_if (t_cmp o_eq (dv 4) d_str) (ss_one (s_ret (d_call c_asked hr k_asked (by rfl) (da_cons (dv 0) (da_cons (d_ix (dv 3) d_int) (da_cons (dv 1) (da_cons (dv 2) da_nil))))))) ss_nil)
    (ss_cons (s_if (t_cmp o_eq (dv 4) d_str) (ss_one (s_ret (d_call c_told_go hr k_told_go (by rfl) (da_cons (dv 0) (da_cons (d_ix (dv 3) d_int) (da_cons (dv 1) (da_cons (dv 2) da_nil))))))) ss_nil)
    (ss_cons (s_if (t_cmp o_eq (dv 4) d_str) (ss_one (s_ret (d_call c_told_clause hr k_told_clause (by rfl) (da_cons (dv 0) (da_cons (dv 3) (da_cons (dv 1) (da_cons (dv 2) da_nil))))))) ss_nil)
    (ss_cons (s_if (t_cmp o_eq (dv 4) d_str) (ss_cons (s_set 5 S.nd (d_ix (d_ix (dv 3) d_int) d_int))
    (ss_one (s_ret (d_tup (da_cons d_str (da_cons (d_ix (dv 5) d_int) (da_cons (d_tup (da_cons (d_tup (da_cons (d_ix (dv 5) d_int) (da_cons (d_ix (dv 3) d_int) (da_cons (d_tup (da_cons (d_ix (dv 5) d_int) (da_cons (dv 1) (da_cons d_non da_nil)))) da_nil)))) (da_cons d_non (da_cons d_non da_nil)))) (da_cons (dv 2) da_nil)))))))) ss_nil)
    (ss_cons (s_if (t_cmp o_eq (dv 4) d_str) (ss_cons (s_expr (d_app (d_fld CC T.c_CC T.a_CC_record (dv 0)) (d_tup (da_cons d_str (da_cons (d_ix (dv 3) d_int) da_nil)))))
    (ss_one (s_ret (d_tup (da_cons d_str (da_cons (dv 1) (da_cons (dv 2) da_nil))))))) ss_nil)
    (ss_one (s_ret (d_call c_told_tree hr k_told_tree (by rfl) (da_cons (dv 0) (da_cons (dv 3) (da_cons (dv 1) (da_cons (dv 2) da_nil))))))))))))))))⟩
/-! to_end -/
abbrev st_to_end : Stmt := top 31
abbrev N_to_end : List Str := ["course", "state", "waits"]
abbrev P_to_end : List Str := ["course", "state"]
theorem sc_to_end : FnScope N_to_end P_to_end (C8.fnScope st_to_end) := C8.fnScope_by (by decide +kernel)
def b_to_end_L1 (CH CC : Addr) (R_begun_tree : DR) (R_told : DR) (R_halt : DR) : DS := (dIf (dTest (dOp (deq) (dOp dix (dVar 1) (dC (.int 0))) (dC (.str "look")))) (dAsg (dCall R_begun_tree (dCons (dVar 0) (dCons (dOp dix (dVar 1) (dC (.int 1))) (dCons (dOp dix (dVar 1) (dC (.int 2))) (dCons (dOp dix (dVar 1) (dC (.int 3))) dNil))))) 1) (dIf (dTest (dOp (disN) (dOp dix (dVar 1) (dC (.int 2))) (dC .non))) (dFldSet CC "end" (dVar 0) (dTup (dCons (dC (.str "done")) (dCons (dOp dix (dVar 1) (dC (.int 1))) dNil)))) (dAsg (dCall R_told (dCons (dVar 0) (dCons (dOp dix (dVar 1) (dC (.int 1))) (dCons (dOp dix (dVar 1) (dC (.int 2))) dNil)))) 1)))
def b_to_end (CH CC : Addr) (R_begun_tree : DR) (R_told : DR) (R_halt : DR) : DS := (dSeq (dWhile (dTest (dOp (disN) (dFld CC "end" (dVar 0)) (dC .non))) (b_to_end_L1 CH CC R_begun_tree R_told R_halt))
    (dSeq (dAsg (dC .non) 2)
    (dSeq (dIf (dTest (dOp (deq) (dOp dix (dFld CC "end" (dVar 0)) (dC (.int 0))) (dC (.str "asks")))) (dAsg (dTup (dCons (dFld CC "program" (dVar 0)) (dCons (dFld CC "turns" (dVar 0)) (dCons (dFld CC "used" (dVar 0)) (dCons (dCB drTuple (dCons (dFld CC "record" (dVar 0)) dNil)) (dCons (dOp dix (dVar 1) (dC (.int 2))) dNil)))))) 2) dNext)
    (dRet (dFrzE (dMake CH R_halt (dCons (dFld CC "end" (dVar 0)) (dCons (dFld CC "record" (dVar 0)) (dCons (dFld CC "used" (dVar 0)) (dCons (dVar 2) dNil))))))))))
theorem der_to_end (T : Txt K mg CH CC gr) {k : Nat} {f : Addr} {R_begun_tree : DR} {l_begun_tree : Nat} (c_begun_tree : C8.Cal Pr w K mg base l_begun_tree "begun_tree" (spD R_begun_tree) []) (k_begun_tree : l_begun_tree ≤ k) {R_told : DR} {l_told : Nat} (c_told : C8.Cal Pr w K mg base l_told "told" (spD R_told) []) (k_told : l_told ≤ k) {R_halt : DR} {l_halt : Nat} (c_halt : C8.Mak Pr w K mg base l_halt "Halt" CH (spD R_halt) []) (k_halt : l_halt + 1 ≤ k) (cdv : Value) (A : Around) (outer : List Env) (s : Shared) (H : Hp) (E : XK) (hr : Room k (A.deeper (envOfC "to_end" (C8.fnScope st_to_end) s.heap.objs.size f cdv))) :
    ∃ ts, PSsd (cxOf C8.CX0 Pr w K mg base N_to_end "to_end" (C8.fnScope st_to_end) f cdv A outer s H E).nox (C8.fnBody st_to_end) ts (b_to_end CH CC R_begun_tree R_told R_halt) := by
  have S := sc_to_end
  have hu64 : (A.deeper (envOfC "to_end" (C8.fnScope st_to_end) s.heap.objs.size f cdv)).units + 64 < cLine := by have := hr.un; omega
  have hu65 : (A.deeper (envOfC "to_end" (C8.fnScope st_to_end) s.heap.objs.size f cdv)).units + 65 < cLine := by have := hr.un; omega
  have hu1 : (A.deeper (envOfC "to_end" (C8.fnScope st_to_end) s.heap.objs.size f cdv)).units + 1 < cLine := by have := hr.un; omega
  exact ⟨_, (ss_cons (s_while PassesOwn.never (t_cmp o_isN (d_fld CC T.c_CC T.a_CC_end (dv 0)) d_non) (ss_one (s_if (t_cmp o_eq (d_ix (dv 1) d_int) d_str) (ss_one (s_set 1 S.nd (d_call c_begun_tree hr k_begun_tree (by rfl) (da_cons (dv 0) (da_cons (d_ix (dv 1) d_int) (da_cons (d_ix (dv 1) d_int) (da_cons (d_ix (dv 1) d_int) da_nil))))))) (ss_one (s_if (t_cmp o_isN (d_ix (dv 1) d_int) d_non) (ss_one (s_fld CC T.c_CC T.a_CC_end (dv 0) (d_tup (da_cons d_str (da_cons (d_ix (dv 1) d_int) da_nil))))) (ss_one (s_set 1 S.nd (d_call c_told hr k_told (by rfl) (da_cons (dv 0) (da_cons (d_ix (dv 1) d_int) (da_cons (d_ix (dv 1) d_int) da_nil)))))))))))
    (ss_cons (s_set 2 S.nd d_non)
    (ss_cons (s_if (t_cmp o_eq (d_ix (d_fld CC T.c_CC T.a_CC_end (dv 0)) d_int) d_str) (ss_one (s_set 2 S.nd (d_tup (da_cons (d_fld CC T.c_CC T.a_CC_program (dv 0)) (da_cons (d_fld CC T.c_CC T.a_CC_turns (dv 0)) (da_cons (d_fld CC T.c_CC T.a_CC_used (dv 0)) (da_cons (d_callT c_tuple (by rfl) T.n_tuple hb_tuple (da_cons (d_fld CC T.c_CC T.a_CC_record (dv 0)) da_nil)) (da_cons (d_ix (dv 1) d_int) da_nil)))))))) ss_nil)
    (ss_one (s_ret (d_frz (d_make c_halt hr k_halt (by rfl) (da_cons (d_fld CC T.c_CC T.a_CC_end (dv 0)) (da_cons (d_fld CC T.c_CC T.a_CC_record (dv 0)) (da_cons (d_fld CC T.c_CC T.a_CC_used (dv 0)) (da_cons (dv 2) da_nil)))))))))))⟩
/-! begun -/
abbrev st_begun : Stmt := top 32
abbrev N_begun : List Str := ["program", "f", "numbers", "turns", "item", "known", "name", "number"]
abbrev P_begun : List Str := ["program", "f", "numbers", "turns"]
theorem sc_begun : FnScope N_begun P_begun (C8.fnScope st_begun) := C8.fnScope_by (by decide +kernel)
def b_begun_L1 (CH CC : Addr) (R_function_named : DR) (R_to_end : DR) (R_course : DR) : DS := (dAsg (dTup (dCons (dVar 6) (dCons (dVar 7) (dCons (dVar 5) dNil)))) 5)
def b_begun (CH CC : Addr) (R_function_named : DR) (R_to_end : DR) (R_course : DR) : DS := (dSeq (dAsg (dCall R_function_named (dCons (dVar 0) (dCons (dVar 1) dNil))) 4)
    (dSeq (dIf (dOr (dTest (dOp (disN) (dVar 4) (dC .non))) (dTest (dOp (dnotN) (dOp dix (dVar 4) (dC (.int 3))) (dC .non)))) dNever dNext)
    (dSeq (dIf (dTest (dOp (dne) (dCB drLen (dCons (dVar 2) dNil)) (dCB drLen (dCons (dOp dix (dVar 4) (dC (.int 2))) dNil)))) dNever dNext)
    (dSeq (dAsg (dC .non) 5)
    (dSeq (dForZ 6 7 (dOp dix (dVar 4) (dC (.int 2))) (dVar 2) (b_begun_L1 CH CC R_function_named R_to_end R_course))
    (dRet (dCall R_to_end (dCons (dMake CC R_course (dCons (dVar 0) (dCons (dVar 3) (dCons (dC (.int 0)) (dCons (dLst dNil) dNil))))) (dCons (dTup (dCons (dC (.str "look")) (dCons (dOp dix (dVar 4) (dC (.int 4))) (dCons (dTup (dCons (dVar 5) (dCons (dC .non) (dCons (dC .non) dNil)))) (dCons (dC .non) dNil))))) dNil)))))))))
theorem der_begun (T : Txt K mg CH CC gr) {k : Nat} {f : Addr} {R_function_named : DR} {l_function_named : Nat} (c_function_named : C8.Cal Pr w K mg base l_function_named "function_named" (spD R_function_named) []) (k_function_named : l_function_named ≤ k) {R_to_end : DR} {l_to_end : Nat} (c_to_end : C8.Cal Pr w K mg base l_to_end "to_end" (spD R_to_end) []) (k_to_end : l_to_end ≤ k) {R_course : DR} {l_course : Nat} (c_course : C8.Mak Pr w K mg base l_course "Course" CC (spD R_course) []) (k_course : l_course + 1 ≤ k) (cdv : Value) (A : Around) (outer : List Env) (s : Shared) (H : Hp) (E : XK) (hr : Room k (A.deeper (envOfC "begun" (C8.fnScope st_begun) s.heap.objs.size f cdv))) :
    ∃ ts, PSsd (cxOf C8.CX0 Pr w K mg base N_begun "begun" (C8.fnScope st_begun) f cdv A outer s H E).nox (C8.fnBody st_begun) ts (b_begun CH CC R_function_named R_to_end R_course) := by
  have S := sc_begun
  have hu64 : (A.deeper (envOfC "begun" (C8.fnScope st_begun) s.heap.objs.size f cdv)).units + 64 < cLine := by have := hr.un; omega
  have hu65 : (A.deeper (envOfC "begun" (C8.fnScope st_begun) s.heap.objs.size f cdv)).units + 65 < cLine := by have := hr.un; omega
  have hu1 : (A.deeper (envOfC "begun" (C8.fnScope st_begun) s.heap.objs.size f cdv)).units + 1 < cLine := by have := hr.un; omega
  exact ⟨_, (ss_cons (s_set 4 S.nd (d_call c_function_named hr k_function_named (by rfl) (da_cons (dv 0) (da_cons (dv 1) da_nil))))
    (ss_cons (s_if (t_pw (w_or (t_cmp o_isN (dv 4) d_non) (w_or1 (t_cmp o_notN (d_ix (dv 4) d_int) d_non)))) (ss_one s_never) ss_nil)
    (ss_cons (s_if (t_cmp o_ne (d_callB c_len (by rfl) T.n_len hb_len (da_cons (dv 2) da_nil)) (d_callB c_len (by rfl) T.n_len hb_len (da_cons (d_ix (dv 4) d_int) da_nil))) (ss_one s_never) ss_nil)
    (ss_cons (s_set 5 S.nd d_non)
    (ss_cons (s_forz 6 7 rfl PassesOwn.never (by rfl) T.n_zip (d_ix (dv 4) d_int) (dv 2) (pgs_cons (pg_name (i := 6) S.nd rfl (.inl rfl)) (pgs_cons (pg_name (i := 7) S.nd rfl (.inl rfl)) pgs_nil)) (ss_one (s_set 5 S.nd (d_tup (da_cons (dv 6) (da_cons (dv 7) (da_cons (dv 5) da_nil)))))))
    (ss_one (s_ret (d_call c_to_end hr k_to_end (by rfl) (da_cons (d_make c_course hr k_course (by rfl) (da_cons (dv 0) (da_cons (dv 3) (da_cons d_int (da_cons (d_lst da_nil) da_nil))))) (da_cons (d_tup (da_cons d_str (da_cons (d_ix (dv 4) d_int) (da_cons (d_tup (da_cons (dv 5) (da_cons d_non (da_cons d_non da_nil)))) (da_cons d_non da_nil))))) da_nil))))))))))⟩
/-! gone_on -/
abbrev st_gone_on : Stmt := top 33
abbrev N_gone_on : List Str := ["halt", "answer", "program", "turns", "used", "record", "rest"]
abbrev P_gone_on : List Str := ["halt", "answer"]
theorem sc_gone_on : FnScope N_gone_on P_gone_on (C8.fnScope st_gone_on) := C8.fnScope_by (by decide +kernel)
def b_gone_on (CH CC : Addr) (R_to_end : DR) (R_course : DR) : DS := (dSeq (dIf (dTest (dOp (disN) (dFld CH "waits" (dVar 0)) (dC .non))) dNever dNext)
    (dSeq (dUnp (dFld CH "waits" (dVar 0)) [2, 3, 4, 5, 6])
    (dRet (dCall R_to_end (dCons (dMake CC R_course (dCons (dVar 2) (dCons (dVar 3) (dCons (dVar 4) (dCons (dVar 5) dNil))))) (dCons (dTup (dCons (dC (.str "tell")) (dCons (dVar 1) (dCons (dVar 6) dNil)))) dNil))))))
theorem der_gone_on (T : Txt K mg CH CC gr) {k : Nat} {f : Addr} {R_to_end : DR} {l_to_end : Nat} (c_to_end : C8.Cal Pr w K mg base l_to_end "to_end" (spD R_to_end) []) (k_to_end : l_to_end ≤ k) {R_course : DR} {l_course : Nat} (c_course : C8.Mak Pr w K mg base l_course "Course" CC (spD R_course) []) (k_course : l_course + 1 ≤ k) (cdv : Value) (A : Around) (outer : List Env) (s : Shared) (H : Hp) (E : XK) (hr : Room k (A.deeper (envOfC "gone_on" (C8.fnScope st_gone_on) s.heap.objs.size f cdv))) :
    ∃ ts, PSsd (cxOf C8.CX0 Pr w K mg base N_gone_on "gone_on" (C8.fnScope st_gone_on) f cdv A outer s H E).nox (C8.fnBody st_gone_on) ts (b_gone_on CH CC R_to_end R_course) := by
  have S := sc_gone_on
  have hu64 : (A.deeper (envOfC "gone_on" (C8.fnScope st_gone_on) s.heap.objs.size f cdv)).units + 64 < cLine := by have := hr.un; omega
  have hu65 : (A.deeper (envOfC "gone_on" (C8.fnScope st_gone_on) s.heap.objs.size f cdv)).units + 65 < cLine := by have := hr.un; omega
  have hu1 : (A.deeper (envOfC "gone_on" (C8.fnScope st_gone_on) s.heap.objs.size f cdv)).units + 1 < cLine := by have := hr.un; omega
  exact ⟨_, (ss_cons (s_if (t_cmp o_isN (d_fld CH T.c_CH T.a_CH_waits (dv 0)) d_non) (ss_one s_never) ss_nil)
    (ss_cons (s_unp [2, 3, 4, 5, 6] rfl (pgs_cons (pg_name (i := 2) S.nd rfl (.inl rfl)) (pgs_cons (pg_name (i := 3) S.nd rfl (.inl rfl)) (pgs_cons (pg_name (i := 4) S.nd rfl (.inl rfl)) (pgs_cons (pg_name (i := 5) S.nd rfl (.inl rfl)) (pgs_cons (pg_name (i := 6) S.nd rfl (.inl rfl)) pgs_nil))))) (d_fld CH T.c_CH T.a_CH_waits (dv 0)))
    (ss_one (s_ret (d_call c_to_end hr k_to_end (by rfl) (da_cons (d_make c_course hr k_course (by rfl) (da_cons (dv 2) (da_cons (dv 3) (da_cons (dv 4) (da_cons (dv 5) da_nil))))) (da_cons (d_tup (da_cons d_str (da_cons (dv 1) (da_cons (dv 6) da_nil)))) da_nil)))))))⟩
/-! run -/
abbrev st_run : Stmt := top 34
abbrev N_run : List Str := ["program", "f", "numbers", "answers", "turns", "halt", "answer"]
abbrev P_run : List Str := ["program", "f", "numbers", "answers", "turns"]
theorem sc_run : FnScope N_run P_run (C8.fnScope st_run) := C8.fnScope_by (by decide +kernel)
def b_run_L1 (CH CC : Addr) (R_begun : DR) (R_gone_on : DR) : DS := (dSeq (dIf (dTest (dOp (dne) (dOp dix (dFld CH "end" (dVar 5)) (dC (.int 0))) (dC (.str "asks")))) dBreak dNext)
    (dAsg (dCall R_gone_on (dCons (dVar 5) (dCons (dVar 6) dNil))) 5))
def b_run (CH CC : Addr) (R_begun : DR) (R_gone_on : DR) : DS := (dSeq (dAsg (dCall R_begun (dCons (dVar 0) (dCons (dVar 1) (dCons (dVar 2) (dCons (dVar 4) dNil))))) 5)
    (dSeq (dForI 6 (dList (dVar 3)) (b_run_L1 CH CC R_begun R_gone_on))
    (dRet (dTup (dCons (dFld CH "end" (dVar 5)) (dCons (dCB drList (dCons (dFld CH "record" (dVar 5)) dNil)) (dCons (dFld CH "used" (dVar 5)) dNil)))))))
theorem der_run (T : Txt K mg CH CC gr) {k : Nat} {f : Addr} {R_begun : DR} {l_begun : Nat} (c_begun : C8.Cal Pr w K mg base l_begun "begun" (spD R_begun) []) (k_begun : l_begun ≤ k) {R_gone_on : DR} {l_gone_on : Nat} (c_gone_on : C8.Cal Pr w K mg base l_gone_on "gone_on" (spD R_gone_on) []) (k_gone_on : l_gone_on ≤ k) (cdv : Value) (A : Around) (outer : List Env) (s : Shared) (H : Hp) (E : XK) (hr : Room k (A.deeper (envOfC "run" (C8.fnScope st_run) s.heap.objs.size f cdv))) :
    ∃ ts, PSsd (cxOf C8.CX0 Pr w K mg base N_run "run" (C8.fnScope st_run) f cdv A outer s H E).nox (C8.fnBody st_run) ts (b_run CH CC R_begun R_gone_on) := by
  have S := sc_run
  have hu64 : (A.deeper (envOfC "run" (C8.fnScope st_run) s.heap.objs.size f cdv)).units + 64 < cLine := by have := hr.un; omega
  have hu65 : (A.deeper (envOfC "run" (C8.fnScope st_run) s.heap.objs.size f cdv)).units + 65 < cLine := by have := hr.un; omega
  have hu1 : (A.deeper (envOfC "run" (C8.fnScope st_run) s.heap.objs.size f cdv)).units + 1 < cLine := by have := hr.un; omega
  exact ⟨_, (ss_cons (s_set 5 S.nd (d_call c_begun hr k_begun (by rfl) (da_cons (dv 0) (da_cons (dv 1) (da_cons (dv 2) (da_cons (dv 4) da_nil))))))
    (ss_cons (s_for 6 S.nd rfl PassesOwn.never (i_list (dv 3)) (ss_cons (s_if (t_cmp o_ne (d_ix (d_fld CH T.c_CH T.a_CH_end (dv 5)) d_int) d_str) (ss_one s_break) ss_nil)
    (ss_one (s_set 5 S.nd (d_call c_gone_on hr k_gone_on (by rfl) (da_cons (dv 5) (da_cons (dv 6) da_nil)))))))
    (ss_one (s_ret (d_tup (da_cons (d_fld CH T.c_CH T.a_CH_end (dv 5)) (da_cons (d_callT c_list (by rfl) T.n_list hb_list (da_cons (d_fld CH T.c_CH T.a_CH_record (dv 5)) da_nil)) (da_cons (d_fld CH T.c_CH T.a_CH_used (dv 5)) da_nil))))))))⟩
/-! _law_take -/
abbrev st_law_take : Stmt := top 36
abbrev N_law_take : List Str := ["_law_state", "_law_many", "_law_found"]
abbrev P_law_take : List Str := ["_law_state", "_law_many"]
theorem sc_law_take : FnScope N_law_take P_law_take (C8.fnScope st_law_take) := C8.fnScope_by (by decide +kernel)
def b_law_take (CH CC : Addr) : DS := (dSeq (dAsg (dOp (i2c (fun _ j => 0 < j) fun i j => .int (i % j)) (dOp dix (dVar 0) (dC (.int 0))) (dVar 1)) 2)
    (dSeq (dSetIx (dOp (i2c CDivW fun i j => .int (i / j)) (dOp dix (dVar 0) (dC (.int 0))) (dVar 1)) (dVar 0) (dC (.int 0)))
    (dRet (dVar 2))))
theorem der_law_take (T : Txt K mg CH CC gr) {k : Nat} {f : Addr} (cdv : Value) (A : Around) (outer : List Env) (s : Shared) (H : Hp) (E : XK) (hr : Room k (A.deeper (envOfC "_law_take" (C8.fnScope st_law_take) s.heap.objs.size f cdv))) :
    ∃ ts, PSsd (cxOf C8.CX0 Pr w K mg base N_law_take "_law_take" (C8.fnScope st_law_take) f cdv A outer s H E).nox (C8.fnBody st_law_take) ts (b_law_take CH CC) := by
  have S := sc_law_take
  have hu64 : (A.deeper (envOfC "_law_take" (C8.fnScope st_law_take) s.heap.objs.size f cdv)).units + 64 < cLine := by have := hr.un; omega
  have hu65 : (A.deeper (envOfC "_law_take" (C8.fnScope st_law_take) s.heap.objs.size f cdv)).units + 65 < cLine := by have := hr.un; omega
  have hu1 : (A.deeper (envOfC "_law_take" (C8.fnScope st_law_take) s.heap.objs.size f cdv)).units + 1 < cLine := by have := hr.un; omega
  exact ⟨_, (ss_cons (s_set 2 S.nd (d_op o_mod (d_ix (dv 0) d_int) (dv 1)))
    (ss_cons (s_setix (dv 0) d_int (d_op o_fdiv (d_ix (dv 0) d_int) (dv 1)))
    (ss_one (s_ret (dv 2)))))⟩
/-! _law_source -/
abbrev st_law_source : Stmt := top 37
abbrev N_law_source : List Str := ["_law_script", "_law_k", "_law_cell", "_law_number", "_law_total", "_law_j"]
abbrev P_law_source : List Str := ["_law_script", "_law_k"]
theorem sc_law_source : FnScope N_law_source P_law_source (C8.fnScope st_law_source) := C8.fnScope_by (by decide +kernel)
def b_law_source_L1 (CH CC : Addr) : DS := (dSeq (dAsg (dOp (i2 fun i j => .int (i + j)) (dOp (i2c CMul fun i j => .int (i * j)) (dVar 3) (dC (.int 6364136223846793005))) (dOp (i2c CMul fun i j => .int (i * j)) (dC (.int 1442695040888963407)) (dOp (i2 fun i j => .int (i + j)) (dOp (i2 fun i j => .int (i + j)) (dVar 1) (dVar 5)) (dC (.int 1))))) 3)
    (dSeq (dAsg (dOp (i2c (fun _ j => 0 < j) fun i j => .int (i % j)) (dVar 3) (dC (.int 2305843009213693951))) 3)
    (dAsg (dOp (i2 fun i j => .int (i + j)) (dOp (i2c CMul fun i j => .int (i * j)) (dVar 4) (dOp (i2c CPow fun i j => .int (i ^ j.toNat)) (dC (.int 2)) (dC (.int 40)))) (dOp (i2c (fun _ j => 0 < j) fun i j => .int (i % j)) (dOp (i2c CMul fun i j => .int (i * j)) (dOp (i2c CDivW fun i j => .int (i / j)) (dVar 3) (dC (.int 1024))) (dOp (i2 fun i j => .int (i + j)) (dOp (i2 fun i j => .int (i + j)) (dOp (i2c (fun _ j => 0 < j) fun i j => .int (i % j)) (dVar 3) (dC (.int 1000003))) (dOp (i2c CMul fun i j => .int (i * j)) (dC (.int 7919)) (dVar 5))) (dC (.int 1)))) (dOp (i2c CPow fun i j => .int (i ^ j.toNat)) (dC (.int 2)) (dC (.int 40))))) 4)))
def b_law_source (CH CC : Addr) : DS := (dSeq (dAsg (dC (.int 0)) 2)
    (dSeq (dIf (dTest (dOp (i2 fun i j => .bl (decide (i < j))) (dVar 1) (dCB drLen (dCons (dVar 0) dNil)))) (dAsg (dOp dix (dVar 0) (dVar 1)) 2) dNext)
    (dSeq (dIf (dAnd (dTest (dOp (i2 fun i j => .bl (decide (j < i))) (dCB drLen (dCons (dVar 0) dNil)) (dC (.int 0)))) (dTest (dOp (deq) (dOp (i2c (fun _ j => 0 < j) fun i j => .int (i % j)) (dOp dix (dVar 0) (dC (.int 0))) (dC (.int 2))) (dC (.int 1))))) (dRet (dLstM (dCons (dCB drAbs (dCons (dVar 2) dNil)) dNil))) dNext)
    (dSeq (dAsg (dOp (i2 fun i j => .int (i + j)) (dOp (i2 fun i j => .int (i + j)) (dOp (i2c (fun _ j => 0 < j) fun i j => .int (i % j)) (dVar 2) (dC (.int 2305843009213693951))) (dOp (i2c CMul fun i j => .int (i * j)) (dC (.int 7919)) (dVar 1))) (dC (.int 5))) 3)
    (dSeq (dAsg (dC (.int 0)) 4)
    (dSeq (dForI 5 (dRange (dC (.int 12))) (b_law_source_L1 CH CC))
    (dRet (dLstM (dCons (dVar 4) dNil)))))))))
theorem der_law_source (T : Txt K mg CH CC gr) {k : Nat} {f : Addr} (cdv : Value) (A : Around) (outer : List Env) (s : Shared) (H : Hp) (E : XK) (hr : Room k (A.deeper (envOfC "_law_source" (C8.fnScope st_law_source) s.heap.objs.size f cdv))) :
    ∃ ts, PSsd (cxOf C8.CX0 Pr w K mg base N_law_source "_law_source" (C8.fnScope st_law_source) f cdv A outer s H E).nox (C8.fnBody st_law_source) ts (b_law_source CH CC) := by
  have S := sc_law_source
  have hu64 : (A.deeper (envOfC "_law_source" (C8.fnScope st_law_source) s.heap.objs.size f cdv)).units + 64 < cLine := by have := hr.un; omega
  have hu65 : (A.deeper (envOfC "_law_source" (C8.fnScope st_law_source) s.heap.objs.size f cdv)).units + 65 < cLine := by have := hr.un; omega
  have hu1 : (A.deeper (envOfC "_law_source" (C8.fnScope st_law_source) s.heap.objs.size f cdv)).units + 1 < cLine := by have := hr.un; omega
  exact ⟨_, (ss_cons (s_set 2 S.nd d_int)
    (ss_cons (s_if (t_cmp o_lt (dv 1) (d_callB c_len (by rfl) T.n_len hb_len (da_cons (dv 0) da_nil))) (ss_one (s_set 2 S.nd (d_ix (dv 0) (dv 1)))) ss_nil)
    (ss_cons (s_if (t_pw (w_and (t_cmp o_gt (d_callB c_len (by rfl) T.n_len hb_len (da_cons (dv 0) da_nil)) d_int) (w_and1 (t_cmp o_eq (d_op o_mod (d_ix (dv 0) d_int) d_int) d_int)))) (ss_one (s_ret (d_lstM (da_cons (d_callB c_abs (by rfl) T.n_abs hb_abs (da_cons (dv 2) da_nil)) da_nil)))) ss_nil)
    (ss_cons (s_set 3 S.nd (d_op o_add (d_op o_add (d_op o_mod (dv 2) d_int) (d_op o_mul d_int (dv 1))) d_int))
    (ss_cons (s_set 4 S.nd d_int)
    (ss_cons (s_for 5 S.nd rfl PassesOwn.never (i_range (by rfl) T.n_range d_int) (ss_cons (s_set 3 S.nd (d_op o_add (d_op o_mul (dv 3) d_int) (d_op o_mul d_int (d_op o_add (d_op o_add (dv 1) (dv 5)) d_int))))
    (ss_cons (s_set 3 S.nd (d_op o_mod (dv 3) d_int))
    (ss_one (s_set 4 S.nd (d_op o_add (d_op o_mul (dv 4) (d_op o_pow d_int d_int)) (d_op o_mod (d_op o_mul (d_op o_fdiv (dv 3) d_int) (d_op o_add (d_op o_add (d_op o_mod (dv 3) d_int) (d_op o_mul d_int (dv 5))) d_int)) (d_op o_pow d_int d_int))))))))
    (ss_one (s_ret (d_lstM (da_cons (dv 4) da_nil))))))))))⟩
/-! _law_fresh -/
abbrev st_law_fresh : Stmt := top 38
abbrev N_law_fresh : List Str := ["_law_state", "_law_taken", "_law_letters", "_law_names", "_law_k", "_law_name", "_law_begin"]
abbrev P_law_fresh : List Str := ["_law_state", "_law_taken"]
theorem sc_law_fresh : FnScope N_law_fresh P_law_fresh (C8.fnScope st_law_fresh) := C8.fnScope_by (by decide +kernel)
def b_law_fresh_L1 (CH CC : Addr) (R_law_take : DR) : DS := (dSeq (dIf (dTest (dOp (dinS true) (dVar 5) (dVar 3))) dBreak dNext)
    (dAsg (dOp (dcatS) (dOp (dcatS) (dVar 6) (dOp dix (dVar 2) (dOp (i2c CDivW fun i j => .int (i / j)) (dVar 4) (dC (.int 26))))) (dOp dix (dVar 2) (dOp (i2c (fun _ j => 0 < j) fun i j => .int (i % j)) (dVar 4) (dC (.int 26))))) 5))
def b_law_fresh (CH CC : Addr) (R_law_take : DR) : DS := (dSeq (dAsg (dC (.str "abcdefghijklmnopqrstuvwxyz")) 2)
    (dSeq (dAsg (dOp (dcatL) (dLst (dCons (dC (.str "def")) (dCons (dC (.str "handler")) (dCons (dC (.str "on")) (dCons (dC (.str "end")) (dCons (dC (.str "let")) (dCons (dC (.str "if")) (dCons (dC (.str "call")) (dCons (dC (.str "hand")) (dCons (dC (.str "do")) (dCons (dC (.str "handle")) (dCons (dC (.str "go")) (dCons (dC (.str "guard")) dNil))))))))))))) (dVar 1)) 3)
    (dSeq (dAsg (dJoin (dC (.str "")) (dLc 4 (dRange (dOp (i2 fun i j => .int (i + j)) (dC (.int 1)) (dCall R_law_take (dCons (dVar 0) (dCons (dC (.int 8)) dNil))))) dYes (dOp dix (dVar 2) (dCall R_law_take (dCons (dVar 0) (dCons (dC (.int 26)) dNil)))))) 5)
    (dSeq (dAsg (dSl (dVar 5) dNoP (dPart (dC (.int 6)))) 6)
    (dSeq (dForI 4 (dRange (dC (.int 676))) (b_law_fresh_L1 CH CC R_law_take))
    (dRet (dVar 5)))))))
theorem der_law_fresh (T : Txt K mg CH CC gr) {k : Nat} {f : Addr} {R_law_take : DR} {l_law_take : Nat} (c_law_take : C8.Cal Pr w K mg base l_law_take "_law_take" (spD R_law_take) []) (k_law_take : l_law_take ≤ k) (cdv : Value) (A : Around) (outer : List Env) (s : Shared) (H : Hp) (E : XK) (hr : Room k (A.deeper (envOfC "_law_fresh" (C8.fnScope st_law_fresh) s.heap.objs.size f cdv))) :
    ∃ ts, PSsd (cxOf C8.CX0 Pr w K mg base N_law_fresh "_law_fresh" (C8.fnScope st_law_fresh) f cdv A outer s H E).nox (C8.fnBody st_law_fresh) ts (b_law_fresh CH CC R_law_take) := by
  have S := sc_law_fresh
  have hu64 : (A.deeper (envOfC "_law_fresh" (C8.fnScope st_law_fresh) s.heap.objs.size f cdv)).units + 64 < cLine := by have := hr.un; omega
  have hu65 : (A.deeper (envOfC "_law_fresh" (C8.fnScope st_law_fresh) s.heap.objs.size f cdv)).units + 65 < cLine := by have := hr.un; omega
  have hu1 : (A.deeper (envOfC "_law_fresh" (C8.fnScope st_law_fresh) s.heap.objs.size f cdv)).units + 1 < cLine := by have := hr.un; omega
  exact ⟨_, (ss_cons (s_set 2 S.nd d_str)
    (ss_cons (s_set 3 S.nd (d_op o_catL (d_lst (da_cons d_str (da_cons d_str (da_cons d_str (da_cons d_str (da_cons d_str (da_cons d_str (da_cons d_str (da_cons d_str (da_cons d_str (da_cons d_str (da_cons d_str (da_cons d_str da_nil))))))))))))) (dv 1)))
    (ss_cons (s_set 5 S.nd (d_join d_str (d_lc 4 rfl S.nd (i_range (by rfl) T.n_range (d_op o_add d_int (d_call c_law_take hr k_law_take (by rfl) (da_cons (dv 0) (da_cons d_int da_nil))))) (blkOk_by (N := N_law_fresh) (sc := C8.fnScope st_law_fresh) (by decide +kernel)) (fun s H C cl fp => pg_name (i := 4) S.nd rfl (.inl rfl)) (fun s H C cl fp => ts_nil) (fun s H C cl fp => (d_ixK K rfl (dv 2) (d_call c_law_take hr k_law_take (by rfl) (da_cons (dv 0) (da_cons d_int da_nil))))))))
    (ss_cons (s_set 6 S.nd (d_sl (dv 5) do_none (do_some d_int)))
    (ss_cons (s_for 4 S.nd rfl PassesOwn.never (i_range (by rfl) T.n_range d_int) (ss_cons (s_if (t_cmp o_notIn (dv 5) (dv 3) (by with_unfolding_all rfl)) (ss_one s_break) ss_nil)
    (ss_one (s_set 5 S.nd (d_op o_catS (d_op o_catS (dv 6) (d_ix (dv 2) (d_op o_fdiv (dv 4) d_int))) (d_ix (dv 2) (d_op o_mod (dv 4) d_int)))))))
    (ss_one (s_ret (dv 5))))))))⟩
/-! _law_heads -/
abbrev st_law_heads : Stmt := top 39
abbrev N_law_heads : List Str := ["_law_cells", "_law_names", "_law_words", "_law_heads_here", "_law_k", "_law_sort", "_law_start", "_law_many", "_law_params", "_law_block"]
abbrev P_law_heads : List Str := ["_law_cells", "_law_names", "_law_words"]
theorem sc_law_heads : FnScope N_law_heads P_law_heads (C8.fnScope st_law_heads) := C8.fnScope_by (by decide +kernel)
def b_law_heads_u1 (CH CC : Addr) (R_law_take : DR) (R_law_fresh : DR) : DS := (dDrop (dAppT (dVar 3) (dTup (dCons (dC (.str "def")) (dCons (dOp dix (dVar 1) (dVar 4)) (dCons (dCB drTuple (dCons (dVar 8) dNil)) (dCons (dVar 9) dNil)))))))
def b_law_heads_u2 (CH CC : Addr) (R_law_take : DR) (R_law_fresh : DR) : DS := (dSeq (dIf (dAnd (dTest (dOp (deq) (dVar 5) (dC (.int 2)))) (dTest (dOp (i2 fun i j => .bl (decide (j < i))) (dVar 4) (dC (.int 0))))) (dAsg (dCall R_law_fresh (dCons (dOp dix (dVar 0) (dVar 4)) (dCons (dOp (dcatL) (dVar 1) (dVar 8)) dNil))) 9) dNext)
    (b_law_heads_u1 CH CC R_law_take R_law_fresh))
def b_law_heads_u3 (CH CC : Addr) (R_law_take : DR) (R_law_fresh : DR) : DS := (dSeq (dAsg (dC .non) 9)
    (b_law_heads_u2 CH CC R_law_take R_law_fresh))
def b_law_heads_u4 (CH CC : Addr) (R_law_take : DR) (R_law_fresh : DR) : DS := (dSeq (dAsg (dSl (dOp (dcatL) (dVar 2) (dVar 2)) (dPart (dVar 6)) (dPart (dOp (i2 fun i j => .int (i + j)) (dVar 6) (dVar 7)))) 8)
    (b_law_heads_u3 CH CC R_law_take R_law_fresh))
def b_law_heads_u5 (CH CC : Addr) (R_law_take : DR) (R_law_fresh : DR) : DS := (dSeq (dAsg (dCall R_law_take (dCons (dOp dix (dVar 0) (dVar 4)) (dCons (dOp dix (dLst (dCons (dC (.int 3)) (dCons (dC (.int 9)) dNil))) (dOp (i2c CMul fun i j => .int (i * j)) (dOp (i2c CDivW fun i j => .int (i / j)) (dCall R_law_take (dCons (dOp dix (dVar 0) (dVar 4)) (dCons (dC (.int 4)) dNil))) (dC (.int 3))) (dCB drInt (dCons (dOp (i2 fun i j => .bl (decide (i < j))) (dCB drLen (dCons (dVar 1) dNil)) (dC (.int 7))) dNil)))) dNil))) 7)
    (b_law_heads_u4 CH CC R_law_take R_law_fresh))
def b_law_heads_u6 (CH CC : Addr) (R_law_take : DR) (R_law_fresh : DR) : DS := (dIf (dAnd (dTest (dOp (i2 fun i j => .bl (decide (j < i))) (dVar 5) (dC (.int 2)))) (dTest (dOp (i2 fun i j => .bl (decide (j < i))) (dVar 4) (dC (.int 0))))) (dDrop (dAppT (dVar 3) (dTup (dCons (dC (.str "handler")) (dCons (dOp dix (dVar 1) (dVar 4)) dNil))))) (dSeq (dAsg (dCall R_law_take (dCons (dOp dix (dVar 0) (dVar 4)) (dCons (dC (.int 8)) dNil))) 6)
    (b_law_heads_u5 CH CC R_law_take R_law_fresh)))
def b_law_heads_L1 (CH CC : Addr) (R_law_take : DR) (R_law_fresh : DR) : DS := (dSeq (dAsg (dCall R_law_take (dCons (dOp dix (dVar 0) (dVar 4)) (dCons (dC (.int 5)) dNil))) 5)
    (b_law_heads_u6 CH CC R_law_take R_law_fresh))
def b_law_heads_t2 (CH CC : Addr) (R_law_take : DR) (R_law_fresh : DR) : DS := (dFrz 3 (dRet (dVar 3)))
def b_law_heads_t1 (CH CC : Addr) (R_law_take : DR) (R_law_fresh : DR) : DS := (dSeq (dForI 4 (dRange (dCB drLen (dCons (dVar 1) dNil))) (b_law_heads_L1 CH CC R_law_take R_law_fresh))
    (b_law_heads_t2 CH CC R_law_take R_law_fresh))
def b_law_heads (CH CC : Addr) (R_law_take : DR) (R_law_fresh : DR) : DS := (dSeq (dAsg (dLstM dNil) 3)
    (b_law_heads_t1 CH CC R_law_take R_law_fresh))
theorem der_law_heads (T : Txt K mg CH CC gr) {k : Nat} {f : Addr} {R_law_take : DR} {l_law_take : Nat} (c_law_take : C8.Cal Pr w K mg base l_law_take "_law_take" (spD R_law_take) []) (k_law_take : l_law_take ≤ k) {R_law_fresh : DR} {l_law_fresh : Nat} (c_law_fresh : C8.Cal Pr w K mg base l_law_fresh "_law_fresh" (spD R_law_fresh) []) (k_law_fresh : l_law_fresh ≤ k) (cdv : Value) (A : Around) (outer : List Env) (s : Shared) (H : Hp) (E : XK) (hr : Room k (A.deeper (envOfC "_law_heads" (C8.fnScope st_law_heads) s.heap.objs.size f cdv))) :
    ∃ ts, PSsd (cxOf C8.CX0 Pr w K mg base N_law_heads "_law_heads" (C8.fnScope st_law_heads) f cdv A outer s H E).nox (C8.fnBody st_law_heads) ts (b_law_heads CH CC R_law_take R_law_fresh) := by
  have S := sc_law_heads
  have hu64 : (A.deeper (envOfC "_law_heads" (C8.fnScope st_law_heads) s.heap.objs.size f cdv)).units + 64 < cLine := by have := hr.un; omega
  have hu65 : (A.deeper (envOfC "_law_heads" (C8.fnScope st_law_heads) s.heap.objs.size f cdv)).units + 65 < cLine := by have := hr.un; omega
  have hu1 : (A.deeper (envOfC "_law_heads" (C8.fnScope st_law_heads) s.heap.objs.size f cdv)).units + 1 < cLine := by have := hr.un; omega
  exact ⟨_, (ss_cons (s_set 3 S.nd (d_lstM da_nil))
    (ss_cons (s_for 4 S.nd rfl PassesOwn.never (i_range (by rfl) T.n_range (d_callB c_len (by rfl) T.n_len hb_len (da_cons (dv 1) da_nil))) (ss_cons (s_set 5 S.nd (d_call c_law_take hr k_law_take (by rfl) (da_cons (d_ix (dv 0) (dv 4)) (da_cons d_int da_nil))))
    (ss_one (s_if (t_pw (w_and (t_cmp o_gt (dv 5) d_int) (w_and1 (t_cmp o_gt (dv 4) d_int)))) (ss_one (s_expr (d_app (dv 3) (d_tup (da_cons d_str (da_cons (d_ix (dv 1) (dv 4)) da_nil)))))) (ss_cons (s_set 6 S.nd (d_call c_law_take hr k_law_take (by rfl) (da_cons (d_ix (dv 0) (dv 4)) (da_cons d_int da_nil))))
    (ss_cons (s_set 7 S.nd (d_call c_law_take hr k_law_take (by rfl) (da_cons (d_ix (dv 0) (dv 4)) (da_cons (d_ix (d_lst (da_cons d_int (da_cons d_int da_nil))) (d_op o_mul (d_op o_fdiv (d_call c_law_take hr k_law_take (by rfl) (da_cons (d_ix (dv 0) (dv 4)) (da_cons d_int da_nil))) d_int) (d_callT c_int (by rfl) T.n_int hb_int (da_cons (d_cmp o_lt (d_callB c_len (by rfl) T.n_len hb_len (da_cons (dv 1) da_nil)) d_int) da_nil)))) da_nil))))
    (ss_cons (s_set 8 S.nd (d_sl (d_op o_catL (dv 2) (dv 2)) (do_some (dv 6)) (do_some (d_op o_add (dv 6) (dv 7)))))
    (ss_cons (s_set 9 S.nd d_non)
    (ss_cons (s_if (t_pw (w_and (t_cmp o_eq (dv 5) d_int) (w_and1 (t_cmp o_gt (dv 4) d_int)))) (ss_one (s_set 9 S.nd (d_call c_law_fresh hr k_law_fresh (by rfl) (da_cons (d_ix (dv 0) (dv 4)) (da_cons (d_op o_catL (dv 1) (dv 8)) da_nil))))) ss_nil)
    (ss_one (s_expr (d_app (dv 3) (d_tup (da_cons d_str (da_cons (d_ix (dv 1) (dv 4)) (da_cons (d_callT c_tuple (by rfl) T.n_tuple hb_tuple (da_cons (dv 8) da_nil)) (da_cons (dv 9) da_nil)))))))))))))))))
    (ss_frz 3 (ss_one (s_ret (dv 3))))))⟩
/-! _law_number_by -/
abbrev st_law_number_by : Stmt := top 40
abbrev N_law_number_by : List Str := ["_law_state", "_law_pick"]
abbrev P_law_number_by : List Str := ["_law_state"]
theorem sc_law_number_by : FnScope N_law_number_by P_law_number_by (C8.fnScope st_law_number_by) := C8.fnScope_by (by decide +kernel)
def b_law_number_by (CH CC : Addr) (R_law_take : DR) : DS := (dSeq (dAsg (dCall R_law_take (dCons (dVar 0) (dCons (dC (.int 8)) dNil))) 1)
    (dSeq (dIf (dTest (dOp (deq) (dVar 1) (dC (.int 0)))) (dRet (dCall R_law_take (dCons (dVar 0) (dCons (dOp (i2c CPow fun i j => .int (i ^ j.toNat)) (dC (.int 10)) (dC (.int 18))) dNil)))) dNext)
    (dSeq (dIf (dTest (dOp (deq) (dVar 1) (dC (.int 1)))) (dRet (dOp (i2 fun i j => .int (i - j)) (dOp (i2 fun i j => .int (i - j)) (dOp (i2c CPow fun i j => .int (i ^ j.toNat)) (dC (.int 10)) (dC (.int 18))) (dC (.int 1))) (dCall R_law_take (dCons (dVar 0) (dCons (dC (.int 3)) dNil))))) dNext)
    (dRet (dCall R_law_take (dCons (dVar 0) (dCons (dC (.int 6)) dNil)))))))
theorem der_law_number_by (T : Txt K mg CH CC gr) {k : Nat} {f : Addr} {R_law_take : DR} {l_law_take : Nat} (c_law_take : C8.Cal Pr w K mg base l_law_take "_law_take" (spD R_law_take) []) (k_law_take : l_law_take ≤ k) (cdv : Value) (A : Around) (outer : List Env) (s : Shared) (H : Hp) (E : XK) (hr : Room k (A.deeper (envOfC "_law_number_by" (C8.fnScope st_law_number_by) s.heap.objs.size f cdv))) :
    ∃ ts, PSsd (cxOf C8.CX0 Pr w K mg base N_law_number_by "_law_number_by" (C8.fnScope st_law_number_by) f cdv A outer s H E).nox (C8.fnBody st_law_number_by) ts (b_law_number_by CH CC R_law_take) := by
  have S := sc_law_number_by
  have hu64 : (A.deeper (envOfC "_law_number_by" (C8.fnScope st_law_number_by) s.heap.objs.size f cdv)).units + 64 < cLine := by have := hr.un; omega
  have hu65 : (A.deeper (envOfC "_law_number_by" (C8.fnScope st_law_number_by) s.heap.objs.size f cdv)).units + 65 < cLine := by have := hr.un; omega
  have hu1 : (A.deeper (envOfC "_law_number_by" (C8.fnScope st_law_number_by) s.heap.objs.size f cdv)).units + 1 < cLine := by have := hr.un; omega
  exact ⟨_, (ss_cons (s_set 1 S.nd (d_call c_law_take hr k_law_take (by rfl) (da_cons (dv 0) (da_cons d_int da_nil))))
    (ss_cons (s_if (t_cmp o_eq (dv 1) d_int) (ss_one (s_ret (d_call c_law_take hr k_law_take (by rfl) (da_cons (dv 0) (da_cons (d_op o_pow d_int d_int) da_nil))))) ss_nil)
    (ss_cons (s_if (t_cmp o_eq (dv 1) d_int) (ss_one (s_ret (d_op o_sub (d_op o_sub (d_op o_pow d_int d_int) d_int) (d_call c_law_take hr k_law_take (by rfl) (da_cons (dv 0) (da_cons d_int da_nil)))))) ss_nil)
    (ss_one (s_ret (d_call c_law_take hr k_law_take (by rfl) (da_cons (dv 0) (da_cons d_int da_nil))))))))⟩
/-! _law_leaf -/
abbrev st_law_leaf : Stmt := top 41
abbrev N_law_leaf : List Str := ["_law_state", "_law_known"]
abbrev P_law_leaf : List Str := ["_law_state", "_law_known"]
theorem sc_law_leaf : FnScope N_law_leaf P_law_leaf (C8.fnScope st_law_leaf) := C8.fnScope_by (by decide +kernel)
def b_law_leaf (CH CC : Addr) (R_law_take : DR) (R_law_number_by : DR) : DS := (dSeq (dIf (dAnd (dTest (dOp (dneNil) (dVar 1) (dLst dNil))) (dTest (dOp (i2 fun i j => .bl (decide (j < i))) (dCall R_law_take (dCons (dVar 0) (dCons (dC (.int 4)) dNil))) (dC (.int 0))))) (dRet (dTup (dCons (dC (.str "var")) (dCons (dOp dix (dVar 1) (dCall R_law_take (dCons (dVar 0) (dCons (dCB drLen (dCons (dVar 1) dNil)) dNil)))) dNil)))) dNext)
    (dRet (dTup (dCons (dC (.str "num")) (dCons (dCall R_law_number_by (dCons (dVar 0) dNil)) dNil)))))
theorem der_law_leaf (T : Txt K mg CH CC gr) {k : Nat} {f : Addr} {R_law_take : DR} {l_law_take : Nat} (c_law_take : C8.Cal Pr w K mg base l_law_take "_law_take" (spD R_law_take) []) (k_law_take : l_law_take ≤ k) {R_law_number_by : DR} {l_law_number_by : Nat} (c_law_number_by : C8.Cal Pr w K mg base l_law_number_by "_law_number_by" (spD R_law_number_by) []) (k_law_number_by : l_law_number_by ≤ k) (cdv : Value) (A : Around) (outer : List Env) (s : Shared) (H : Hp) (E : XK) (hr : Room k (A.deeper (envOfC "_law_leaf" (C8.fnScope st_law_leaf) s.heap.objs.size f cdv))) :
    ∃ ts, PSsd (cxOf C8.CX0 Pr w K mg base N_law_leaf "_law_leaf" (C8.fnScope st_law_leaf) f cdv A outer s H E).nox (C8.fnBody st_law_leaf) ts (b_law_leaf CH CC R_law_take R_law_number_by) := by
  have S := sc_law_leaf
  have hu64 : (A.deeper (envOfC "_law_leaf" (C8.fnScope st_law_leaf) s.heap.objs.size f cdv)).units + 64 < cLine := by have := hr.un; omega
  have hu65 : (A.deeper (envOfC "_law_leaf" (C8.fnScope st_law_leaf) s.heap.objs.size f cdv)).units + 65 < cLine := by have := hr.un; omega
  have hu1 : (A.deeper (envOfC "_law_leaf" (C8.fnScope st_law_leaf) s.heap.objs.size f cdv)).units + 1 < cLine := by have := hr.un; omega
  exact ⟨_, (ss_cons (s_if (t_pw (w_and (t_cmp (o_neNil (hu64)) (dv 1) (d_lst da_nil)) (w_and1 (t_cmp o_gt (d_call c_law_take hr k_law_take (by rfl) (da_cons (dv 0) (da_cons d_int da_nil))) d_int)))) (ss_one (s_ret (d_tup (da_cons d_str (da_cons (d_ix (dv 1) (d_call c_law_take hr k_law_take (by rfl) (da_cons (dv 0) (da_cons (d_callB c_len (by rfl) T.n_len hb_len (da_cons (dv 1) da_nil)) da_nil)))) da_nil))))) ss_nil)
    (ss_one (s_ret (d_tup (da_cons d_str (da_cons (d_call c_law_number_by hr k_law_number_by (by rfl) (da_cons (dv 0) da_nil)) da_nil))))))⟩
/-! _law_call_by -/
abbrev st_law_call_by : Stmt := top 42
abbrev N_law_call_by : List Str := ["_law_state", "_law_deep", "_law_known", "_law_here", "_law_world", "_law_block", "_law_head", "_law_some", "_law_one", "_law_plain", "_law_handed", "_law_param"]
abbrev P_law_call_by : List Str := ["_law_state", "_law_deep", "_law_known", "_law_here", "_law_world"]
theorem sc_law_call_by : FnScope N_law_call_by P_law_call_by (C8.fnScope st_law_call_by) := C8.fnScope_by (by decide +kernel)
def b_law_call_by_t9 (CH CC : Addr) (R_law_take : DR) (R_law_tree : DR) : DS := (dRet (dTup (dCons (dC (.str "call")) (dCons (dOp dix (dVar 6) (dC (.int 1))) (dCons (dVar 10) (dCons (dCB drTuple (dCons (dLc 11 (dTuple (dOp dix (dVar 6) (dC (.int 2)))) dYes (dCall R_law_tree (dCons (dVar 0) (dCons (dVar 1) (dCons (dVar 2) (dCons (dVar 3) (dCons (dVar 4) dNil))))))) dNil)) dNil))))))
def b_law_call_by_t8 (CH CC : Addr) (R_law_take : DR) (R_law_tree : DR) : DS := (dSeq (dIf (dTest (dOp (dnotN) (dOp dix (dVar 6) (dC (.int 3))) (dC .non))) (dAsg (dOp dix (dVar 9) (dCall R_law_take (dCons (dVar 0) (dCons (dCB drLen (dCons (dVar 9) dNil)) dNil)))) 10) dNext)
    (b_law_call_by_t9 CH CC R_law_take R_law_tree))
def b_law_call_by_t7 (CH CC : Addr) (R_law_take : DR) (R_law_tree : DR) : DS := (dSeq (dAsg (dC .non) 10)
    (b_law_call_by_t8 CH CC R_law_take R_law_tree))
def b_law_call_by_t6 (CH CC : Addr) (R_law_take : DR) (R_law_tree : DR) : DS := (dSeq (dIf (dAnd (dTest (dOp (dnotN) (dOp dix (dVar 6) (dC (.int 3))) (dC .non))) (dTest (dOp (deqNil) (dVar 9) (dLst dNil)))) (dAsg (dOp dix (dVar 7) (dC (.int 0))) 6) dNext)
    (b_law_call_by_t7 CH CC R_law_take R_law_tree))
def b_law_call_by_t5 (CH CC : Addr) (R_law_take : DR) (R_law_tree : DR) : DS := (dSeq (dIf (dTest (dOp (dnotN) (dVar 5) (dC .non))) (dDrop (dAppT (dVar 9) (dVar 5))) dNext)
    (b_law_call_by_t6 CH CC R_law_take R_law_tree))
def b_law_call_by_t4 (CH CC : Addr) (R_law_take : DR) (R_law_tree : DR) : DS := (dSeq (dAsg (dLcM 8 (dList (dVar 7)) (dAnd (dTest (dOp (deq) (dCB drLen (dCons (dOp dix (dVar 8) (dC (.int 2))) dNil)) (dC (.int 1)))) (dTest (dOp (disN) (dOp dix (dVar 8) (dC (.int 3))) (dC .non)))) (dOp dix (dVar 8) (dC (.int 1)))) 9)
    (b_law_call_by_t5 CH CC R_law_take R_law_tree))
def b_law_call_by_t3 (CH CC : Addr) (R_law_take : DR) (R_law_tree : DR) : DS := (dSeq (dAsg (dOp dix (dVar 7) (dCall R_law_take (dCons (dVar 0) (dCons (dCB drLen (dCons (dVar 7) dNil)) dNil)))) 6)
    (b_law_call_by_t4 CH CC R_law_take R_law_tree))
def b_law_call_by_t2 (CH CC : Addr) (R_law_take : DR) (R_law_tree : DR) : DS := (dSeq (dAsg (dLc 6 (dList (dDGet (dVar 4) (dC (.str "heads")))) (dTest (dOp (deq) (dOp dix (dVar 6) (dC (.int 0))) (dC (.str "def")))) (dVar 6)) 7)
    (b_law_call_by_t3 CH CC R_law_take R_law_tree))
def b_law_call_by_t1 (CH CC : Addr) (R_law_take : DR) (R_law_tree : DR) : DS := (dSeq (dIf (dAnd (dTest (dOp (dnotN) (dVar 5) (dC .non))) (dTest (dOp (deq) (dCall R_law_take (dCons (dVar 0) (dCons (dC (.int 2)) dNil))) (dC (.int 0))))) (dRet (dTup (dCons (dC (.str "call")) (dCons (dVar 5) (dCons (dC .non) (dCons (dTup (dCons (dCall R_law_tree (dCons (dVar 0) (dCons (dVar 1) (dCons (dVar 2) (dCons (dVar 3) (dCons (dVar 4) dNil)))))) dNil)) dNil)))))) dNext)
    (b_law_call_by_t2 CH CC R_law_take R_law_tree))
def b_law_call_by (CH CC : Addr) (R_law_take : DR) (R_law_tree : DR) : DS := (dSeq (dAsg (dOp dix (dVar 3) (dC (.int 2))) 5)
    (b_law_call_by_t1 CH CC R_law_take R_law_tree))
theorem der_law_call_by (T : Txt K mg CH CC gr) {k : Nat} {f : Addr} {R_law_take : DR} {l_law_take : Nat} (c_law_take : C8.Cal Pr w K mg base l_law_take "_law_take" (spD R_law_take) []) (k_law_take : l_law_take ≤ k) {R_law_tree : DR} {l_law_tree : Nat} (c_law_tree : C8.Cal Pr w K mg base l_law_tree "_law_tree" (spD R_law_tree) []) (k_law_tree : l_law_tree ≤ k) (cdv : Value) (A : Around) (outer : List Env) (s : Shared) (H : Hp) (E : XK) (hr : Room k (A.deeper (envOfC "_law_call_by" (C8.fnScope st_law_call_by) s.heap.objs.size f cdv))) :
    ∃ ts, PSsd (cxOf C8.CX0 Pr w K mg base N_law_call_by "_law_call_by" (C8.fnScope st_law_call_by) f cdv A outer s H E).nox (C8.fnBody st_law_call_by) ts (b_law_call_by CH CC R_law_take R_law_tree) := by
  have S := sc_law_call_by
  have hu64 : (A.deeper (envOfC "_law_call_by" (C8.fnScope st_law_call_by) s.heap.objs.size f cdv)).units + 64 < cLine := by have := hr.un; omega
  have hu65 : (A.deeper (envOfC "_law_call_by" (C8.fnScope st_law_call_by) s.heap.objs.size f cdv)).units + 65 < cLine := by have := hr.un; omega
  have hu1 : (A.deeper (envOfC "_law_call_by" (C8.fnScope st_law_call_by) s.heap.objs.size f cdv)).units + 1 < cLine := by have := hr.un; omega
  exact ⟨_, (ss_cons (s_set 5 S.nd (d_ix (dv 3) d_int))
    (ss_cons (s_if (t_pw (w_and (t_cmp o_notN (dv 5) d_non) (w_and1 (t_cmp o_eq (d_call c_law_take hr k_law_take (by rfl) (da_cons (dv 0) (da_cons d_int da_nil))) d_int)))) (ss_one (s_ret (d_tup (da_cons d_str (da_cons (dv 5) (da_cons d_non (da_cons (d_tup (da_cons (d_call c_law_tree hr k_law_tree (by rfl) (da_cons (dv 0) (da_cons (dv 1) (da_cons (dv 2) (da_cons (dv 3) (da_cons (dv 4) da_nil)))))) da_nil)) da_nil))))))) ss_nil)
    (ss_cons (s_setLc 7 6 rfl S.nd (i_list (d_dget hu1 (dv 4) d_str)) (blkOk_by (N := N_law_call_by) (sc := C8.fnScope st_law_call_by) (by decide +kernel)) (fun s H C cl fp => pg_name (i := 6) S.nd rfl (.inl rfl)) (fun s H C cl fp => (ts_one (t_cmp o_eq (d_ixK K rfl (dv 6) d_int) d_str))) (fun s H C cl fp => (dv 6)))
    (ss_cons (s_set 6 S.nd (d_ix (dv 7) (d_call c_law_take hr k_law_take (by rfl) (da_cons (dv 0) (da_cons (d_callB c_len (by rfl) T.n_len hb_len (da_cons (dv 7) da_nil)) da_nil)))))
    (ss_cons (s_setLcM 9 8 rfl S.nd (i_list (dv 7)) (blkOk_by (N := N_law_call_by) (sc := C8.fnScope st_law_call_by) (by decide +kernel)) (fun s H C cl fp => pg_name (i := 8) S.nd rfl (.inl rfl)) (fun s H C cl fp => (ts_one (t_pw (w_and (t_cmp o_eq (d_callB (c_lenK K rfl) (by rfl) T.n_len hb_len (da_cons (d_ixK K rfl (dv 8) d_int) da_nil)) d_int) (w_and1 (t_cmp o_isN (d_ixK K rfl (dv 8) d_int) d_non)))))) (fun s H C cl fp => (d_ixK K rfl (dv 8) d_int)))
    (ss_cons (s_if (t_cmp o_notN (dv 5) d_non) (ss_one (s_expr (d_app (dv 9) (dv 5)))) ss_nil)
    (ss_cons (s_if (t_pw (w_and (t_cmp o_notN (d_ix (dv 6) d_int) d_non) (w_and1 (t_cmp (o_eqNil (hu64)) (dv 9) (d_lst da_nil))))) (ss_one (s_set 6 S.nd (d_ix (dv 7) d_int))) ss_nil)
    (ss_cons (s_set 10 S.nd d_non)
    (ss_cons (s_if (t_cmp o_notN (d_ix (dv 6) d_int) d_non) (ss_one (s_set 10 S.nd (d_ix (dv 9) (d_call c_law_take hr k_law_take (by rfl) (da_cons (dv 0) (da_cons (d_callB c_len (by rfl) T.n_len hb_len (da_cons (dv 9) da_nil)) da_nil)))))) ss_nil)
    (ss_one (s_ret (d_tup (da_cons d_str (da_cons (d_ix (dv 6) d_int) (da_cons (dv 10) (da_cons (d_callT c_tuple (by rfl) T.n_tuple hb_tuple (da_cons (d_lc 11 rfl S.nd (i_tuple (d_ix (dv 6) d_int)) (blkOk_by (N := N_law_call_by) (sc := C8.fnScope st_law_call_by) (by decide +kernel)) (fun s H C cl fp => pg_name (i := 11) S.nd rfl (.inl rfl)) (fun s H C cl fp => ts_nil) (fun s H C cl fp => (d_call c_law_tree hr k_law_tree (by rfl) (da_cons (dv 0) (da_cons (dv 1) (da_cons (dv 2) (da_cons (dv 3) (da_cons (dv 4) da_nil)))))))) da_nil)) da_nil))))))))))))))))⟩
/-! _law_tree -/
abbrev st_law_tree : Stmt := top 43
abbrev N_law_tree : List Str := ["_law_state", "_law_deep", "_law_known", "_law_here", "_law_world", "_law_kind", "_law_deed", "_law_head", "_law_stood", "_law_name", "_law_sign", "_law_number", "_law_one", "_law_other"]
abbrev P_law_tree : List Str := ["_law_state", "_law_deep", "_law_known", "_law_here", "_law_world"]
theorem sc_law_tree : FnScope N_law_tree P_law_tree (C8.fnScope st_law_tree) := C8.fnScope_by (by decide +kernel)
def b_law_tree_t16 (CH CC : Addr) (R_law_take : DR) (R_law_leaf : DR) (R_law_call_by : DR) (R_law_tree : DR) : DS := (dRet (dTup (dCons (dC (.str "op")) (dCons (dVar 10) (dCons (dVar 12) (dCons (dVar 13) dNil))))))
def b_law_tree_t15 (CH CC : Addr) (R_law_take : DR) (R_law_leaf : DR) (R_law_call_by : DR) (R_law_tree : DR) : DS := (dSeq (dIf (dTest (dOp (deq) (dVar 5) (dC (.int 13)))) (dRet (dTup (dCons (dC (.str "if")) (dCons (dVar 12) (dCons (dVar 13) (dCons (dCall R_law_tree (dCons (dVar 0) (dCons (dOp (i2 fun i j => .int (i - j)) (dVar 1) (dC (.int 1))) (dCons (dVar 2) (dCons (dVar 3) (dCons (dVar 4) dNil)))))) dNil)))))) dNext)
    (b_law_tree_t16 CH CC R_law_take R_law_leaf R_law_call_by R_law_tree))
def b_law_tree_t14 (CH CC : Addr) (R_law_take : DR) (R_law_leaf : DR) (R_law_call_by : DR) (R_law_tree : DR) : DS := (dSeq (dIf (dTest (dOp (deq) (dVar 5) (dC (.int 12)))) (dRet (dTup (dCons (dC (.str "guard")) (dCons (dVar 12) (dCons (dVar 13) dNil))))) dNext)
    (b_law_tree_t15 CH CC R_law_take R_law_leaf R_law_call_by R_law_tree))
def b_law_tree_t13 (CH CC : Addr) (R_law_take : DR) (R_law_leaf : DR) (R_law_call_by : DR) (R_law_tree : DR) : DS := (dSeq (dIf (dAnd (dTest (dOp (i2 fun i j => .bl (decide (i < j))) (dVar 5) (dC (.int 12)))) (dTest (dOp dix (dVar 3) (dC (.int 0))))) (dRet (dTup (dCons (dC (.str "go")) (dCons (dVar 12) (dCons (dVar 13) dNil))))) dNext)
    (b_law_tree_t14 CH CC R_law_take R_law_leaf R_law_call_by R_law_tree))
def b_law_tree_t12 (CH CC : Addr) (R_law_take : DR) (R_law_leaf : DR) (R_law_call_by : DR) (R_law_tree : DR) : DS := (dSeq (dAsg (dCall R_law_tree (dCons (dVar 0) (dCons (dOp (i2 fun i j => .int (i - j)) (dVar 1) (dC (.int 1))) (dCons (dVar 2) (dCons (dVar 3) (dCons (dVar 4) dNil)))))) 13)
    (b_law_tree_t13 CH CC R_law_take R_law_leaf R_law_call_by R_law_tree))
def b_law_tree_t11 (CH CC : Addr) (R_law_take : DR) (R_law_leaf : DR) (R_law_call_by : DR) (R_law_tree : DR) : DS := (dSeq (dIf (dTest (dOp (deq) (dVar 5) (dC (.int 10)))) (dRet (dTup (dCons (dC (.str "let")) (dCons (dVar 9) (dCons (dVar 12) (dCons (dCall R_law_tree (dCons (dVar 0) (dCons (dOp (i2 fun i j => .int (i - j)) (dVar 1) (dC (.int 1))) (dCons (dOp (dcatL) (dVar 2) (dLst (dCons (dVar 9) dNil))) (dCons (dVar 3) (dCons (dVar 4) dNil)))))) dNil)))))) dNext)
    (b_law_tree_t12 CH CC R_law_take R_law_leaf R_law_call_by R_law_tree))
def b_law_tree_t10 (CH CC : Addr) (R_law_take : DR) (R_law_leaf : DR) (R_law_call_by : DR) (R_law_tree : DR) : DS := (dSeq (dIf (dAnd (dTest (dOp (i2 fun i j => .bl (decide (i < j))) (dVar 5) (dC (.int 10)))) (dAnd (dTest (dOp dix (dVar 3) (dC (.int 1)))) (dTest (dOp (dneNil) (dVar 8) (dLst dNil))))) (dSeq (dAsg (dOp (dcatT) (dTup (dCons (dC (.bl false)) dNil)) (dSl (dVar 3) (dPart (dC (.int 1))) dNoP)) 3)
    (dRet (dTup (dCons (dC (.str "handle")) (dCons (dOp dix (dVar 8) (dVar 11)) (dCons (dVar 12) (dCons (dCall R_law_tree (dCons (dVar 0) (dCons (dOp (i2 fun i j => .int (i - j)) (dVar 1) (dC (.int 1))) (dCons (dVar 2) (dCons (dVar 3) (dCons (dVar 4) dNil)))))) dNil))))))) dNext)
    (b_law_tree_t11 CH CC R_law_take R_law_leaf R_law_call_by R_law_tree))
def b_law_tree_t9 (CH CC : Addr) (R_law_take : DR) (R_law_leaf : DR) (R_law_call_by : DR) (R_law_tree : DR) : DS := (dSeq (dAsg (dCall R_law_tree (dCons (dVar 0) (dCons (dOp (i2 fun i j => .int (i - j)) (dVar 1) (dC (.int 1))) (dCons (dVar 2) (dCons (dVar 3) (dCons (dVar 4) dNil)))))) 12)
    (b_law_tree_t10 CH CC R_law_take R_law_leaf R_law_call_by R_law_tree))
def b_law_tree_t8 (CH CC : Addr) (R_law_take : DR) (R_law_leaf : DR) (R_law_call_by : DR) (R_law_tree : DR) : DS := (dSeq (dAsg (dCall R_law_take (dCons (dVar 0) (dCons (dCB drMax (dCons (dC (.int 1)) (dCons (dCB drLen (dCons (dVar 8) dNil)) dNil))) dNil))) 11)
    (b_law_tree_t9 CH CC R_law_take R_law_leaf R_law_call_by R_law_tree))
def b_law_tree_t7 (CH CC : Addr) (R_law_take : DR) (R_law_leaf : DR) (R_law_call_by : DR) (R_law_tree : DR) : DS := (dSeq (dAsg (dOp dix (dC (.str "+-*<")) (dCall R_law_take (dCons (dVar 0) (dCons (dC (.int 4)) dNil)))) 10)
    (b_law_tree_t8 CH CC R_law_take R_law_leaf R_law_call_by R_law_tree))
def b_law_tree_t6 (CH CC : Addr) (R_law_take : DR) (R_law_leaf : DR) (R_law_call_by : DR) (R_law_tree : DR) : DS := (dSeq (dAsg (dOp dix (dOp (dcatL) (dDGet (dVar 4) (dC (.str "words"))) (dLst (dCons (dOp dix (dVar 3) (dC (.int 2))) dNil))) (dCall R_law_take (dCons (dVar 0) (dCons (dOp (i2 fun i j => .int (i + j)) (dC (.int 8)) (dCB drInt (dCons (dOp (dnotN) (dOp dix (dVar 3) (dC (.int 2))) (dC .non)) dNil))) dNil)))) 9)
    (b_law_tree_t7 CH CC R_law_take R_law_leaf R_law_call_by R_law_tree))
def b_law_tree_t5 (CH CC : Addr) (R_law_take : DR) (R_law_leaf : DR) (R_law_call_by : DR) (R_law_tree : DR) : DS := (dSeq (dAsg (dLc 7 (dList (dDGet (dVar 4) (dC (.str "heads")))) (dTest (dOp (deq) (dOp dix (dVar 7) (dC (.int 0))) (dC (.str "handler")))) (dOp dix (dVar 7) (dC (.int 1)))) 8)
    (b_law_tree_t6 CH CC R_law_take R_law_leaf R_law_call_by R_law_tree))
def b_law_tree_t4 (CH CC : Addr) (R_law_take : DR) (R_law_leaf : DR) (R_law_call_by : DR) (R_law_tree : DR) : DS := (dSeq (dIf (dTest (dOp (i2 fun i j => .bl (decide (i < j))) (dVar 5) (dC (.int 8)))) (dSeq (dAsg (dOp dix (dDGet (dVar 4) (dC (.str "deeds"))) (dCall R_law_take (dCons (dVar 0) (dCons (dC (.int 8)) dNil)))) 6)
    (dRet (dTup (dCons (dC (.str "do")) (dCons (dVar 6) (dCons (dCall R_law_tree (dCons (dVar 0) (dCons (dOp (i2 fun i j => .int (i - j)) (dVar 1) (dC (.int 1))) (dCons (dVar 2) (dCons (dVar 3) (dCons (dVar 4) dNil)))))) dNil)))))) dNext)
    (b_law_tree_t5 CH CC R_law_take R_law_leaf R_law_call_by R_law_tree))
def b_law_tree_t3 (CH CC : Addr) (R_law_take : DR) (R_law_leaf : DR) (R_law_call_by : DR) (R_law_tree : DR) : DS := (dSeq (dIf (dTest (dOp (i2 fun i j => .bl (decide (i < j))) (dVar 5) (dC (.int 5)))) (dRet (dCall R_law_call_by (dCons (dVar 0) (dCons (dOp (i2 fun i j => .int (i - j)) (dVar 1) (dC (.int 1))) (dCons (dVar 2) (dCons (dVar 3) (dCons (dVar 4) dNil))))))) dNext)
    (b_law_tree_t4 CH CC R_law_take R_law_leaf R_law_call_by R_law_tree))
def b_law_tree_t2 (CH CC : Addr) (R_law_take : DR) (R_law_leaf : DR) (R_law_call_by : DR) (R_law_tree : DR) : DS := (dSeq (dDPut (dOp (i2 fun i j => .int (i - j)) (dDGet (dVar 4) (dC (.str "left"))) (dC (.int 1))) (dVar 4) (dC (.str "left")))
    (b_law_tree_t3 CH CC R_law_take R_law_leaf R_law_call_by R_law_tree))
def b_law_tree_t1 (CH CC : Addr) (R_law_take : DR) (R_law_leaf : DR) (R_law_call_by : DR) (R_law_tree : DR) : DS := (dSeq (dIf (dOr (dTest (dOp (i2 fun i j => .bl (decide (i < j))) (dVar 5) (dC (.int 2)))) (dOr (dTest (dOp (deq) (dVar 1) (dC (.int 0)))) (dTest (dOp (i2 fun i j => .bl (decide (i < j))) (dDGet (dVar 4) (dC (.str "left"))) (dC (.int 1)))))) (dRet (dCall R_law_leaf (dCons (dVar 0) (dCons (dVar 2) dNil)))) dNext)
    (b_law_tree_t2 CH CC R_law_take R_law_leaf R_law_call_by R_law_tree))
def b_law_tree (CH CC : Addr) (R_law_take : DR) (R_law_leaf : DR) (R_law_call_by : DR) (R_law_tree : DR) : DS := (dSeq (dAsg (dCall R_law_take (dCons (dVar 0) (dCons (dC (.int 14)) dNil))) 5)
    (b_law_tree_t1 CH CC R_law_take R_law_leaf R_law_call_by R_law_tree))
theorem der_law_tree (T : Txt K mg CH CC gr) {k : Nat} {f : Addr} {R_law_take : DR} {l_law_take : Nat} (c_law_take : C8.Cal Pr w K mg base l_law_take "_law_take" (spD R_law_take) []) (k_law_take : l_law_take ≤ k) {R_law_leaf : DR} {l_law_leaf : Nat} (c_law_leaf : C8.Cal Pr w K mg base l_law_leaf "_law_leaf" (spD R_law_leaf) []) (k_law_leaf : l_law_leaf ≤ k) {R_law_call_by : DR} {l_law_call_by : Nat} (c_law_call_by : C8.Cal Pr w K mg base l_law_call_by "_law_call_by" (spD R_law_call_by) []) (k_law_call_by : l_law_call_by ≤ k) {R_law_tree : DR} {l_law_tree : Nat} (c_law_tree : C8.Cal Pr w K mg base l_law_tree "_law_tree" (spD R_law_tree) []) (k_law_tree : l_law_tree ≤ k) (cdv : Value) (A : Around) (outer : List Env) (s : Shared) (H : Hp) (E : XK) (hr : Room k (A.deeper (envOfC "_law_tree" (C8.fnScope st_law_tree) s.heap.objs.size f cdv))) :
    ∃ ts, PSsd (cxOf C8.CX0 Pr w K mg base N_law_tree "_law_tree" (C8.fnScope st_law_tree) f cdv A outer s H E).nox (C8.fnBody st_law_tree) ts (b_law_tree CH CC R_law_take R_law_leaf R_law_call_by R_law_tree) := by
  have S := sc_law_tree
  have hu64 : (A.deeper (envOfC "_law_tree" (C8.fnScope st_law_tree) s.heap.objs.size f cdv)).units + 64 < cLine := by have := hr.un; omega
  have hu65 : (A.deeper (envOfC "_law_tree" (C8.fnScope st_law_tree) s.heap.objs.size f cdv)).units + 65 < cLine := by have := hr.un; omega
  have hu1 : (A.deeper (envOfC "_law_tree" (C8.fnScope st_law_tree) s.heap.objs.size f cdv)).units + 1 < cLine := by have := hr.un; omega
  exact ⟨_, (ss_cons (s_set 5 S.nd (d_call c_law_take hr k_law_take (by rfl) (da_cons (dv 0) (da_cons d_int da_nil))))
    (ss_cons (s_if (t_pw (w_or (t_cmp o_lt (dv 5) d_int) (w_or (t_cmp o_eq (dv 1) d_int) (w_or1 (t_cmp o_lt (d_dget hu1 (dv 4) d_str) d_int))))) (ss_one (s_ret (d_call c_law_leaf hr k_law_leaf (by rfl) (da_cons (dv 0) (da_cons (dv 2) da_nil))))) ss_nil)
    (ss_cons (s_dput hu1 (dv 4) d_str (d_op o_sub (d_dget hu1 (dv 4) d_str) d_int))
    (ss_cons (s_if (t_cmp o_lt (dv 5) d_int) (ss_one (s_ret (d_call c_law_call_by hr k_law_call_by (by rfl) (da_cons (dv 0) (da_cons (d_op o_sub (dv 1) d_int) (da_cons (dv 2) (da_cons (dv 3) (da_cons (dv 4) da_nil)))))))) ss_nil)
    (ss_cons (s_if (t_cmp o_lt (dv 5) d_int) (ss_cons (s_set 6 S.nd (d_ix (d_dget hu1 (dv 4) d_str) (d_call c_law_take hr k_law_take (by rfl) (da_cons (dv 0) (da_cons d_int da_nil)))))
    (ss_one (s_ret (d_tup (da_cons d_str (da_cons (dv 6) (da_cons (d_call c_law_tree hr k_law_tree (by rfl) (da_cons (dv 0) (da_cons (d_op o_sub (dv 1) d_int) (da_cons (dv 2) (da_cons (dv 3) (da_cons (dv 4) da_nil)))))) da_nil))))))) ss_nil)
    (ss_cons (s_setLc 8 7 rfl S.nd (i_list (d_dget hu1 (dv 4) d_str)) (blkOk_by (N := N_law_tree) (sc := C8.fnScope st_law_tree) (by decide +kernel)) (fun s H C cl fp => pg_name (i := 7) S.nd rfl (.inl rfl)) (fun s H C cl fp => (ts_one (t_cmp o_eq (d_ixK K rfl (dv 7) d_int) d_str))) (fun s H C cl fp => (d_ixK K rfl (dv 7) d_int)))
    (ss_cons (s_set 9 S.nd (d_ix (d_op o_catL (d_dget hu1 (dv 4) d_str) (d_lst (da_cons (d_ix (dv 3) d_int) da_nil))) (d_call c_law_take hr k_law_take (by rfl) (da_cons (dv 0) (da_cons (d_op o_add d_int (d_callT c_int (by rfl) T.n_int hb_int (da_cons (d_cmp o_notN (d_ix (dv 3) d_int) d_non) da_nil))) da_nil)))))
    (ss_cons (s_set 10 S.nd (d_ix d_str (d_call c_law_take hr k_law_take (by rfl) (da_cons (dv 0) (da_cons d_int da_nil)))))
    (ss_cons (s_set 11 S.nd (d_call c_law_take hr k_law_take (by rfl) (da_cons (dv 0) (da_cons (d_callB (c_max rfl) (by rfl) T.n_max hb_max (da_cons d_int (da_cons (d_callB c_len (by rfl) T.n_len hb_len (da_cons (dv 8) da_nil)) da_nil))) da_nil))))
    (ss_cons (s_set 12 S.nd (d_call c_law_tree hr k_law_tree (by rfl) (da_cons (dv 0) (da_cons (d_op o_sub (dv 1) d_int) (da_cons (dv 2) (da_cons (dv 3) (da_cons (dv 4) da_nil)))))))
    (ss_cons (s_if (t_pw (w_and (t_cmp o_lt (dv 5) d_int) (w_and (t_val (d_ix (dv 3) d_int)) (w_and1 (t_cmp (o_neNil (hu64)) (dv 8) (d_lst da_nil)))))) (ss_cons (s_set 3 S.nd (d_op o_catT (d_tup (da_cons d_bl da_nil)) (d_sl (dv 3) (do_some d_int) do_none)))
    (ss_one (s_ret (d_tup (da_cons d_str (da_cons (d_ix (dv 8) (dv 11)) (da_cons (dv 12) (da_cons (d_call c_law_tree hr k_law_tree (by rfl) (da_cons (dv 0) (da_cons (d_op o_sub (dv 1) d_int) (da_cons (dv 2) (da_cons (dv 3) (da_cons (dv 4) da_nil)))))) da_nil)))))))) ss_nil)
    (ss_cons (s_if (t_cmp o_eq (dv 5) d_int) (ss_one (s_ret (d_tup (da_cons d_str (da_cons (dv 9) (da_cons (dv 12) (da_cons (d_call c_law_tree hr k_law_tree (by rfl) (da_cons (dv 0) (da_cons (d_op o_sub (dv 1) d_int) (da_cons (d_op o_catL (dv 2) (d_lst (da_cons (dv 9) da_nil))) (da_cons (dv 3) (da_cons (dv 4) da_nil)))))) da_nil))))))) ss_nil)
    (ss_cons (s_set 13 S.nd (d_call c_law_tree hr k_law_tree (by rfl) (da_cons (dv 0) (da_cons (d_op o_sub (dv 1) d_int) (da_cons (dv 2) (da_cons (dv 3) (da_cons (dv 4) da_nil)))))))
    (ss_cons (s_if (t_pw (w_and (t_cmp o_lt (dv 5) d_int) (w_and1 (t_val (d_ix (dv 3) d_int))))) (ss_one (s_ret (d_tup (da_cons d_str (da_cons (dv 12) (da_cons (dv 13) da_nil)))))) ss_nil)
    (ss_cons (s_if (t_cmp o_eq (dv 5) d_int) (ss_one (s_ret (d_tup (da_cons d_str (da_cons (dv 12) (da_cons (dv 13) da_nil)))))) ss_nil)
    (ss_cons (s_if (t_cmp o_eq (dv 5) d_int) (ss_one (s_ret (d_tup (da_cons d_str (da_cons (dv 12) (da_cons (dv 13) (da_cons (d_call c_law_tree hr k_law_tree (by rfl) (da_cons (dv 0) (da_cons (d_op o_sub (dv 1) d_int) (da_cons (dv 2) (da_cons (dv 3) (da_cons (dv 4) da_nil)))))) da_nil))))))) ss_nil)
    (ss_one (s_ret (d_tup (da_cons d_str (da_cons (dv 10) (da_cons (dv 12) (da_cons (dv 13) da_nil)))))))))))))))))))))))⟩
/-! _law_clause_by -/
abbrev st_law_clause_by : Stmt := top 44
abbrev N_law_clause_by : List Str := ["_law_state", "_law_x", "_law_s", "_law_world", "_law_here", "_law_pick", "_law_one", "_law_kept", "_law_go"]
abbrev P_law_clause_by : List Str := ["_law_state", "_law_x", "_law_s", "_law_world"]
theorem sc_law_clause_by : FnScope N_law_clause_by P_law_clause_by (C8.fnScope st_law_clause_by) := C8.fnScope_by (by decide +kernel)
def b_law_clause_by_t11 (CH CC : Addr) (R_law_take : DR) (R_law_tree : DR) : DS := (dRet (dVar 8))
def b_law_clause_by_t10 (CH CC : Addr) (R_law_take : DR) (R_law_tree : DR) : DS := (dSeq (dIf (dTest (dOp (deq) (dVar 5) (dC (.int 4)))) (dRet (dTup (dCons (dC (.str "if")) (dCons (dCall R_law_tree (dCons (dVar 0) (dCons (dDGet (dVar 3) (dC (.str "deep"))) (dCons (dLst (dCons (dVar 1) (dCons (dVar 2) dNil))) (dCons (dVar 4) (dCons (dVar 3) dNil)))))) (dCons (dVar 8) (dCons (dTup (dCons (dC (.str "go")) (dCons (dTup (dCons (dC (.str "num")) (dCons (dVar 5) dNil))) (dCons (dTup (dCons (dC (.str "var")) (dCons (dVar 2) dNil))) dNil)))) dNil)))))) dNext)
    (b_law_clause_by_t11 CH CC R_law_take R_law_tree))
def b_law_clause_by_t9 (CH CC : Addr) (R_law_take : DR) (R_law_tree : DR) : DS := (dSeq (dIf (dTest (dOp (deq) (dVar 5) (dC (.int 3)))) (dRet (dTup (dCons (dC (.str "guard")) (dCons (dCall R_law_tree (dCons (dVar 0) (dCons (dDGet (dVar 3) (dC (.str "deep"))) (dCons (dLst (dCons (dVar 1) (dCons (dVar 2) dNil))) (dCons (dVar 4) (dCons (dVar 3) dNil)))))) (dCons (dVar 8) dNil))))) dNext)
    (b_law_clause_by_t10 CH CC R_law_take R_law_tree))
def b_law_clause_by_t8 (CH CC : Addr) (R_law_take : DR) (R_law_tree : DR) : DS := (dSeq (dIf (dTest (dOp (deq) (dVar 5) (dC (.int 2)))) (dRet (dTup (dCons (dC (.str "let")) (dCons (dVar 1) (dCons (dVar 8) (dCons (dCall R_law_tree (dCons (dVar 0) (dCons (dDGet (dVar 3) (dC (.str "deep"))) (dCons (dLst (dCons (dVar 1) (dCons (dVar 2) dNil))) (dCons (dVar 4) (dCons (dVar 3) dNil)))))) dNil)))))) dNext)
    (b_law_clause_by_t9 CH CC R_law_take R_law_tree))
def b_law_clause_by_t7 (CH CC : Addr) (R_law_take : DR) (R_law_tree : DR) : DS := (dSeq (dIf (dTest (dOp (deq) (dVar 5) (dC (.int 1)))) (dRet (dTup (dCons (dC (.str "op")) (dCons (dOp dix (dC (.str "+-*<")) (dCall R_law_take (dCons (dVar 0) (dCons (dC (.int 4)) dNil)))) (dCons (dVar 8) (dCons (dCall R_law_tree (dCons (dVar 0) (dCons (dDGet (dVar 3) (dC (.str "deep"))) (dCons (dLst (dCons (dVar 1) (dCons (dVar 2) dNil))) (dCons (dVar 4) (dCons (dVar 3) dNil)))))) dNil)))))) dNext)
    (b_law_clause_by_t8 CH CC R_law_take R_law_tree))
def b_law_clause_by_t6 (CH CC : Addr) (R_law_take : DR) (R_law_tree : DR) : DS := (dSeq (dAsg (dTup (dCons (dC (.str "go")) (dCons (dVar 6) (dCons (dVar 7) dNil)))) 8)
    (b_law_clause_by_t7 CH CC R_law_take R_law_tree))
def b_law_clause_by_t5 (CH CC : Addr) (R_law_take : DR) (R_law_tree : DR) : DS := (dSeq (dIf (dTest (dOp (deq) (dCall R_law_take (dCons (dVar 0) (dCons (dC (.int 2)) dNil))) (dC (.int 0)))) (dAsg (dCall R_law_tree (dCons (dVar 0) (dCons (dDGet (dVar 3) (dC (.str "deep"))) (dCons (dLst (dCons (dVar 1) (dCons (dVar 2) dNil))) (dCons (dVar 4) (dCons (dVar 3) dNil)))))) 7) dNext)
    (b_law_clause_by_t6 CH CC R_law_take R_law_tree))
def b_law_clause_by_t4 (CH CC : Addr) (R_law_take : DR) (R_law_tree : DR) : DS := (dSeq (dAsg (dTup (dCons (dC (.str "var")) (dCons (dVar 2) dNil))) 7)
    (b_law_clause_by_t5 CH CC R_law_take R_law_tree))
def b_law_clause_by_t3 (CH CC : Addr) (R_law_take : DR) (R_law_tree : DR) : DS := (dSeq (dIf (dTest (dOp (deq) (dVar 5) (dC (.int 0)))) (dRet (dVar 6)) dNext)
    (b_law_clause_by_t4 CH CC R_law_take R_law_tree))
def b_law_clause_by_t2 (CH CC : Addr) (R_law_take : DR) (R_law_tree : DR) : DS := (dSeq (dAsg (dCall R_law_tree (dCons (dVar 0) (dCons (dDGet (dVar 3) (dC (.str "deep"))) (dCons (dLst (dCons (dVar 1) (dCons (dVar 2) dNil))) (dCons (dVar 4) (dCons (dVar 3) dNil)))))) 6)
    (b_law_clause_by_t3 CH CC R_law_take R_law_tree))
def b_law_clause_by_t1 (CH CC : Addr) (R_law_take : DR) (R_law_tree : DR) : DS := (dSeq (dAsg (dCall R_law_take (dCons (dVar 0) (dCons (dC (.int 7)) dNil))) 5)
    (b_law_clause_by_t2 CH CC R_law_take R_law_tree))
def b_law_clause_by (CH CC : Addr) (R_law_take : DR) (R_law_tree : DR) : DS := (dSeq (dAsg (dTup (dCons (dNotV (dDGet (dVar 3) (dC (.str "calm")))) (dCons (dC (.bl true)) (dCons (dC .non) dNil)))) 4)
    (b_law_clause_by_t1 CH CC R_law_take R_law_tree))
theorem der_law_clause_by (T : Txt K mg CH CC gr) {k : Nat} {f : Addr} {R_law_take : DR} {l_law_take : Nat} (c_law_take : C8.Cal Pr w K mg base l_law_take "_law_take" (spD R_law_take) []) (k_law_take : l_law_take ≤ k) {R_law_tree : DR} {l_law_tree : Nat} (c_law_tree : C8.Cal Pr w K mg base l_law_tree "_law_tree" (spD R_law_tree) []) (k_law_tree : l_law_tree ≤ k) (cdv : Value) (A : Around) (outer : List Env) (s : Shared) (H : Hp) (E : XK) (hr : Room k (A.deeper (envOfC "_law_clause_by" (C8.fnScope st_law_clause_by) s.heap.objs.size f cdv))) :
    ∃ ts, PSsd (cxOf C8.CX0 Pr w K mg base N_law_clause_by "_law_clause_by" (C8.fnScope st_law_clause_by) f cdv A outer s H E).nox (C8.fnBody st_law_clause_by) ts (b_law_clause_by CH CC R_law_take R_law_tree) := by
  have S := sc_law_clause_by
  have hu64 : (A.deeper (envOfC "_law_clause_by" (C8.fnScope st_law_clause_by) s.heap.objs.size f cdv)).units + 64 < cLine := by have := hr.un; omega
  have hu65 : (A.deeper (envOfC "_law_clause_by" (C8.fnScope st_law_clause_by) s.heap.objs.size f cdv)).units + 65 < cLine := by have := hr.un; omega
  have hu1 : (A.deeper (envOfC "_law_clause_by" (C8.fnScope st_law_clause_by) s.heap.objs.size f cdv)).units + 1 < cLine := by have := hr.un; omega
  exact ⟨_, (ss_cons (s_set 4 S.nd (d_tup (da_cons (d_not (d_dget hu1 (dv 3) d_str)) (da_cons d_bl (da_cons d_non da_nil)))))
    (ss_cons (s_set 5 S.nd (d_call c_law_take hr k_law_take (by rfl) (da_cons (dv 0) (da_cons d_int da_nil))))
    (ss_cons (s_set 6 S.nd (d_call c_law_tree hr k_law_tree (by rfl) (da_cons (dv 0) (da_cons (d_dget hu1 (dv 3) d_str) (da_cons (d_lst (da_cons (dv 1) (da_cons (dv 2) da_nil))) (da_cons (dv 4) (da_cons (dv 3) da_nil)))))))
    (ss_cons (s_if (t_cmp o_eq (dv 5) d_int) (ss_one (s_ret (dv 6))) ss_nil)
    (ss_cons (s_set 7 S.nd (d_tup (da_cons d_str (da_cons (dv 2) da_nil))))
    (ss_cons (s_if (t_cmp o_eq (d_call c_law_take hr k_law_take (by rfl) (da_cons (dv 0) (da_cons d_int da_nil))) d_int) (ss_one (s_set 7 S.nd (d_call c_law_tree hr k_law_tree (by rfl) (da_cons (dv 0) (da_cons (d_dget hu1 (dv 3) d_str) (da_cons (d_lst (da_cons (dv 1) (da_cons (dv 2) da_nil))) (da_cons (dv 4) (da_cons (dv 3) da_nil)))))))) ss_nil)
    (ss_cons (s_set 8 S.nd (d_tup (da_cons d_str (da_cons (dv 6) (da_cons (dv 7) da_nil)))))
    (ss_cons (s_if (t_cmp o_eq (dv 5) d_int) (ss_one (s_ret (d_tup (da_cons d_str (da_cons (d_ix d_str (d_call c_law_take hr k_law_take (by rfl) (da_cons (dv 0) (da_cons d_int da_nil)))) (da_cons (dv 8) (da_cons (d_call c_law_tree hr k_law_tree (by rfl) (da_cons (dv 0) (da_cons (d_dget hu1 (dv 3) d_str) (da_cons (d_lst (da_cons (dv 1) (da_cons (dv 2) da_nil))) (da_cons (dv 4) (da_cons (dv 3) da_nil)))))) da_nil))))))) ss_nil)
    (ss_cons (s_if (t_cmp o_eq (dv 5) d_int) (ss_one (s_ret (d_tup (da_cons d_str (da_cons (dv 1) (da_cons (dv 8) (da_cons (d_call c_law_tree hr k_law_tree (by rfl) (da_cons (dv 0) (da_cons (d_dget hu1 (dv 3) d_str) (da_cons (d_lst (da_cons (dv 1) (da_cons (dv 2) da_nil))) (da_cons (dv 4) (da_cons (dv 3) da_nil)))))) da_nil))))))) ss_nil)
    (ss_cons (s_if (t_cmp o_eq (dv 5) d_int) (ss_one (s_ret (d_tup (da_cons d_str (da_cons (d_call c_law_tree hr k_law_tree (by rfl) (da_cons (dv 0) (da_cons (d_dget hu1 (dv 3) d_str) (da_cons (d_lst (da_cons (dv 1) (da_cons (dv 2) da_nil))) (da_cons (dv 4) (da_cons (dv 3) da_nil)))))) (da_cons (dv 8) da_nil)))))) ss_nil)
    (ss_cons (s_if (t_cmp o_eq (dv 5) d_int) (ss_one (s_ret (d_tup (da_cons d_str (da_cons (d_call c_law_tree hr k_law_tree (by rfl) (da_cons (dv 0) (da_cons (d_dget hu1 (dv 3) d_str) (da_cons (d_lst (da_cons (dv 1) (da_cons (dv 2) da_nil))) (da_cons (dv 4) (da_cons (dv 3) da_nil)))))) (da_cons (dv 8) (da_cons (d_tup (da_cons d_str (da_cons (d_tup (da_cons d_str (da_cons (dv 5) da_nil))) (da_cons (d_tup (da_cons d_str (da_cons (dv 2) da_nil))) da_nil)))) da_nil))))))) ss_nil)
    (ss_one (s_ret (dv 8))))))))))))))⟩
/-! _law_item -/
abbrev st_law_item : Stmt := top 45
abbrev N_law_item : List Str := ["_law_state", "_law_head", "_law_world", "_law_here", "_law_words", "_law_first", "_law_clauses", "_law_most", "_law_k", "_law_x", "_law_s", "_law_end"]
abbrev P_law_item : List Str := ["_law_state", "_law_head", "_law_world"]
theorem sc_law_item : FnScope N_law_item P_law_item (C8.fnScope st_law_item) := C8.fnScope_by (by decide +kernel)
def b_law_item_L1 (CH CC : Addr) (R_law_tree : DR) (R_law_take : DR) (R_law_clause_by : DR) : DS := (dSeq (dAsg (dCall R_law_take (dCons (dVar 0) (dCons (dC (.int 8)) dNil))) 9)
    (dSeq (dAsg (dOp dix (dVar 4) (dOp (i2 fun i j => .int (i + j)) (dOp (i2 fun i j => .int (i + j)) (dVar 9) (dC (.int 1))) (dCall R_law_take (dCons (dVar 0) (dCons (dC (.int 7)) dNil))))) 10)
    (dSeq (dAsg (dOp dix (dVar 4) (dVar 9)) 9)
    (dDrop (dAppT (dVar 6) (dTup (dCons (dOp dix (dVar 4) (dOp (i2 fun i j => .int (i + j)) (dVar 5) (dVar 8))) (dCons (dVar 9) (dCons (dVar 10) (dCons (dCall R_law_clause_by (dCons (dVar 0) (dCons (dVar 9) (dCons (dVar 10) (dCons (dVar 2) dNil))))) dNil))))))))))
def b_law_item_t11 (CH CC : Addr) (R_law_tree : DR) (R_law_take : DR) (R_law_clause_by : DR) : DS := (dRet (dTup (dCons (dC (.str "handler")) (dCons (dOp dix (dVar 1) (dC (.int 1))) (dCons (dCB drTuple (dCons (dVar 6) dNil)) (dCons (dTup (dCons (dVar 9) (dCons (dVar 10) (dCons (dVar 11) dNil)))) dNil))))))
def b_law_item_t10 (CH CC : Addr) (R_law_tree : DR) (R_law_take : DR) (R_law_clause_by : DR) : DS := (dSeq (dIf (dTest (dOp (i2 fun i j => .bl (decide (j < i))) (dCall R_law_take (dCons (dVar 0) (dCons (dC (.int 3)) dNil))) (dC (.int 0)))) (dAsg (dCall R_law_tree (dCons (dVar 0) (dCons (dDGet (dVar 2) (dC (.str "deep"))) (dCons (dLst (dCons (dVar 9) (dCons (dVar 10) dNil))) (dCons (dTup (dCons (dC (.bl false)) (dCons (dC (.bl false)) (dCons (dC .non) dNil)))) (dCons (dVar 2) dNil)))))) 11) dNext)
    (b_law_item_t11 CH CC R_law_tree R_law_take R_law_clause_by))
def b_law_item_t9 (CH CC : Addr) (R_law_tree : DR) (R_law_take : DR) (R_law_clause_by : DR) : DS := (dSeq (dAsg (dTup (dCons (dC (.str "var")) (dCons (dVar 9) dNil))) 11)
    (b_law_item_t10 CH CC R_law_tree R_law_take R_law_clause_by))
def b_law_item_t8 (CH CC : Addr) (R_law_tree : DR) (R_law_take : DR) (R_law_clause_by : DR) : DS := (dSeq (dAsg (dOp dix (dVar 4) (dVar 9)) 9)
    (b_law_item_t9 CH CC R_law_tree R_law_take R_law_clause_by))
def b_law_item_t7 (CH CC : Addr) (R_law_tree : DR) (R_law_take : DR) (R_law_clause_by : DR) : DS := (dSeq (dAsg (dOp dix (dVar 4) (dOp (i2 fun i j => .int (i + j)) (dOp (i2 fun i j => .int (i + j)) (dVar 9) (dC (.int 1))) (dCall R_law_take (dCons (dVar 0) (dCons (dC (.int 7)) dNil))))) 10)
    (b_law_item_t8 CH CC R_law_tree R_law_take R_law_clause_by))
def b_law_item_t6 (CH CC : Addr) (R_law_tree : DR) (R_law_take : DR) (R_law_clause_by : DR) : DS := (dSeq (dAsg (dCall R_law_take (dCons (dVar 0) (dCons (dC (.int 8)) dNil))) 9)
    (b_law_item_t7 CH CC R_law_tree R_law_take R_law_clause_by))
def b_law_item_t5 (CH CC : Addr) (R_law_tree : DR) (R_law_take : DR) (R_law_clause_by : DR) : DS := (dSeq (dForI 8 (dRange (dCall R_law_take (dCons (dVar 0) (dCons (dVar 7) dNil)))) (b_law_item_L1 CH CC R_law_tree R_law_take R_law_clause_by))
    (b_law_item_t6 CH CC R_law_tree R_law_take R_law_clause_by))
def b_law_item_t4 (CH CC : Addr) (R_law_tree : DR) (R_law_take : DR) (R_law_clause_by : DR) : DS := (dSeq (dAsg (dOp dix (dLst (dCons (dC (.int 4)) (dCons (dC (.int 9)) dNil))) (dOp (i2c CMul fun i j => .int (i * j)) (dOp (i2c CDivW fun i j => .int (i / j)) (dCall R_law_take (dCons (dVar 0) (dCons (dC (.int 4)) dNil))) (dC (.int 3))) (dCB drInt (dCons (dOp (i2 fun i j => .bl (decide (i < j))) (dCB drLen (dCons (dDGet (dVar 2) (dC (.str "heads"))) dNil)) (dC (.int 7))) dNil)))) 7)
    (b_law_item_t5 CH CC R_law_tree R_law_take R_law_clause_by))
def b_law_item_t3 (CH CC : Addr) (R_law_tree : DR) (R_law_take : DR) (R_law_clause_by : DR) : DS := (dSeq (dAsg (dLstM dNil) 6)
    (b_law_item_t4 CH CC R_law_tree R_law_take R_law_clause_by))
def b_law_item_t2 (CH CC : Addr) (R_law_tree : DR) (R_law_take : DR) (R_law_clause_by : DR) : DS := (dSeq (dAsg (dOp (i2c (fun _ j => 0 < j) fun i j => .int (i % j)) (dCall R_law_take (dCons (dVar 0) (dCons (dC (.int 8)) dNil))) (dDGet (dVar 2) (dC (.str "few")))) 5)
    (b_law_item_t3 CH CC R_law_tree R_law_take R_law_clause_by))
def b_law_item_t1 (CH CC : Addr) (R_law_tree : DR) (R_law_take : DR) (R_law_clause_by : DR) : DS := (dSeq (dAsg (dOp (dcatL) (dDGet (dVar 2) (dC (.str "words"))) (dDGet (dVar 2) (dC (.str "words")))) 4)
    (b_law_item_t2 CH CC R_law_tree R_law_take R_law_clause_by))
def b_law_item (CH CC : Addr) (R_law_tree : DR) (R_law_take : DR) (R_law_clause_by : DR) : DS := (dSeq (dIf (dTest (dOp (deq) (dOp dix (dVar 1) (dC (.int 0))) (dC (.str "def")))) (dSeq (dAsg (dTup (dCons (dC (.bl false)) (dCons (dC (.bl true)) (dCons (dOp dix (dVar 1) (dC (.int 3))) dNil)))) 3)
    (dRet (dOp (dcatT) (dVar 1) (dTup (dCons (dCall R_law_tree (dCons (dVar 0) (dCons (dDGet (dVar 2) (dC (.str "deep"))) (dCons (dCB drList (dCons (dOp dix (dVar 1) (dC (.int 2))) dNil)) (dCons (dVar 3) (dCons (dVar 2) dNil)))))) dNil))))) dNext)
    (b_law_item_t1 CH CC R_law_tree R_law_take R_law_clause_by))
theorem der_law_item (T : Txt K mg CH CC gr) {k : Nat} {f : Addr} {R_law_tree : DR} {l_law_tree : Nat} (c_law_tree : C8.Cal Pr w K mg base l_law_tree "_law_tree" (spD R_law_tree) []) (k_law_tree : l_law_tree ≤ k) {R_law_take : DR} {l_law_take : Nat} (c_law_take : C8.Cal Pr w K mg base l_law_take "_law_take" (spD R_law_take) []) (k_law_take : l_law_take ≤ k) {R_law_clause_by : DR} {l_law_clause_by : Nat} (c_law_clause_by : C8.Cal Pr w K mg base l_law_clause_by "_law_clause_by" (spD R_law_clause_by) []) (k_law_clause_by : l_law_clause_by ≤ k) (cdv : Value) (A : Around) (outer : List Env) (s : Shared) (H : Hp) (E : XK) (hr : Room k (A.deeper (envOfC "_law_item" (C8.fnScope st_law_item) s.heap.objs.size f cdv))) :
    ∃ ts, PSsd (cxOf C8.CX0 Pr w K mg base N_law_item "_law_item" (C8.fnScope st_law_item) f cdv A outer s H E).nox (C8.fnBody st_law_item) ts (b_law_item CH CC R_law_tree R_law_take R_law_clause_by) := by
  have S := sc_law_item
  have hu64 : (A.deeper (envOfC "_law_item" (C8.fnScope st_law_item) s.heap.objs.size f cdv)).units + 64 < cLine := by have := hr.un; omega
  have hu65 : (A.deeper (envOfC "_law_item" (C8.fnScope st_law_item) s.heap.objs.size f cdv)).units + 65 < cLine := by have := hr.un; omega
  have hu1 : (A.deeper (envOfC "_law_item" (C8.fnScope st_law_item) s.heap.objs.size f cdv)).units + 1 < cLine := by have := hr.un; omega
  exact ⟨_, (ss_cons (s_if (t_cmp o_eq (d_ix (dv 1) d_int) d_str) (ss_cons (s_set 3 S.nd (d_tup (da_cons d_bl (da_cons d_bl (da_cons (d_ix (dv 1) d_int) da_nil)))))
    (ss_one (s_ret (d_op o_catT (dv 1) (d_tup (da_cons (d_call c_law_tree hr k_law_tree (by rfl) (da_cons (dv 0) (da_cons (d_dget hu1 (dv 2) d_str) (da_cons (d_callT c_list (by rfl) T.n_list hb_list (da_cons (d_ix (dv 1) d_int) da_nil)) (da_cons (dv 3) (da_cons (dv 2) da_nil)))))) da_nil)))))) ss_nil)
    (ss_cons (s_set 4 S.nd (d_op o_catL (d_dget hu1 (dv 2) d_str) (d_dget hu1 (dv 2) d_str)))
    (ss_cons (s_set 5 S.nd (d_op o_mod (d_call c_law_take hr k_law_take (by rfl) (da_cons (dv 0) (da_cons d_int da_nil))) (d_dget hu1 (dv 2) d_str)))
    (ss_cons (s_set 6 S.nd (d_lstM da_nil))
    (ss_cons (s_set 7 S.nd (d_ix (d_lst (da_cons d_int (da_cons d_int da_nil))) (d_op o_mul (d_op o_fdiv (d_call c_law_take hr k_law_take (by rfl) (da_cons (dv 0) (da_cons d_int da_nil))) d_int) (d_callT c_int (by rfl) T.n_int hb_int (da_cons (d_cmp o_lt (d_callB c_len (by rfl) T.n_len hb_len (da_cons (d_dget hu1 (dv 2) d_str) da_nil)) d_int) da_nil)))))
    (ss_cons (s_for 8 S.nd rfl PassesOwn.never (i_range (by rfl) T.n_range (d_call c_law_take hr k_law_take (by rfl) (da_cons (dv 0) (da_cons (dv 7) da_nil)))) (ss_cons (s_set 9 S.nd (d_call c_law_take hr k_law_take (by rfl) (da_cons (dv 0) (da_cons d_int da_nil))))
    (ss_cons (s_set 10 S.nd (d_ix (dv 4) (d_op o_add (d_op o_add (dv 9) d_int) (d_call c_law_take hr k_law_take (by rfl) (da_cons (dv 0) (da_cons d_int da_nil))))))
    (ss_cons (s_set 9 S.nd (d_ix (dv 4) (dv 9)))
    (ss_one (s_expr (d_app (dv 6) (d_tup (da_cons (d_ix (dv 4) (d_op o_add (dv 5) (dv 8))) (da_cons (dv 9) (da_cons (dv 10) (da_cons (d_call c_law_clause_by hr k_law_clause_by (by rfl) (da_cons (dv 0) (da_cons (dv 9) (da_cons (dv 10) (da_cons (dv 2) da_nil))))) da_nil))))))))))))
    (ss_cons (s_set 9 S.nd (d_call c_law_take hr k_law_take (by rfl) (da_cons (dv 0) (da_cons d_int da_nil))))
    (ss_cons (s_set 10 S.nd (d_ix (dv 4) (d_op o_add (d_op o_add (dv 9) d_int) (d_call c_law_take hr k_law_take (by rfl) (da_cons (dv 0) (da_cons d_int da_nil))))))
    (ss_cons (s_set 9 S.nd (d_ix (dv 4) (dv 9)))
    (ss_cons (s_set 11 S.nd (d_tup (da_cons d_str (da_cons (dv 9) da_nil))))
    (ss_cons (s_if (t_cmp o_gt (d_call c_law_take hr k_law_take (by rfl) (da_cons (dv 0) (da_cons d_int da_nil))) d_int) (ss_one (s_set 11 S.nd (d_call c_law_tree hr k_law_tree (by rfl) (da_cons (dv 0) (da_cons (d_dget hu1 (dv 2) d_str) (da_cons (d_lst (da_cons (dv 9) (da_cons (dv 10) da_nil))) (da_cons (d_tup (da_cons d_bl (da_cons d_bl (da_cons d_non da_nil)))) (da_cons (dv 2) da_nil)))))))) ss_nil)
    (ss_one (s_ret (d_tup (da_cons d_str (da_cons (d_ix (dv 1) d_int) (da_cons (d_callT c_tuple (by rfl) T.n_tuple hb_tuple (da_cons (dv 6) da_nil)) (da_cons (d_tup (da_cons (dv 9) (da_cons (dv 10) (da_cons (dv 11) da_nil)))) da_nil))))))))))))))))))⟩
/-! _law_any -/
abbrev st_law_any : Stmt := top 46
abbrev N_law_any : List Str := ["_law_script", "_law_deep", "_law_calm", "_law_state", "_law_many", "_law_words", "_law_k", "_law_cells", "_law_names", "_law_world", "_law_items", "_law_head", "_law_some", "_law_chosen", "_law_stood", "_law_at", "_law_body", "_law_turn"]
abbrev P_law_any : List Str := ["_law_script", "_law_deep", "_law_calm"]
theorem sc_law_any : FnScope N_law_any P_law_any (C8.fnScope st_law_any) := C8.fnScope_by (by decide +kernel)
def b_law_any_L1 (CH CC : Addr) (R_law_source : DR) (R_law_take : DR) (R_law_fresh : DR) (R_law_heads : DR) (R_law_item : DR) : DS := (dDrop (dAppT (dVar 5) (dCall R_law_fresh (dCons (dVar 3) (dCons (dVar 5) dNil)))))
def b_law_any_L2 (CH CC : Addr) (R_law_source : DR) (R_law_take : DR) (R_law_fresh : DR) (R_law_heads : DR) (R_law_item : DR) : DS := (dDrop (dAppT (dVar 8) (dCall R_law_fresh (dCons (dOp dix (dVar 7) (dVar 6)) (dCons (dVar 8) dNil)))))
def b_law_any_L3 (CH CC : Addr) (R_law_source : DR) (R_law_take : DR) (R_law_fresh : DR) (R_law_heads : DR) (R_law_item : DR) : DS := (dSeq (dDPut (dOp (i2 fun i j => .int (i + j)) (dC (.int 1)) (dOp (i2c CDivW fun i j => .int (i / j)) (dC (.int 120)) (dVar 4))) (dVar 9) (dC (.str "left")))
    (dDrop (dAppT (dVar 10) (dCall R_law_item (dCons (dOp dix (dVar 7) (dVar 6)) (dCons (dOp dix (dDGet (dVar 9) (dC (.str "heads"))) (dVar 6)) (dCons (dVar 9) dNil)))))))
def b_law_any_t19 (CH CC : Addr) (R_law_source : DR) (R_law_take : DR) (R_law_fresh : DR) (R_law_heads : DR) (R_law_item : DR) : DS := (dRet (dLst (dCons (dCB drTuple (dCons (dOp (dcatL) (dSl (dVar 10) (dPart (dVar 17)) dNoP) (dSl (dVar 10) dNoP (dPart (dVar 17)))) dNil)) (dCons (dOp dix (dVar 13) (dC (.int 1))) (dCons (dCB drLen (dCons (dOp dix (dVar 13) (dC (.int 2))) dNil)) dNil)))))
def b_law_any_t18 (CH CC : Addr) (R_law_source : DR) (R_law_take : DR) (R_law_fresh : DR) (R_law_heads : DR) (R_law_item : DR) : DS := (dSeq (dAsg (dCall R_law_take (dCons (dVar 3) (dCons (dVar 4) dNil))) 17)
    (b_law_any_t19 CH CC R_law_source R_law_take R_law_fresh R_law_heads R_law_item))
def b_law_any_t17 (CH CC : Addr) (R_law_source : DR) (R_law_take : DR) (R_law_fresh : DR) (R_law_heads : DR) (R_law_item : DR) : DS := (dSeq (dIf (dAnd (dTest (dOp (dneNil) (dVar 14) (dLst dNil))) (dTest (dOp (i2 fun i j => .bl (decide (j < i))) (dCall R_law_take (dCons (dVar 3) (dCons (dC (.int 3)) dNil))) (dC (.int 0))))) (dSeq (dAsg (dTup (dCons (dC (.str "handle")) (dCons (dOp dix (dVar 14) (dCall R_law_take (dCons (dVar 3) (dCons (dCB drLen (dCons (dVar 14) dNil)) dNil)))) (dCons (dTup (dCons (dC (.str "num")) (dCons (dCall R_law_take (dCons (dVar 3) (dCons (dC (.int 9)) dNil))) dNil))) (dCons (dOp dix (dOp dix (dVar 10) (dVar 15)) (dC (.int 4))) dNil))))) 16)
    (dSetIx (dOp (dcatT) (dSl (dOp dix (dVar 10) (dVar 15)) dNoP (dPart (dC (.int 4)))) (dTup (dCons (dVar 16) dNil))) (dVar 10) (dVar 15))) dNext)
    (b_law_any_t18 CH CC R_law_source R_law_take R_law_fresh R_law_heads R_law_item))
def b_law_any_t16 (CH CC : Addr) (R_law_source : DR) (R_law_take : DR) (R_law_fresh : DR) (R_law_heads : DR) (R_law_item : DR) : DS := (dSeq (dAsg (dIndex (dDGet (dVar 9) (dC (.str "heads"))) (dVar 13)) 15)
    (b_law_any_t17 CH CC R_law_source R_law_take R_law_fresh R_law_heads R_law_item))
def b_law_any_t15 (CH CC : Addr) (R_law_source : DR) (R_law_take : DR) (R_law_fresh : DR) (R_law_heads : DR) (R_law_item : DR) : DS := (dSeq (dAsg (dLc 11 (dList (dDGet (dVar 9) (dC (.str "heads")))) (dTest (dOp (deq) (dOp dix (dVar 11) (dC (.int 0))) (dC (.str "handler")))) (dOp dix (dVar 11) (dC (.int 1)))) 14)
    (b_law_any_t16 CH CC R_law_source R_law_take R_law_fresh R_law_heads R_law_item))
def b_law_any_t14 (CH CC : Addr) (R_law_source : DR) (R_law_take : DR) (R_law_fresh : DR) (R_law_heads : DR) (R_law_item : DR) : DS := (dSeq (dAsg (dOp dix (dVar 12) (dCall R_law_take (dCons (dVar 3) (dCons (dCB drLen (dCons (dVar 12) dNil)) dNil)))) 13)
    (b_law_any_t15 CH CC R_law_source R_law_take R_law_fresh R_law_heads R_law_item))
def b_law_any_t13 (CH CC : Addr) (R_law_source : DR) (R_law_take : DR) (R_law_fresh : DR) (R_law_heads : DR) (R_law_item : DR) : DS := (dSeq (dAsg (dLc 11 (dList (dDGet (dVar 9) (dC (.str "heads")))) (dAnd (dTest (dOp (deq) (dOp dix (dVar 11) (dC (.int 0))) (dC (.str "def")))) (dTest (dOp (disN) (dOp dix (dVar 11) (dC (.int 3))) (dC .non)))) (dVar 11)) 12)
    (b_law_any_t14 CH CC R_law_source R_law_take R_law_fresh R_law_heads R_law_item))
def b_law_any_t12 (CH CC : Addr) (R_law_source : DR) (R_law_take : DR) (R_law_fresh : DR) (R_law_heads : DR) (R_law_item : DR) : DS := (dSeq (dForI 6 (dRange (dVar 4)) (b_law_any_L3 CH CC R_law_source R_law_take R_law_fresh R_law_heads R_law_item))
    (b_law_any_t13 CH CC R_law_source R_law_take R_law_fresh R_law_heads R_law_item))
def b_law_any_t11 (CH CC : Addr) (R_law_source : DR) (R_law_take : DR) (R_law_fresh : DR) (R_law_heads : DR) (R_law_item : DR) : DS := (dSeq (dAsg (dLstM dNil) 10)
    (b_law_any_t12 CH CC R_law_source R_law_take R_law_fresh R_law_heads R_law_item))
def b_law_any_t10 (CH CC : Addr) (R_law_source : DR) (R_law_take : DR) (R_law_fresh : DR) (R_law_heads : DR) (R_law_item : DR) : DS := (dSeq (dDrop (dUpd (dVar 9) (dDisp (("deep", (dVar 1)) :: (("calm", (dVar 2)) :: [])))))
    (b_law_any_t11 CH CC R_law_source R_law_take R_law_fresh R_law_heads R_law_item))
def b_law_any_t9 (CH CC : Addr) (R_law_source : DR) (R_law_take : DR) (R_law_fresh : DR) (R_law_heads : DR) (R_law_item : DR) : DS := (dSeq (dIf (dTest (dOp (i2 fun i j => .bl (decide (j < i))) (dCall R_law_take (dCons (dVar 3) (dCons (dC (.int 4)) dNil))) (dC (.int 0)))) (dDrop (dUpd (dVar 9) (dDisp (("deeds", (dOp (drepL) (dSl (dVar 5) dNoP (dPart (dC (.int 2)))) (dC (.int 4)))) :: (("few", (dC (.int 2))) :: []))))) dNext)
    (b_law_any_t10 CH CC R_law_source R_law_take R_law_fresh R_law_heads R_law_item))
def b_law_any_t8 (CH CC : Addr) (R_law_source : DR) (R_law_take : DR) (R_law_fresh : DR) (R_law_heads : DR) (R_law_item : DR) : DS := (dFrz 8 (dSeq (dAsg (dDisp (("words", (dVar 5)) :: (("deeds", (dVar 5)) :: (("heads", (dCall R_law_heads (dCons (dVar 7) (dCons (dVar 8) (dCons (dVar 5) dNil))))) :: (("left", (dC (.int 0))) :: (("few", (dC (.int 8))) :: [])))))) 9)
    (b_law_any_t9 CH CC R_law_source R_law_take R_law_fresh R_law_heads R_law_item)))
def b_law_any_t7 (CH CC : Addr) (R_law_source : DR) (R_law_take : DR) (R_law_fresh : DR) (R_law_heads : DR) (R_law_item : DR) : DS := (dSeq (dForI 6 (dRange (dVar 4)) (b_law_any_L2 CH CC R_law_source R_law_take R_law_fresh R_law_heads R_law_item))
    (b_law_any_t8 CH CC R_law_source R_law_take R_law_fresh R_law_heads R_law_item))
def b_law_any_t6 (CH CC : Addr) (R_law_source : DR) (R_law_take : DR) (R_law_fresh : DR) (R_law_heads : DR) (R_law_item : DR) : DS := (dSeq (dAsg (dLstM dNil) 8)
    (b_law_any_t7 CH CC R_law_source R_law_take R_law_fresh R_law_heads R_law_item))
def b_law_any_t5 (CH CC : Addr) (R_law_source : DR) (R_law_take : DR) (R_law_fresh : DR) (R_law_heads : DR) (R_law_item : DR) : DS := (dFrz 5 (dSeq (dAsg (dLc 6 (dRange (dVar 4)) dYes (dCall R_law_source (dCons (dVar 0) (dCons (dOp (i2 fun i j => .int (i + j)) (dC (.int 1)) (dVar 6)) dNil)))) 7)
    (b_law_any_t6 CH CC R_law_source R_law_take R_law_fresh R_law_heads R_law_item)))
def b_law_any_t4 (CH CC : Addr) (R_law_source : DR) (R_law_take : DR) (R_law_fresh : DR) (R_law_heads : DR) (R_law_item : DR) : DS := (dSeq (dForI 6 (dRange (dC (.int 8))) (b_law_any_L1 CH CC R_law_source R_law_take R_law_fresh R_law_heads R_law_item))
    (b_law_any_t5 CH CC R_law_source R_law_take R_law_fresh R_law_heads R_law_item))
def b_law_any_t3 (CH CC : Addr) (R_law_source : DR) (R_law_take : DR) (R_law_fresh : DR) (R_law_heads : DR) (R_law_item : DR) : DS := (dSeq (dAsg (dLstM dNil) 5)
    (b_law_any_t4 CH CC R_law_source R_law_take R_law_fresh R_law_heads R_law_item))
def b_law_any_t2 (CH CC : Addr) (R_law_source : DR) (R_law_take : DR) (R_law_fresh : DR) (R_law_heads : DR) (R_law_item : DR) : DS := (dSeq (dAsg (dOp (i2 fun i j => .int (i + j)) (dC (.int 1)) (dCall R_law_take (dCons (dVar 3) (dCons (dOp dix (dLst (dCons (dC (.int 6)) (dCons (dC (.int 40)) dNil))) (dOp (i2c CDivW fun i j => .int (i / j)) (dCall R_law_take (dCons (dVar 3) (dCons (dC (.int 4)) dNil))) (dC (.int 3)))) dNil)))) 4)
    (b_law_any_t3 CH CC R_law_source R_law_take R_law_fresh R_law_heads R_law_item))
def b_law_any_t1 (CH CC : Addr) (R_law_source : DR) (R_law_take : DR) (R_law_fresh : DR) (R_law_heads : DR) (R_law_item : DR) : DS := (dSeq (dSetIx (dOp (i2c CDivW fun i j => .int (i / j)) (dOp dix (dVar 3) (dC (.int 0))) (dC (.int 2))) (dVar 3) (dC (.int 0)))
    (b_law_any_t2 CH CC R_law_source R_law_take R_law_fresh R_law_heads R_law_item))
def b_law_any (CH CC : Addr) (R_law_source : DR) (R_law_take : DR) (R_law_fresh : DR) (R_law_heads : DR) (R_law_item : DR) : DS := (dSeq (dAsg (dCall R_law_source (dCons (dVar 0) (dCons (dC (.int 0)) dNil))) 3)
    (b_law_any_t1 CH CC R_law_source R_law_take R_law_fresh R_law_heads R_law_item))
theorem der_law_any (T : Txt K mg CH CC gr) {k : Nat} {f : Addr} {R_law_source : DR} {l_law_source : Nat} (c_law_source : C8.Cal Pr w K mg base l_law_source "_law_source" (spD R_law_source) []) (k_law_source : l_law_source ≤ k) {R_law_take : DR} {l_law_take : Nat} (c_law_take : C8.Cal Pr w K mg base l_law_take "_law_take" (spD R_law_take) []) (k_law_take : l_law_take ≤ k) {R_law_fresh : DR} {l_law_fresh : Nat} (c_law_fresh : C8.Cal Pr w K mg base l_law_fresh "_law_fresh" (spD R_law_fresh) []) (k_law_fresh : l_law_fresh ≤ k) {R_law_heads : DR} {l_law_heads : Nat} (c_law_heads : C8.Cal Pr w K mg base l_law_heads "_law_heads" (spD R_law_heads) []) (k_law_heads : l_law_heads ≤ k) {R_law_item : DR} {l_law_item : Nat} (c_law_item : C8.Cal Pr w K mg base l_law_item "_law_item" (spD R_law_item) []) (k_law_item : l_law_item ≤ k) (cdv : Value) (A : Around) (outer : List Env) (s : Shared) (H : Hp) (E : XK) (hr : Room k (A.deeper (envOfC "_law_any" (C8.fnScope st_law_any) s.heap.objs.size f cdv))) :
    ∃ ts, PSsd (cxOf C8.CX0 Pr w K mg base N_law_any "_law_any" (C8.fnScope st_law_any) f cdv A outer s H E).nox (C8.fnBody st_law_any) ts (b_law_any CH CC R_law_source R_law_take R_law_fresh R_law_heads R_law_item) := by
  have S := sc_law_any
  have hu64 : (A.deeper (envOfC "_law_any" (C8.fnScope st_law_any) s.heap.objs.size f cdv)).units + 64 < cLine := by have := hr.un; omega
  have hu65 : (A.deeper (envOfC "_law_any" (C8.fnScope st_law_any) s.heap.objs.size f cdv)).units + 65 < cLine := by have := hr.un; omega
  have hu1 : (A.deeper (envOfC "_law_any" (C8.fnScope st_law_any) s.heap.objs.size f cdv)).units + 1 < cLine := by have := hr.un; omega
  exact ⟨_, (ss_cons (s_set 3 S.nd (d_call c_law_source hr k_law_source (by rfl) (da_cons (dv 0) (da_cons d_int da_nil))))
    (ss_cons (s_setix (dv 3) d_int (d_op o_fdiv (d_ix (dv 3) d_int) d_int))
    (ss_cons (s_set 4 S.nd (d_op o_add d_int (d_call c_law_take hr k_law_take (by rfl) (da_cons (dv 3) (da_cons (d_ix (d_lst (da_cons d_int (da_cons d_int da_nil))) (d_op o_fdiv (d_call c_law_take hr k_law_take (by rfl) (da_cons (dv 3) (da_cons d_int da_nil))) d_int)) da_nil)))))
    (ss_cons (s_set 5 S.nd (d_lstM da_nil))
    (ss_cons (s_for 6 S.nd rfl PassesOwn.never (i_range (by rfl) T.n_range d_int) (ss_one (s_expr (d_app (dv 5) (d_call c_law_fresh hr k_law_fresh (by rfl) (da_cons (dv 3) (da_cons (dv 5) da_nil)))))))
    (ss_frz 5 (ss_cons (s_setLc 7 6 rfl S.nd (i_range (by rfl) T.n_range (dv 4)) (blkOk_by (N := N_law_any) (sc := C8.fnScope st_law_any) (by decide +kernel)) (fun s H C cl fp => pg_name (i := 6) S.nd rfl (.inl rfl)) (fun s H C cl fp => ts_nil) (fun s H C cl fp => (d_call c_law_source hr k_law_source (by rfl) (da_cons (dv 0) (da_cons (d_op o_add d_int (dv 6)) da_nil)))))
    (ss_cons (s_set 8 S.nd (d_lstM da_nil))
    (ss_cons (s_for 6 S.nd rfl PassesOwn.never (i_range (by rfl) T.n_range (dv 4)) (ss_one (s_expr (d_app (dv 8) (d_call c_law_fresh hr k_law_fresh (by rfl) (da_cons (d_ix (dv 7) (dv 6)) (da_cons (dv 8) da_nil)))))))
    (ss_frz 8 (ss_cons (s_set 9 S.nd (d_disp (pp_cons (dv 5) (pp_cons (dv 5) (pp_cons (d_call c_law_heads hr k_law_heads (by rfl) (da_cons (dv 7) (da_cons (dv 8) (da_cons (dv 5) da_nil)))) (pp_cons d_int (pp_cons d_int pp_nil))))) (show (["words", "deeds", "heads", "left", "few"] : List Str).Nodup by decide +kernel) (Nat.le_of_ble_eq_true rfl)))
    (ss_cons (s_if (t_cmp o_gt (d_call c_law_take hr k_law_take (by rfl) (da_cons (dv 3) (da_cons d_int da_nil))) d_int) (ss_one (s_expr (d_upd (dv 9) (d_disp (pp_cons (d_op o_repL (d_sl (dv 5) do_none (do_some d_int)) d_int) (pp_cons d_int pp_nil)) (show (["deeds", "few"] : List Str).Nodup by decide +kernel) (Nat.le_of_ble_eq_true rfl))))) ss_nil)
    (ss_cons (s_expr (d_upd (dv 9) (d_disp (pp_cons (dv 1) (pp_cons (dv 2) pp_nil)) (show (["deep", "calm"] : List Str).Nodup by decide +kernel) (Nat.le_of_ble_eq_true rfl))))
    (ss_cons (s_set 10 S.nd (d_lstM da_nil))
    (ss_cons (s_for 6 S.nd rfl PassesOwn.never (i_range (by rfl) T.n_range (dv 4)) (ss_cons (s_dput hu1 (dv 9) d_str (d_op o_add d_int (d_op o_fdiv d_int (dv 4))))
    (ss_one (s_expr (d_app (dv 10) (d_call c_law_item hr k_law_item (by rfl) (da_cons (d_ix (dv 7) (dv 6)) (da_cons (d_ix (d_dget hu1 (dv 9) d_str) (dv 6)) (da_cons (dv 9) da_nil)))))))))
    (ss_cons (s_setLc 12 11 rfl S.nd (i_list (d_dget hu1 (dv 9) d_str)) (blkOk_by (N := N_law_any) (sc := C8.fnScope st_law_any) (by decide +kernel)) (fun s H C cl fp => pg_name (i := 11) S.nd rfl (.inl rfl)) (fun s H C cl fp => (ts_one (t_pw (w_and (t_cmp o_eq (d_ixK K rfl (dv 11) d_int) d_str) (w_and1 (t_cmp o_isN (d_ixK K rfl (dv 11) d_int) d_non)))))) (fun s H C cl fp => (dv 11)))
    (ss_cons (s_set 13 S.nd (d_ix (dv 12) (d_call c_law_take hr k_law_take (by rfl) (da_cons (dv 3) (da_cons (d_callB c_len (by rfl) T.n_len hb_len (da_cons (dv 12) da_nil)) da_nil)))))
    (ss_cons (s_setLc 14 11 rfl S.nd (i_list (d_dget hu1 (dv 9) d_str)) (blkOk_by (N := N_law_any) (sc := C8.fnScope st_law_any) (by decide +kernel)) (fun s H C cl fp => pg_name (i := 11) S.nd rfl (.inl rfl)) (fun s H C cl fp => (ts_one (t_cmp o_eq (d_ixK K rfl (dv 11) d_int) d_str))) (fun s H C cl fp => (d_ixK K rfl (dv 11) d_int)))
    (ss_cons (s_set 15 S.nd (d_index hu65 (d_dget hu1 (dv 9) d_str) (dv 13)))
    (ss_cons (s_if (t_pw (w_and (t_cmp (o_neNil (hu64)) (dv 14) (d_lst da_nil)) (w_and1 (t_cmp o_gt (d_call c_law_take hr k_law_take (by rfl) (da_cons (dv 3) (da_cons d_int da_nil))) d_int)))) (ss_cons (s_set 16 S.nd (d_tup (da_cons d_str (da_cons (d_ix (dv 14) (d_call c_law_take hr k_law_take (by rfl) (da_cons (dv 3) (da_cons (d_callB c_len (by rfl) T.n_len hb_len (da_cons (dv 14) da_nil)) da_nil)))) (da_cons (d_tup (da_cons d_str (da_cons (d_call c_law_take hr k_law_take (by rfl) (da_cons (dv 3) (da_cons d_int da_nil))) da_nil))) (da_cons (d_ix (d_ix (dv 10) (dv 15)) d_int) da_nil))))))
    (ss_one (s_setix (dv 10) (dv 15) (d_op o_catT (d_sl (d_ix (dv 10) (dv 15)) do_none (do_some d_int)) (d_tup (da_cons (dv 16) da_nil)))))) ss_nil)
    (ss_cons (s_set 17 S.nd (d_call c_law_take hr k_law_take (by rfl) (da_cons (dv 3) (da_cons (dv 4) da_nil))))
    (ss_one (s_ret (d_lst (da_cons (d_callT c_tuple (by rfl) T.n_tuple hb_tuple (da_cons (d_op o_catL (d_sl (dv 10) (do_some (dv 17)) do_none) (d_sl (dv 10) do_none (do_some (dv 17)))) da_nil)) (da_cons (d_ix (dv 13) d_int) (da_cons (d_callB c_len (by rfl) T.n_len hb_len (da_cons (d_ix (dv 13) d_int) da_nil)) da_nil)))))))))))))))))))))))))))⟩
/-! _law_value_by -/
abbrev st_law_value_by : Stmt := top 47
abbrev N_law_value_by : List Str := ["_law_state", "_law_pick"]
abbrev P_law_value_by : List Str := ["_law_state"]
theorem sc_law_value_by : FnScope N_law_value_by P_law_value_by (C8.fnScope st_law_value_by) := C8.fnScope_by (by decide +kernel)
def b_law_value_by (CH CC : Addr) (R_law_take : DR) : DS := (dSeq (dAsg (dCall R_law_take (dCons (dVar 0) (dCons (dC (.int 8)) dNil))) 1)
    (dSeq (dIf (dTest (dOp (deq) (dVar 1) (dC (.int 0)))) (dRet (dOp (i2 fun i j => .int (i - j)) (dCall R_law_take (dCons (dVar 0) (dCons (dOp (i2 fun i j => .int (i + j)) (dOp (i2c CMul fun i j => .int (i * j)) (dC (.int 2)) (dOp (i2c CPow fun i j => .int (i ^ j.toNat)) (dC (.int 10)) (dC (.int 18)))) (dC (.int 1))) dNil))) (dOp (i2c CPow fun i j => .int (i ^ j.toNat)) (dC (.int 10)) (dC (.int 18))))) dNext)
    (dSeq (dIf (dTest (dOp (deq) (dVar 1) (dC (.int 1)))) (dRet (dOp (i2 fun i j => .int (i - j)) (dOp (i2c CPow fun i j => .int (i ^ j.toNat)) (dC (.int 10)) (dC (.int 18))) (dCall R_law_take (dCons (dVar 0) (dCons (dC (.int 3)) dNil))))) dNext)
    (dRet (dOp (i2 fun i j => .int (i - j)) (dCall R_law_take (dCons (dVar 0) (dCons (dC (.int 9)) dNil))) (dC (.int 3)))))))
theorem der_law_value_by (T : Txt K mg CH CC gr) {k : Nat} {f : Addr} {R_law_take : DR} {l_law_take : Nat} (c_law_take : C8.Cal Pr w K mg base l_law_take "_law_take" (spD R_law_take) []) (k_law_take : l_law_take ≤ k) (cdv : Value) (A : Around) (outer : List Env) (s : Shared) (H : Hp) (E : XK) (hr : Room k (A.deeper (envOfC "_law_value_by" (C8.fnScope st_law_value_by) s.heap.objs.size f cdv))) :
    ∃ ts, PSsd (cxOf C8.CX0 Pr w K mg base N_law_value_by "_law_value_by" (C8.fnScope st_law_value_by) f cdv A outer s H E).nox (C8.fnBody st_law_value_by) ts (b_law_value_by CH CC R_law_take) := by
  have S := sc_law_value_by
  have hu64 : (A.deeper (envOfC "_law_value_by" (C8.fnScope st_law_value_by) s.heap.objs.size f cdv)).units + 64 < cLine := by have := hr.un; omega
  have hu65 : (A.deeper (envOfC "_law_value_by" (C8.fnScope st_law_value_by) s.heap.objs.size f cdv)).units + 65 < cLine := by have := hr.un; omega
  have hu1 : (A.deeper (envOfC "_law_value_by" (C8.fnScope st_law_value_by) s.heap.objs.size f cdv)).units + 1 < cLine := by have := hr.un; omega
  exact ⟨_, (ss_cons (s_set 1 S.nd (d_call c_law_take hr k_law_take (by rfl) (da_cons (dv 0) (da_cons d_int da_nil))))
    (ss_cons (s_if (t_cmp o_eq (dv 1) d_int) (ss_one (s_ret (d_op o_sub (d_call c_law_take hr k_law_take (by rfl) (da_cons (dv 0) (da_cons (d_op o_add (d_op o_mul d_int (d_op o_pow d_int d_int)) d_int) da_nil))) (d_op o_pow d_int d_int)))) ss_nil)
    (ss_cons (s_if (t_cmp o_eq (dv 1) d_int) (ss_one (s_ret (d_op o_sub (d_op o_pow d_int d_int) (d_call c_law_take hr k_law_take (by rfl) (da_cons (dv 0) (da_cons d_int da_nil)))))) ss_nil)
    (ss_one (s_ret (d_op o_sub (d_call c_law_take hr k_law_take (by rfl) (da_cons (dv 0) (da_cons d_int da_nil))) d_int))))))⟩
/-! _law_input -/
abbrev st_law_input : Stmt := top 48
abbrev N_law_input : List Str := ["_law_script", "_law_many", "_law_state", "_law_k", "_law_numbers", "_law_answers"]
abbrev P_law_input : List Str := ["_law_script", "_law_many"]
theorem sc_law_input : FnScope N_law_input P_law_input (C8.fnScope st_law_input) := C8.fnScope_by (by decide +kernel)
def b_law_input_t3 (CH CC : Addr) (R_law_source : DR) (R_law_value_by : DR) (R_law_take : DR) : DS := (dRet (dLst (dCons (dVar 4) (dCons (dVar 5) (dCons (dCall R_law_source (dCons (dVar 0) (dCons (dC (.int 62)) dNil))) dNil)))))
def b_law_input_t2 (CH CC : Addr) (R_law_source : DR) (R_law_value_by : DR) (R_law_take : DR) : DS := (dSeq (dAsg (dLc 3 (dRange (dCall R_law_take (dCons (dVar 2) (dCons (dC (.int 21)) dNil)))) dYes (dCall R_law_value_by (dCons (dCall R_law_source (dCons (dVar 0) (dCons (dOp (i2 fun i j => .int (i + j)) (dC (.int 42)) (dVar 3)) dNil))) dNil))) 5)
    (b_law_input_t3 CH CC R_law_source R_law_value_by R_law_take))
def b_law_input_t1 (CH CC : Addr) (R_law_source : DR) (R_law_value_by : DR) (R_law_take : DR) : DS := (dSeq (dAsg (dLc 3 (dRange (dVar 1)) dYes (dCall R_law_value_by (dCons (dVar 2) dNil))) 4)
    (b_law_input_t2 CH CC R_law_source R_law_value_by R_law_take))
def b_law_input (CH CC : Addr) (R_law_source : DR) (R_law_value_by : DR) (R_law_take : DR) : DS := (dSeq (dAsg (dCall R_law_source (dCons (dVar 0) (dCons (dC (.int 41)) dNil))) 2)
    (b_law_input_t1 CH CC R_law_source R_law_value_by R_law_take))
theorem der_law_input (T : Txt K mg CH CC gr) {k : Nat} {f : Addr} {R_law_source : DR} {l_law_source : Nat} (c_law_source : C8.Cal Pr w K mg base l_law_source "_law_source" (spD R_law_source) []) (k_law_source : l_law_source ≤ k) {R_law_value_by : DR} {l_law_value_by : Nat} (c_law_value_by : C8.Cal Pr w K mg base l_law_value_by "_law_value_by" (spD R_law_value_by) []) (k_law_value_by : l_law_value_by ≤ k) {R_law_take : DR} {l_law_take : Nat} (c_law_take : C8.Cal Pr w K mg base l_law_take "_law_take" (spD R_law_take) []) (k_law_take : l_law_take ≤ k) (cdv : Value) (A : Around) (outer : List Env) (s : Shared) (H : Hp) (E : XK) (hr : Room k (A.deeper (envOfC "_law_input" (C8.fnScope st_law_input) s.heap.objs.size f cdv))) :
    ∃ ts, PSsd (cxOf C8.CX0 Pr w K mg base N_law_input "_law_input" (C8.fnScope st_law_input) f cdv A outer s H E).nox (C8.fnBody st_law_input) ts (b_law_input CH CC R_law_source R_law_value_by R_law_take) := by
  have S := sc_law_input
  have hu64 : (A.deeper (envOfC "_law_input" (C8.fnScope st_law_input) s.heap.objs.size f cdv)).units + 64 < cLine := by have := hr.un; omega
  have hu65 : (A.deeper (envOfC "_law_input" (C8.fnScope st_law_input) s.heap.objs.size f cdv)).units + 65 < cLine := by have := hr.un; omega
  have hu1 : (A.deeper (envOfC "_law_input" (C8.fnScope st_law_input) s.heap.objs.size f cdv)).units + 1 < cLine := by have := hr.un; omega
  exact ⟨_, (ss_cons (s_set 2 S.nd (d_call c_law_source hr k_law_source (by rfl) (da_cons (dv 0) (da_cons d_int da_nil))))
    (ss_cons (s_setLc 4 3 rfl S.nd (i_range (by rfl) T.n_range (dv 1)) (blkOk_by (N := N_law_input) (sc := C8.fnScope st_law_input) (by decide +kernel)) (fun s H C cl fp => pg_name (i := 3) S.nd rfl (.inl rfl)) (fun s H C cl fp => ts_nil) (fun s H C cl fp => (d_call c_law_value_by hr k_law_value_by (by rfl) (da_cons (dv 2) da_nil))))
    (ss_cons (s_setLc 5 3 rfl S.nd (i_range (by rfl) T.n_range (d_call c_law_take hr k_law_take (by rfl) (da_cons (dv 2) (da_cons d_int da_nil)))) (blkOk_by (N := N_law_input) (sc := C8.fnScope st_law_input) (by decide +kernel)) (fun s H C cl fp => pg_name (i := 3) S.nd rfl (.inl rfl)) (fun s H C cl fp => ts_nil) (fun s H C cl fp => (d_call c_law_value_by hr k_law_value_by (by rfl) (da_cons (d_call c_law_source hr k_law_source (by rfl) (da_cons (dv 0) (da_cons (d_op o_add d_int (dv 3)) da_nil))) da_nil))))
    (ss_one (s_ret (d_lst (da_cons (dv 4) (da_cons (dv 5) (da_cons (d_call c_law_source hr k_law_source (by rfl) (da_cons (dv 0) (da_cons d_int da_nil))) da_nil)))))))))⟩
/-! _law_right -/
abbrev st_law_right : Stmt := top 49
abbrev N_law_right : List Str := ["_law_found", "_law_end", "_law_record", "_law_used", "_law_part", "_law_one"]
abbrev P_law_right : List Str := ["_law_found", "_law_end", "_law_record", "_law_used"]
theorem sc_law_right : FnScope N_law_right P_law_right (C8.fnScope st_law_right) := C8.fnScope_by (by decide +kernel)
def b_law_right_L1 (CH CC : Addr) : DS := (dIf (dOr (dNot (dTest (dCB drIs (dCons (dVar 4) (dCons (dC (.ty "tuple")) dNil))))) (dTest (dCB drAny (dCons (dLc 5 (dTuple (dVar 4)) dYes (dCB drIs (dCons (dVar 5) (dCons (dC (.ty "bool")) dNil)))) dNil)))) (dRet (dC (.bl false))) dNext)
def b_law_right (CH CC : Addr) : DS := (dSeq (dIf (dOr (dNot (dTest (dCB drIs (dCons (dVar 0) (dCons (dC (.ty "tuple")) dNil))))) (dOr (dTest (dOp (dne) (dCB drLen (dCons (dVar 0) dNil)) (dC (.int 3)))) (dNot (dTest (dCB drIs (dCons (dOp dix (dVar 0) (dC (.int 1))) (dCons (dC (.ty "list")) dNil))))))) (dRet (dC (.bl false))) dNext)
    (dSeq (dForI 4 (dList (dOp (dcatL) (dLst (dCons (dOp dix (dVar 0) (dC (.int 0))) (dCons (dTup (dCons (dOp dix (dVar 0) (dC (.int 2))) dNil)) dNil))) (dOp dix (dVar 0) (dC (.int 1))))) (b_law_right_L1 CH CC))
    (dRet (dOp (deqD) (dVar 0) (dTup (dCons (dVar 1) (dCons (dVar 2) (dCons (dVar 3) dNil))))))))
theorem der_law_right (T : Txt K mg CH CC gr) {k : Nat} {f : Addr} (cdv : Value) (A : Around) (outer : List Env) (s : Shared) (H : Hp) (E : XK) (hr : Room k (A.deeper (envOfC "_law_right" (C8.fnScope st_law_right) s.heap.objs.size f cdv))) :
    ∃ ts, PSsd (cxOf C8.CX0 Pr w K mg base N_law_right "_law_right" (C8.fnScope st_law_right) f cdv A outer s H E).nox (C8.fnBody st_law_right) ts (b_law_right CH CC) := by
  have S := sc_law_right
  have hu64 : (A.deeper (envOfC "_law_right" (C8.fnScope st_law_right) s.heap.objs.size f cdv)).units + 64 < cLine := by have := hr.un; omega
  have hu65 : (A.deeper (envOfC "_law_right" (C8.fnScope st_law_right) s.heap.objs.size f cdv)).units + 65 < cLine := by have := hr.un; omega
  have hu1 : (A.deeper (envOfC "_law_right" (C8.fnScope st_law_right) s.heap.objs.size f cdv)).units + 1 < cLine := by have := hr.un; omega
  exact ⟨_, (ss_cons (s_if (t_pw (w_or (t_not (t_val (d_callB c_is (by rfl) T.n_isinstance hb_isinstance (da_cons (dv 0) (da_cons (d_ty (n := "tuple") (by rfl) T.n_tuple hb_tuple) da_nil))))) (w_or (t_cmp o_ne (d_callB c_len (by rfl) T.n_len hb_len (da_cons (dv 0) da_nil)) d_int) (w_or1 (t_not (t_val (d_callB c_is (by rfl) T.n_isinstance hb_isinstance (da_cons (d_ix (dv 0) d_int) (da_cons (d_ty (n := "list") (by rfl) T.n_list hb_list) da_nil))))))))) (ss_one (s_ret d_bl)) ss_nil)
    (ss_cons (s_for 4 S.nd rfl PassesOwn.never (i_list (d_op o_catL (d_lst (da_cons (d_ix (dv 0) d_int) (da_cons (d_tup (da_cons (d_ix (dv 0) d_int) da_nil)) da_nil))) (d_ix (dv 0) d_int))) (ss_one (s_if (t_pw (w_or (t_not (t_val (d_callB c_is (by rfl) T.n_isinstance hb_isinstance (da_cons (dv 4) (da_cons (d_ty (n := "tuple") (by rfl) T.n_tuple hb_tuple) da_nil))))) (w_or1 (t_val (d_callB (c_any rfl) (by rfl) T.n_any hb_any (da_cons (d_lc 5 rfl S.nd (i_tuple (dv 4)) (blkOk_by (N := N_law_right) (sc := C8.fnScope st_law_right) (by decide +kernel)) (fun s H C cl fp => pg_name (i := 5) S.nd rfl (.inl rfl)) (fun s H C cl fp => ts_nil) (fun s H C cl fp => (d_callB (c_isK K rfl) (by rfl) T.n_isinstance hb_isinstance (da_cons (dv 5) (da_cons (d_ty (n := "bool") (by rfl) T.n_bool hb_bool) da_nil))))) da_nil)))))) (ss_one (s_ret d_bl)) ss_nil)))
    (ss_one (s_ret (d_cmp (o_eqD (hu64)) (dv 0) (d_tup (da_cons (dv 1) (da_cons (dv 2) (da_cons (dv 3) da_nil)))))))))⟩
/-! _law_cut -/
abbrev st_law_cut : Stmt := top 50
abbrev N_law_cut : List Str := ["_law_found", "_law_turns", "_law_other", "_law_entry"]
abbrev P_law_cut : List Str := ["_law_found", "_law_turns", "_law_other"]
theorem sc_law_cut : FnScope N_law_cut P_law_cut (C8.fnScope st_law_cut) := C8.fnScope_by (by decide +kernel)
def b_law_cut_t3 (CH CC : Addr) (R_law_right : DR) (R_law_cut : DR) : DS := (dRet (dOp (i2 fun i j => .bl (decide (i ≤ j))) (dCB drLen (dCons (dLc 3 (dList (dOp dix (dVar 2) (dC (.int 1)))) (dTest (dOp (deq) (dOp dix (dVar 3) (dC (.int 0))) (dC (.str "do")))) (dVar 3)) dNil)) (dVar 1)))
def b_law_cut_t2 (CH CC : Addr) (R_law_right : DR) (R_law_cut : DR) : DS := (dSeq (dIf (dNot (dTest (dCall R_law_right (dCons (dVar 2) (dCons (dTup (dCons (dC (.str "spent")) dNil)) (dCons (dSl (dOp dix (dVar 0) (dC (.int 1))) dNoP (dPart (dCB drLen (dCons (dOp dix (dVar 2) (dC (.int 1))) dNil)))) (dCons (dVar 1) dNil))))))) (dRet (dC (.bl false))) dNext)
    (b_law_cut_t3 CH CC R_law_right R_law_cut))
def b_law_cut_t1 (CH CC : Addr) (R_law_right : DR) (R_law_cut : DR) : DS := (dSeq (dIf (dTest (dOp (i2 fun i j => .bl (decide (j < i))) (dVar 1) (dOp dix (dVar 0) (dC (.int 2))))) (dRet (dCall R_law_cut (dCons (dVar 2) (dCons (dOp dix (dVar 0) (dC (.int 2))) (dCons (dVar 0) dNil))))) dNext)
    (b_law_cut_t2 CH CC R_law_right R_law_cut))
def b_law_cut (CH CC : Addr) (R_law_right : DR) (R_law_cut : DR) : DS := (dSeq (dIf (dAnd (dTest (dOp (i2 fun i j => .bl (decide (j ≤ i))) (dVar 1) (dOp dix (dVar 0) (dC (.int 2))))) (dOr (dTest (dOp (dneD) (dOp dix (dVar 0) (dC (.int 0))) (dTup (dCons (dC (.str "spent")) dNil)))) (dTest (dOp (deq) (dVar 1) (dOp dix (dVar 0) (dC (.int 2))))))) (dRet (dCall R_law_right (dCons (dVar 2) (dCons (dOp dix (dVar 0) (dC (.int 0))) (dCons (dOp dix (dVar 0) (dC (.int 1))) (dCons (dOp dix (dVar 0) (dC (.int 2))) dNil)))))) dNext)
    (b_law_cut_t1 CH CC R_law_right R_law_cut))
theorem der_law_cut (T : Txt K mg CH CC gr) {k : Nat} {f : Addr} {R_law_right : DR} {l_law_right : Nat} (c_law_right : C8.Cal Pr w K mg base l_law_right "_law_right" (spD R_law_right) []) (k_law_right : l_law_right ≤ k) {R_law_cut : DR} {l_law_cut : Nat} (c_law_cut : C8.Cal Pr w K mg base l_law_cut "_law_cut" (spD R_law_cut) []) (k_law_cut : l_law_cut ≤ k) (cdv : Value) (A : Around) (outer : List Env) (s : Shared) (H : Hp) (E : XK) (hr : Room k (A.deeper (envOfC "_law_cut" (C8.fnScope st_law_cut) s.heap.objs.size f cdv))) :
    ∃ ts, PSsd (cxOf C8.CX0 Pr w K mg base N_law_cut "_law_cut" (C8.fnScope st_law_cut) f cdv A outer s H E).nox (C8.fnBody st_law_cut) ts (b_law_cut CH CC R_law_right R_law_cut) := by
  have S := sc_law_cut
  have hu64 : (A.deeper (envOfC "_law_cut" (C8.fnScope st_law_cut) s.heap.objs.size f cdv)).units + 64 < cLine := by have := hr.un; omega
  have hu65 : (A.deeper (envOfC "_law_cut" (C8.fnScope st_law_cut) s.heap.objs.size f cdv)).units + 65 < cLine := by have := hr.un; omega
  have hu1 : (A.deeper (envOfC "_law_cut" (C8.fnScope st_law_cut) s.heap.objs.size f cdv)).units + 1 < cLine := by have := hr.un; omega
  exact ⟨_, (ss_cons (s_if (t_pw (w_and (t_cmp o_ge (dv 1) (d_ix (dv 0) d_int)) (w_and1 (t_pw (w_or (t_cmp (o_neD (hu64)) (d_ix (dv 0) d_int) (d_tup (da_cons d_str da_nil))) (w_or1 (t_cmp o_eq (dv 1) (d_ix (dv 0) d_int)))))))) (ss_one (s_ret (d_call c_law_right hr k_law_right (by rfl) (da_cons (dv 2) (da_cons (d_ix (dv 0) d_int) (da_cons (d_ix (dv 0) d_int) (da_cons (d_ix (dv 0) d_int) da_nil))))))) ss_nil)
    (ss_cons (s_if (t_cmp o_gt (dv 1) (d_ix (dv 0) d_int)) (ss_one (s_ret (d_call c_law_cut hr k_law_cut (by rfl) (da_cons (dv 2) (da_cons (d_ix (dv 0) d_int) (da_cons (dv 0) da_nil)))))) ss_nil)
    (ss_cons (s_if (t_not (t_val (d_call c_law_right hr k_law_right (by rfl) (da_cons (dv 2) (da_cons (d_tup (da_cons d_str da_nil)) (da_cons (d_sl (d_ix (dv 0) d_int) do_none (do_some (d_callB c_len (by rfl) T.n_len hb_len (da_cons (d_ix (dv 2) d_int) da_nil)))) (da_cons (dv 1) da_nil))))))) (ss_one (s_ret d_bl)) ss_nil)
    (ss_one (s_ret (d_cmp o_le (d_callB c_len (by rfl) T.n_len hb_len (da_cons (d_lc 3 rfl S.nd (i_list (d_ix (dv 2) d_int)) (blkOk_by (N := N_law_cut) (sc := C8.fnScope st_law_cut) (by decide +kernel)) (fun s H C cl fp => pg_name (i := 3) S.nd rfl (.inl rfl)) (fun s H C cl fp => (ts_one (t_cmp o_eq (d_ixK K rfl (dv 3) d_int) d_str))) (fun s H C cl fp => (dv 3))) da_nil)) (dv 1)))))))⟩
/-! law -/
abbrev st_law : Stmt := top 51
abbrev N_law : List Str := ["_law_script", "_law_program", "_law_f", "_law_many", "_law_numbers", "_law_answers", "_law_state", "_law_most", "_law_found", "_law_turns"]
abbrev P_law : List Str := ["_law_script"]
theorem sc_law : FnScope N_law P_law (C8.fnScope st_law) := C8.fnScope_by (by decide +kernel)
def b_law_L1 (CH CC : Addr) (R_law_any : DR) (R_law_input : DR) (R_law_take : DR) (R_run : DR) (R_law_right : DR) (R_law_cut : DR) : DS := (dIf (dNot (dTest (dCall R_law_cut (dCons (dVar 8) (dCons (dVar 9) (dCons (dCall R_run (dCons (dVar 1) (dCons (dVar 2) (dCons (dCB drList (dCons (dVar 4) dNil)) (dCons (dCB drList (dCons (dVar 5) dNil)) (dCons (dVar 9) dNil)))))) dNil)))))) (dRet (dC (.bl false))) dNext)
def b_law_t6 (CH CC : Addr) (R_law_any : DR) (R_law_input : DR) (R_law_take : DR) (R_run : DR) (R_law_right : DR) (R_law_cut : DR) : DS := (dRet (dC (.bl true)))
def b_law_t5 (CH CC : Addr) (R_law_any : DR) (R_law_input : DR) (R_law_take : DR) (R_run : DR) (R_law_right : DR) (R_law_cut : DR) : DS := (dSeq (dForI 9 (dList (dLst (dCons (dCall R_law_take (dCons (dVar 6) (dCons (dC (.int 41)) dNil))) (dCons (dOp dix (dVar 8) (dC (.int 2))) (dCons (dCB drMax (dCons (dC (.int 0)) (dCons (dOp (i2 fun i j => .int (i - j)) (dOp dix (dVar 8) (dC (.int 2))) (dC (.int 1))) dNil))) dNil))))) (b_law_L1 CH CC R_law_any R_law_input R_law_take R_run R_law_right R_law_cut))
    (b_law_t6 CH CC R_law_any R_law_input R_law_take R_run R_law_right R_law_cut))
def b_law_t4 (CH CC : Addr) (R_law_any : DR) (R_law_input : DR) (R_law_take : DR) (R_run : DR) (R_law_right : DR) (R_law_cut : DR) : DS := (dSeq (dIf (dOr (dNot (dTest (dCall R_law_right (dCons (dVar 8) (dCons (dOp dix (dVar 8) (dC (.int 0))) (dCons (dOp dix (dVar 8) (dC (.int 1))) (dCons (dOp dix (dVar 8) (dC (.int 2))) dNil))))))) (dTest (dOp (i2 fun i j => .bl (decide (j < i))) (dOp dix (dVar 8) (dC (.int 2))) (dVar 7)))) (dRet (dC (.bl false))) dNext)
    (b_law_t5 CH CC R_law_any R_law_input R_law_take R_run R_law_right R_law_cut))
def b_law_t3 (CH CC : Addr) (R_law_any : DR) (R_law_input : DR) (R_law_take : DR) (R_run : DR) (R_law_right : DR) (R_law_cut : DR) : DS := (dSeq (dAsg (dCall R_run (dCons (dVar 1) (dCons (dVar 2) (dCons (dCB drList (dCons (dVar 4) dNil)) (dCons (dCB drList (dCons (dVar 5) dNil)) (dCons (dVar 7) dNil)))))) 8)
    (b_law_t4 CH CC R_law_any R_law_input R_law_take R_run R_law_right R_law_cut))
def b_law_t2 (CH CC : Addr) (R_law_any : DR) (R_law_input : DR) (R_law_take : DR) (R_run : DR) (R_law_right : DR) (R_law_cut : DR) : DS := (dSeq (dAsg (dCall R_law_take (dCons (dVar 6) (dCons (dC (.int 41)) dNil))) 7)
    (b_law_t3 CH CC R_law_any R_law_input R_law_take R_run R_law_right R_law_cut))
def b_law_t1 (CH CC : Addr) (R_law_any : DR) (R_law_input : DR) (R_law_take : DR) (R_run : DR) (R_law_right : DR) (R_law_cut : DR) : DS := (dSeq (dUnl (dCall R_law_input (dCons (dVar 0) (dCons (dVar 3) dNil))) [4, 5, 6])
    (b_law_t2 CH CC R_law_any R_law_input R_law_take R_run R_law_right R_law_cut))
def b_law (CH CC : Addr) (R_law_any : DR) (R_law_input : DR) (R_law_take : DR) (R_run : DR) (R_law_right : DR) (R_law_cut : DR) : DS := (dSeq (dUnl (dCall R_law_any (dCons (dVar 0) (dCons (dC (.int 40)) (dCons (dC (.bl false)) dNil)))) [1, 2, 3])
    (b_law_t1 CH CC R_law_any R_law_input R_law_take R_run R_law_right R_law_cut))
theorem der_law (T : Txt K mg CH CC gr) {k : Nat} {f : Addr} {R_law_any : DR} {l_law_any : Nat} (c_law_any : C8.Cal Pr w K mg base l_law_any "_law_any" (spD R_law_any) []) (k_law_any : l_law_any ≤ k) {R_law_input : DR} {l_law_input : Nat} (c_law_input : C8.Cal Pr w K mg base l_law_input "_law_input" (spD R_law_input) []) (k_law_input : l_law_input ≤ k) {R_law_take : DR} {l_law_take : Nat} (c_law_take : C8.Cal Pr w K mg base l_law_take "_law_take" (spD R_law_take) []) (k_law_take : l_law_take ≤ k) {R_run : DR} {l_run : Nat} (c_run : C8.Cal Pr w K mg base l_run "run" (spD R_run) []) (k_run : l_run ≤ k) {R_law_right : DR} {l_law_right : Nat} (c_law_right : C8.Cal Pr w K mg base l_law_right "_law_right" (spD R_law_right) []) (k_law_right : l_law_right ≤ k) {R_law_cut : DR} {l_law_cut : Nat} (c_law_cut : C8.Cal Pr w K mg base l_law_cut "_law_cut" (spD R_law_cut) []) (k_law_cut : l_law_cut ≤ k) (cdv : Value) (A : Around) (outer : List Env) (s : Shared) (H : Hp) (E : XK) (hr : Room k (A.deeper (envOfC "law" (C8.fnScope st_law) s.heap.objs.size f cdv))) :
    ∃ ts, PSsd (cxOf C8.CX0 Pr w K mg base N_law "law" (C8.fnScope st_law) f cdv A outer s H E).nox (C8.fnBody st_law) ts (b_law CH CC R_law_any R_law_input R_law_take R_run R_law_right R_law_cut) := by
  have S := sc_law
  have hu64 : (A.deeper (envOfC "law" (C8.fnScope st_law) s.heap.objs.size f cdv)).units + 64 < cLine := by have := hr.un; omega
  have hu65 : (A.deeper (envOfC "law" (C8.fnScope st_law) s.heap.objs.size f cdv)).units + 65 < cLine := by have := hr.un; omega
  have hu1 : (A.deeper (envOfC "law" (C8.fnScope st_law) s.heap.objs.size f cdv)).units + 1 < cLine := by have := hr.un; omega
  exact ⟨_, (ss_cons (s_unl [1, 2, 3] rfl (pgs_cons (pg_name (i := 1) S.nd rfl (.inl rfl)) (pgs_cons (pg_name (i := 2) S.nd rfl (.inl rfl)) (pgs_cons (pg_name (i := 3) S.nd rfl (.inl rfl)) pgs_nil))) (d_call c_law_any hr k_law_any (by rfl) (da_cons (dv 0) (da_cons d_int (da_cons d_bl da_nil)))))
    (ss_cons (s_unl [4, 5, 6] rfl (pgs_cons (pg_name (i := 4) S.nd rfl (.inl rfl)) (pgs_cons (pg_name (i := 5) S.nd rfl (.inl rfl)) (pgs_cons (pg_name (i := 6) S.nd rfl (.inl rfl)) pgs_nil))) (d_call c_law_input hr k_law_input (by rfl) (da_cons (dv 0) (da_cons (dv 3) da_nil))))
    (ss_cons (s_set 7 S.nd (d_call c_law_take hr k_law_take (by rfl) (da_cons (dv 6) (da_cons d_int da_nil))))
    (ss_cons (s_set 8 S.nd (d_call c_run hr k_run (by rfl) (da_cons (dv 1) (da_cons (dv 2) (da_cons (d_callT c_list (by rfl) T.n_list hb_list (da_cons (dv 4) da_nil)) (da_cons (d_callT c_list (by rfl) T.n_list hb_list (da_cons (dv 5) da_nil)) (da_cons (dv 7) da_nil)))))))
    (ss_cons (s_if (t_pw (w_or (t_not (t_val (d_call c_law_right hr k_law_right (by rfl) (da_cons (dv 8) (da_cons (d_ix (dv 8) d_int) (da_cons (d_ix (dv 8) d_int) (da_cons (d_ix (dv 8) d_int) da_nil))))))) (w_or1 (t_cmp o_gt (d_ix (dv 8) d_int) (dv 7))))) (ss_one (s_ret d_bl)) ss_nil)
    (ss_cons (s_for 9 S.nd rfl PassesOwn.never (i_list (d_lst (da_cons (d_call c_law_take hr k_law_take (by rfl) (da_cons (dv 6) (da_cons d_int da_nil))) (da_cons (d_ix (dv 8) d_int) (da_cons (d_callB (c_max rfl) (by rfl) T.n_max hb_max (da_cons d_int (da_cons (d_op o_sub (d_ix (dv 8) d_int) d_int) da_nil))) da_nil))))) (ss_one (s_if (t_not (t_val (d_call c_law_cut hr k_law_cut (by rfl) (da_cons (dv 8) (da_cons (dv 9) (da_cons (d_call c_run hr k_run (by rfl) (da_cons (dv 1) (da_cons (dv 2) (da_cons (d_callT c_list (by rfl) T.n_list hb_list (da_cons (dv 4) da_nil)) (da_cons (d_callT c_list (by rfl) T.n_list hb_list (da_cons (dv 5) da_nil)) (da_cons (dv 9) da_nil)))))) da_nil)))))) (ss_one (s_ret d_bl)) ss_nil)))
    (ss_one (s_ret d_bl))))))))⟩
end
end DL
set_option maxHeartbeats 200000
/-! K53a: what each function promises; its reading keeps it: trees, rest -/
namespace DL
open PySem PySem.Spec PyProof.Rows L2

/-! ### small tools -/
def optD {α : Type} (f : α → D) : Option α → D
  | none => .non
  | some a => f a
theorem nd_get {mu : Mu} {P : PD} {d : D} (h : P d mu) : ∃ mu2, Sub mu2 mu ∧ P d mu2 := ⟨mu, Sub.refl _, h⟩
@[simp] theorem atI_cons0 {α : Type} (x : α) (xs : List α) : atI (x :: xs) 0 = some x := by
  unfold atI ixN; simp
@[simp] theorem atI_cons1 {α : Type} (x y : α) (xs : List α) : atI (x :: y :: xs) 1 = some y := by
  unfold atI ixN; simp; split <;> first | rfl | (exfalso; omega)
@[simp] theorem atI_cons2 {α : Type} (x y z : α) (xs : List α) : atI (x :: y :: z :: xs) 2 = some z := by
  unfold atI ixN; simp; split <;> first | rfl | (exfalso; omega)
@[simp] theorem atI_cons3 {α : Type} (x y z u : α) (xs : List α) : atI (x :: y :: z :: u :: xs) 3 = some u := by
  unfold atI ixN; simp; split <;> first | rfl | (exfalso; omega)
@[simp] theorem atI_cons4 {α : Type} (x y z u v : α) (xs : List α) : atI (x :: y :: z :: u :: v :: xs) 4 = some v := by
  unfold atI ixN; simp; split <;> first | rfl | (exfalso; omega)
@[simp] theorem sqv_tup (mu : Mu) (ds : List D) : sqv mu (.tup ds) = some ds := rfl
@[simp] theorem sqv_lst (mu : Mu) (ds : List D) : sqv mu (.lst ds) = some ds := rfl
@[simp] theorem sqv_fz (mu : Mu) (is : List Int) : sqv mu (.fz is) = some (is.map .int) := rfl
@[simp] theorem lv_lst (mu : Mu) (ds : List D) : lv mu (.lst ds) = some ds := rfl
@[simp] theorem lv_tup (mu : Mu) (ds : List D) : lv mu (.tup ds) = none := rfl
@[simp] theorem tv_tup (ds : List D) : tv (.tup ds) = some ds := rfl
@[simp] theorem tv_lst (ds : List D) : tv (.lst ds) = none := rfl
@[simp] theorem dix_tup (ds : List D) (i : Int) (mu : Mu) (P : PD) : dix (.tup ds) (.int i) mu P = match atI ds i with
  | some d => P d mu
  | none => False := propext ⟨fun h => h, fun h => h⟩
@[simp] theorem dix_fz (is : List Int) (i : Int) (mu : Mu) (P : PD) : dix (.fz is) (.int i) mu P = match atI (is.map .int) i with
  | some d => P d mu
  | none => False := propext ⟨fun h => h, fun h => h⟩
@[simp] theorem dix_lst (ds : List D) (i : Int) (mu : Mu) (P : PD) : dix (.lst ds) (.int i) mu P = match atI ds i with
  | some d => P d mu
  | none => False := propext ⟨fun h => h, fun h => h⟩
@[simp] theorem deq_str (a b : Str) (mu : Mu) (P : PD) : deq (.str a) (.str b) mu P = P (.bl (decide (a = b))) mu := propext ⟨fun h => h, fun h => h⟩
@[simp] theorem deq_int (a b : Int) (mu : Mu) (P : PD) : deq (.int a) (.int b) mu P = P (.bl (decide (a = b))) mu := propext ⟨fun h => h, fun h => h⟩
@[simp] theorem deq_ns (b : Str) (mu : Mu) (P : PD) : deq .non (.str b) mu P = P (.bl false) mu := propext ⟨fun h => h, fun h => h⟩
@[simp] theorem deq_sn (b : Str) (mu : Mu) (P : PD) : deq (.str b) .non mu P = P (.bl false) mu := propext ⟨fun h => h, fun h => h⟩
@[simp] theorem dne_str (a b : Str) (mu : Mu) (P : PD) : dne (.str a) (.str b) mu P = P (.bl (!decide (a = b))) mu := propext ⟨fun h => h, fun h => h⟩
@[simp] theorem dne_int (a b : Int) (mu : Mu) (P : PD) : dne (.int a) (.int b) mu P = P (.bl (!decide (a = b))) mu := propext ⟨fun h => h, fun h => h⟩
@[simp] theorem disN_ (x : D) (mu : Mu) (P : PD) : disN x .non mu P = P (.bl (isNon x)) mu := propext ⟨fun h => h, fun h => h⟩
@[simp] theorem dnotN_ (x : D) (mu : Mu) (P : PD) : dnotN x .non mu P = P (.bl (!isNon x)) mu := propext ⟨fun h => h, fun h => h⟩
@[simp] theorem isNon_tup (ds : List D) : isNon (.tup ds) = false := rfl
@[simp] theorem isNon_non : isNon .non = true := rfl
@[simp] theorem isNon_str (x : Str) : isNon (.str x) = false := rfl
@[simp] theorem isNon_lst (ds : List D) : isNon (.lst ds) = false := rfl
@[simp] theorem isNon_optS (x : Option Str) : isNon (optS x) = x.isNone := by cases x <;> rfl
@[simp] theorem strInj' {a b : String} : (Str.ofString a = Str.ofString b) = (a = b) := strInj

/-! ### trees -/
def R_item_named : DR := fun mu ds P => ∃ p x, ds = [progD p, .str x] ∧ P (optD itemD (itemNamed p x)) mu
theorem item_name1 (i : Item) : ∃ a b, itemD i = .tup (a :: .str i.name :: b) := by
  cases i <;> exact ⟨_, _, rfl⟩
theorem loop_item_named (CH CC : Addr) (Z : DEnds) (x : Str) (d : D) (mu : Mu) : ∀ (q : List Item) (o : Option D), (∀ i, itemNamed q x = some i → Z.rt (itemD i) mu) → (itemNamed q x = none → ∀ o, Z.nx [some d, some (.str x), o] mu) →
    dFor 2 (b_item_named_L1 CH CC) (q.map itemD) Z [some d, some (.str x), o] mu
  | [], o, h, k => k rfl o
  | i :: q, o, h, k => by
    rw [List.map_cons, x_for1]
    obtain ⟨a, b, e⟩ := item_name1 i
    unfold b_item_named_L1
    simp [e]
    unfold itemNamed at h k
    split
    · rename_i hx
      rw [if_pos hx] at h
      rw [← e]
      exact h i rfl
    · rename_i hx
      rw [if_neg hx] at h k
      exact loop_item_named CH CC Z x d mu q _ h k
theorem body_item_named (CH CC : Addr) : ∀ mu es P, R_item_named mu es P → b_item_named CH CC (endsG mu P) (startD N_item_named es) mu := by
  rintro mu es P ⟨p, x, rfl, h⟩
  unfold b_item_named
  simp [progD]
  refine loop_item_named CH CC _ x _ mu p none (fun i e => ?_) (fun e o => ?_)
  · rw [e] at h
    exact nd_get h
  · rw [e] at h
    exact nd_get h
def R_function_named : DR := fun mu ds P => ∃ p x, ds = [progD p, .str x] ∧ P (optD fnD (fnNamed p x)) mu
theorem body_function_named (CH CC : Addr) : ∀ mu es P, R_function_named mu es P → b_function_named CH CC R_item_named (endsG mu P) (startD N_function_named es) mu := by
  rintro mu es P ⟨p, x, rfl, h⟩
  unfold b_function_named
  simp
  refine ⟨p, x, rfl, ?_⟩
  unfold fnNamed at h
  split at h
  · rename_i f e
    rw [e]
    simp [optD, itemD, fnD]
    exact nd_get (by simpa [optD, fnD] using h)
  · rename_i e
    cases e2 : itemNamed p x with
    | none => 
      simp [optD]
      exact nd_get h
    | some i =>
      cases i with
      | fn f => exact absurd e2 (e f)
      | hand hd =>
        simp [optD, itemD, handD]
        exact nd_get h
def R_handler_named : DR := fun mu ds P => ∃ p x, ds = [progD p, .str x] ∧ P (optD handD (handNamed p x)) mu
theorem body_handler_named (CH CC : Addr) : ∀ mu es P, R_handler_named mu es P → b_handler_named CH CC R_item_named (endsG mu P) (startD N_handler_named es) mu := by
  rintro mu es P ⟨p, x, rfl, h⟩
  unfold b_handler_named
  simp
  refine ⟨p, x, rfl, ?_⟩
  unfold handNamed at h
  split at h
  · rename_i f e
    rw [e]
    simp [optD, itemD, handD]
    exact nd_get (by simpa [optD, handD] using h)
  · rename_i e
    cases e2 : itemNamed p x with
    | none => 
      simp [optD]
      exact nd_get h
    | some i =>
      cases i with
      | hand f => exact absurd e2 (e f)
      | fn hd =>
        simp [optD, itemD, fnD]
        exact nd_get h
def R_clause_for : DR := fun mu ds P => ∃ h d, ds = [handD h, .str d] ∧ P (optD clauseD (clauseFor h.clauses d)) mu
theorem loop_clause_for (CH CC : Addr) (Z : DEnds) (x : Str) (d : D) (mu : Mu) : ∀ (q : List Clause) (o : Option D), (∀ i, clauseFor q x = some i → Z.rt (clauseD i) mu) → (clauseFor q x = none → ∀ o, Z.nx [some d, some (.str x), o] mu) →
    dFor 2 (b_clause_for_L1 CH CC) (q.map clauseD) Z [some d, some (.str x), o] mu
  | [], o, h, k => k rfl o
  | i :: q, o, h, k => by
    rw [List.map_cons, x_for1]
    unfold b_clause_for_L1
    simp [clauseD]
    unfold clauseFor at h k
    split
    · rename_i hx
      rw [if_pos hx] at h
      exact h i rfl
    · rename_i hx
      rw [if_neg hx] at h k
      exact loop_clause_for CH CC Z x d mu q _ h k
theorem body_clause_for (CH CC : Addr) : ∀ mu es P, R_clause_for mu es P → b_clause_for CH CC (endsG mu P) (startD N_clause_for es) mu := by
  rintro mu es P ⟨hd, x, rfl, h⟩
  unfold b_clause_for
  simp [handD]
  refine loop_clause_for CH CC _ x _ mu hd.clauses none (fun i e => ?_) (fun e o => ?_)
  · rw [e] at h
    exact nd_get h
  · rw [e] at h
    exact nd_get h
end DL
set_option maxHeartbeats 200000
/-! K53b: rest.py -/
namespace DL
open PySem PySem.Spec PyProof.Rows L2

@[simp] theorem k_stands (t : Tree) : (kindS t = Str.ofString "stands") = False := by cases t <;> simp [kindS]
@[simp] theorem k_clause (t : Tree) : (kindS t = Str.ofString "clause") = False := by cases t <;> simp [kindS]
@[simp] theorem k_cleans (t : Tree) : (kindS t = Str.ofString "cleans") = False := by cases t <;> simp [kindS]
@[simp] theorem k_args (t : Tree) : (kindS t = Str.ofString "args") = False := by cases t <;> simp [kindS]
@[simp] theorem k_second (t : Tree) : (kindS t = Str.ofString "second") = False := by cases t <;> simp [kindS]
@[simp] theorem k_deed (t : Tree) : (kindS t = Str.ofString "deed") = False := by cases t <;> simp [kindS]
@[simp] theorem k_goes (t : Tree) : (kindS t = Str.ofString "goes") = False := by cases t <;> simp [kindS]
theorem framesD_app (a b : List Frame) : framesD (a ++ b) = framesD a ++ framesD b := by simp [framesD_map]
theorem framesD_len (a : List Frame) : (framesD a).length = a.length := by simp [framesD_map]
def standsD (h : Hand) (kept : Int) : D := .tup [.str "stands", handD h, .int kept]
def heldD (pre : List Frame) (h : Hand) (kept : Int) : D := .tup (framesD pre ++ [standsD h kept])
@[simp] theorem lv_cell {mu : Mu} {a : Addr} {ds : List D} (h : mget mu a = some (.lst ds)) : lv mu (.obj a) = some ds := by
  simp only [lv, h]
theorem lv_top {mu : Mu} {a : Addr} {ds : List D} : lv ((a, .lst ds) :: mu) (.obj a) = some ds := lv_cell mget_top
def tkD : Option (List Frame × Hand × Int × List Frame) → D
  | none => .non
  | some (pre, h, kept, r) => .tup [heldD pre h kept, restD r]
def addPre (seen : List Frame) : Option (List Frame × Hand × Int × List Frame) → Option (List Frame × Hand × Int × List Frame)
  | none => none
  | some (pre, h, kept, r) => some (seen ++ pre, h, kept, r)
theorem addPre_nil (o : Option (List Frame × Hand × Int × List Frame)) : addPre [] o = o := by
  cases o <;> rfl
theorem take_pass {d : Str} {f : Frame} {r seen : List Frame} (h : ∀ hd k, f = .stands hd k → clauseFor hd.clauses d = none) : addPre seen (takenOff d (f :: r)) = addPre (seen ++ [f]) (takenOff d r) := by
  have key : takenOff d (f :: r) = match takenOff d r with
      | some (pre, h', k', r') => some (f :: pre, h', k', r')
      | none => none := by
    cases f <;> simp only [takenOff] <;> (try rw [h _ _ rfl]) <;> cases takenOff d r <;> simp
  rw [key]
  cases takenOff d r with
  | none => rfl
  | some q =>
    obtain ⟨pre, h', k', r'⟩ := q
    simp [addPre]
theorem take_hit {d : Str} {hd : Hand} {kept : Int} {r : List Frame} {c : Clause} (h : clauseFor hd.clauses d = some c) : takenOff d (.stands hd kept :: r) = some ([], hd, kept, r) := by
  simp only [takenOff, h]
  simp
def R_taken_off : DR := fun mu ds P => ∃ k d, ds = [restD k, .str d] ∧ k.length ≤ 10000000 ∧ P (tkD (takenOff d k)) mu
theorem sub_top (a : Addr) (o : DO) (mu : Mu) : Sub mu ((a, o) :: mu) := (Sub.refl mu).tail
theorem body_taken_off (CH CC : Addr) : ∀ mu es P, R_taken_off mu es P → b_taken_off CH CC R_clause_for (endsG mu P) (startD N_taken_off es) mu := by
  rintro mu es P ⟨k, d, rfl, hk, h⟩
  unfold b_taken_off
  simp
  intro a ha
  obtain ⟨W, hW⟩ : ∃ W : Nat → Rho → Mu → Prop, W = fun m rho mu' => ∃ seen k' o, m = k'.length ∧ rho = [some (restD k'), some (.str d), some (.obj a), o] ∧ mu' = (a, .lst (framesD seen)) :: mu ∧ seen.length + k'.length ≤ 10000000 ∧ P (tkD (addPre seen (takenOff d k'))) mu := ⟨_, rfl⟩
  refine ⟨W, ⟨k.length, by rw [hW]; exact ⟨[], k, none, rfl, rfl, rfl, by simpa using hk, by rw [addPre_nil]; exact h⟩⟩, ?_⟩
  intro m rho mu' w
  have w' := w
  rw [hW] at w'
  obtain ⟨seen, k', o, rfl, rfl, rfl, hk, hP⟩ := w'
  cases k' with
  | nil =>
    simp [restD]
    exact ⟨mu, sub_top _ _ _, hP⟩
  | cons f r =>
    simp [restD]
    refine ⟨fun r' m' => W r.length r' m', fun r' m' q => ⟨r.length, by simp, q⟩, ?_⟩
    unfold b_taken_off_L1
    simp [setAll, mget_top, mput_top, framesD_len]
    refine ⟨by simp at hk; omega, ?_⟩
    have fin : ∀ f, (∀ hd k, f = .stands hd k → clauseFor hd.clauses d = none) → seen.length + (f :: r).length ≤ 10000000 → P (tkD (addPre seen (takenOff d (f :: r)))) mu → W r.length [some (restD r), some (.str d), some (.obj a), some (frameD f)] ((a, .lst (framesD seen ++ [frameD f])) :: mu) := by
      intro f hf hk hP
      rw [hW]
      refine ⟨seen ++ [f], r, _, rfl, rfl, by rw [framesD_app]; simp [framesD], by simp at hk ⊢; omega, ?_⟩
      rw [← take_pass hf]
      exact hP
    cases f with
    | stands hd kept =>
      simp [frameD]
      refine ⟨hd, d, rfl, ?_⟩
      cases e : clauseFor hd.clauses d with
      | none =>
        simp [optD]
        simpa [frameD] using fin _ (fun hd' k' q => by cases q; exact e) hk hP
      | some c =>
        simp [optD, clauseD]
        simp [drTuple, lv_top]
        refine ⟨mu, sub_top _ _ _, ?_⟩
        rw [take_hit e] at hP
        simpa [addPre, tkD, heldD, standsD] using hP
    | _ => 
      simp [frameD]
      simpa [frameD] using fin _ (fun hd' k' q => by cases q) hk hP
end DL
set_option maxHeartbeats 200000
/-! K53c: rest.py, the rest of it -/
namespace DL
open PySem PySem.Spec PyProof.Rows L2

def pileD (fs : List D) (r : D) : D := fs.foldr (fun f r => .tup [f, r]) r
theorem pile_rest (l : List Frame) (r : List Frame) : pileD (framesD l) (restD r) = restD (l ++ r) := by
  induction l with
  | nil => simp [pileD, framesD]
  | cons f l ih =>
    simp only [framesD, pileD, List.foldr_cons, List.cons_append, restD]
    rw [← ih]
    rfl
def R_piled : DR := fun mu ds P => ∃ fs r, ds = [.lst fs, r] ∧ P (pileD fs r) mu
theorem loop_piled (CH CC : Addr) (Z : DEnds) (d : D) (mu : Mu) : ∀ (gs : List D) (r : D) (o : Option D), (∀ o, Z.nx [some d, some (gs.foldl (fun r f => .tup [f, r]) r), o] mu) → dFor 2 (b_piled_L1 CH CC) gs Z [some d, some r, o] mu
  | [], r, o, h => h o
  | g :: gs, r, o, h => by
    rw [x_for1]
    unfold b_piled_L1
    simp
    exact loop_piled CH CC Z d mu gs _ _ (by simpa using h)
theorem body_piled (CH CC : Addr) : ∀ mu es P, R_piled mu es P → b_piled CH CC (endsG mu P) (startD N_piled es) mu := by
  rintro mu es P ⟨fs, r, rfl, h⟩
  unfold b_piled
  simp
  refine loop_piled CH CC _ _ mu _ _ _ fun o => ?_
  simp
  exact nd_get h
theorem ixN_last (n : Nat) : ixN (n + 1) (-1) = some n := by
  unfold ixN
  rw [if_neg (by omega), if_pos (by omega)]
  congr 1
  omega
theorem atI_last {α : Type} (l : List α) (x : α) : atI (l ++ [x]) (-1) = some x := by
  unfold atI
  rw [List.length_append, List.length_singleton, ixN_last]
  simp
theorem dcut_last (l : List D) (x : D) : dcut (l ++ [x]) none (some (-1)) = l := by
  show ((l ++ [x]).drop 0).take ((if (-1 : Int) < 0 then ((-1 : Int) + ((l ++ [x]).length : Int)).toNat else min (-1 : Int).toNat (l ++ [x]).length) - 0) = l
  rw [List.length_append, List.length_singleton, if_pos (by omega)]
  have e : ((-1 + ((l.length + 1 : Nat) : Int))).toNat = l.length := by omega
  rw [e]
  simp
def R_put_on : DR := fun mu ds P => ∃ pre h k0 k r, ds = [heldD pre h k0, .int k, restD r] ∧ pre.length ≤ 10000000 ∧ P (restD (pre ++ .stands h k :: r)) mu
theorem body_put_on (CH CC : Addr) : ∀ mu es P, R_put_on mu es P → b_put_on CH CC R_piled (endsG mu P) (startD N_put_on es) mu := by
  rintro mu es P ⟨pre, h, k0, k, r, rfl, hl, hP⟩
  unfold b_put_on
  simp [heldD, atI_last, dcut_last, standsD, drList, dcatL, framesD_len]
  refine ⟨by omega, _, _, rfl, nd_get ?_⟩
  have := pile_rest (pre ++ [.stands h k]) r
  rw [framesD_app] at this
  simp [framesD, frameD] at this
  rw [this]
  exact hP
theorem gone_pass {f : Frame} {r : List Frame} (h : ∀ pre hd k w, f ≠ .clause pre hd k w) : goneFrom (f :: r) = match goneFrom r with
    | some (over, pre, h, kept, r') => some (f :: over, pre, h, kept, r')
    | none => none := by
  cases f <;> first | exact absurd rfl (h _ _ _ _) | (simp only [goneFrom] <;> cases goneFrom r <;> rfl)
def R_gone_from : DR := fun mu ds P => ∃ k over pre h kept r, ds = [restD k] ∧ goneFrom k = some (over, pre, h, kept, r) ∧ k.length ≤ 10000000 ∧ P (.tup [heldD pre h kept, restD (over ++ .clause pre h kept true :: r)]) mu
theorem mdel_put_top {mu : Mu} {a : Addr} {o : DO} (h : a ∉ dom mu) : mdel ((a, o) :: mu) a = mu := mdel_top h
theorem body_gone_from (CH CC : Addr) : ∀ mu es P, R_gone_from mu es P → b_gone_from CH CC R_piled (endsG mu P) (startD N_gone_from es) mu := by
  rintro mu es P ⟨k, over, pre, h, kept, r, rfl, hg, hk, hP⟩
  unfold b_gone_from
  simp
  intro a ha
  obtain ⟨W, hW⟩ : ∃ W : Nat → Rho → Mu → Prop, W = fun m rho mu' => ∃ seen k' o over', m = k'.length ∧ rho = [some (restD k'), some (.obj a), o] ∧ mu' = (a, .lst (framesD seen)) :: mu ∧ seen.length + k'.length ≤ 10000000 ∧ goneFrom k' = some (over', pre, h, kept, r) ∧ over = seen ++ over' := ⟨_, rfl⟩
  refine ⟨W, ⟨k.length, by rw [hW]; exact ⟨[], k, none, over, rfl, rfl, rfl, by simpa using hk, hg, rfl⟩⟩, ?_⟩
  intro m rho mu' w
  have w' := w
  rw [hW] at w'
  obtain ⟨seen, k', o, over', rfl, rfl, rfl, hk, hg', ho⟩ := w'
  cases k' with
  | nil => cases hg'
  | cons f k' =>
    have fin : (∀ pre hd k w, f ≠ .clause pre hd k w) → W k'.length [some (restD k'), some (.obj a), o] ((a, .lst (framesD seen ++ [frameD f])) :: mu) := by
      intro hf
      rw [gone_pass hf] at hg'
      cases e : goneFrom k' with
      | none => rw [e] at hg'; cases hg'
      | some q =>
        obtain ⟨o1, o2, o3, o4, o5⟩ := q
        rw [e] at hg'
        simp at hg'
        obtain ⟨rfl, rfl, rfl, rfl, rfl⟩ := hg'
        rw [hW]
        exact ⟨seen ++ [f], k', o, o1, rfl, rfl, by rw [framesD_app]; simp [framesD], by simp at hk ⊢; omega, e, by simp [ho]⟩
    cases f with
    | clause pre' hd' kept' went =>
      simp only [goneFrom] at hg'
      cases hg'
      simp [restD, frameD, frz, mget_top, mdel_top ha]
      refine ⟨ha, _, _, rfl, nd_get ?_⟩
      have := pile_rest seen (.clause pre h kept true :: r)
      simp only [restD, frameD] at this
      rw [this]
      rw [ho, List.append_nil] at hP
      simpa [heldD, standsD] using hP
    | _ =>
      simp [restD, frameD]
      refine ⟨fun r' m' => W k'.length r' m', fun r' m' q => ⟨k'.length, by simp, q⟩, ?_⟩
      unfold b_gone_from_L1
      simp [mget_top, mput_top, framesD_len]
      refine ⟨by simp at hk; omega, ?_⟩
      simpa [frameD] using fin (fun _ _ _ _ q => by cases q)
theorem wFs_app (a b : List Frame) : wFs (a ++ b) = wFs a + wFs b := by
  induction a with
  | nil => simp [wFs]
  | cons f a ih => simp only [List.cons_append, wFs, ih]; omega
theorem wF_pos (f : Frame) : 1 ≤ wF f := by
  cases f with
  | clause pre h k w => cases w <;> simp only [wF] <;> omega
  | _ => simp only [wF]; omega
theorem wFs_len (a : List Frame) : a.length ≤ wFs a := by
  induction a with
  | nil => simp [wFs]
  | cons f a ih => simp only [List.length_cons, wFs]; have := wF_pos f; omega
theorem thrFs_app (a b : List Frame) : thrFs (a ++ b) = thrFs a ++ thrFs b := by
  induction a with
  | nil => simp [thrFs]
  | cons f a ih => simp only [List.cons_append, thrFs, ih, List.append_assoc]
def R_thrown : DR := fun mu ds P => ∃ pre h kept, ds = [heldD pre h kept] ∧ wFs pre ≤ 10000000 ∧ P (.lst ((thrFs pre).map .int)) mu
theorem held_frames (pre : List Frame) (h : Hand) (kept : Int) : framesD pre ++ [standsD h kept] = framesD (pre ++ [.stands h kept]) := by
  rw [framesD_app]
  simp [framesD, frameD, standsD]
theorem body_thrown (CH CC : Addr) : ∀ mu es P, R_thrown mu es P → b_thrown CH CC (endsG mu P) (startD N_thrown es) mu := by
  rintro mu es P ⟨pre, h, kept, rfl, hw, hP⟩
  unfold b_thrown
  simp only [heldD, held_frames]
  simp
  intro a ha b hb
  simp [dom] at hb
  have hba : b ≠ a := hb.1
  obtain ⟨tot, htot⟩ : ∃ tot, tot = pre ++ [.stands h kept] := ⟨_, rfl⟩
  have hthr : thrFs tot = thrFs pre := by rw [htot, thrFs_app]; simp [thrFs, thrF]
  have hwt : wFs tot ≤ 10000001 := by rw [htot, wFs_app]; simp [wFs, wF]; omega
  simp only [← htot]
  obtain ⟨W, hW⟩ : ∃ W : Nat → Rho → Mu → Prop, W = fun m rho mu' => ∃ pend out o, m = wFs pend ∧ rho = [some (.tup (framesD tot)), some (.obj a), some (.obj b), o] ∧ mu' = (b, .lst (framesD pend).reverse) :: (a, .lst (out.map .int)) :: mu ∧ out.length + wFs pend ≤ 10000001 ∧ out ++ thrFs pend = thrFs pre := ⟨_, rfl⟩
  refine ⟨W, ⟨wFs tot, by rw [hW]; exact ⟨tot, [], none, rfl, rfl, rfl, by simpa using hwt, by simpa using hthr⟩⟩, ?_⟩
  intro m rho mu' w
  have w' := w
  rw [hW] at w'
  obtain ⟨pend, out, o, rfl, rfl, rfl, hs, ht⟩ := w'
  cases pend with
  | nil =>
    simp [dneNil, lv_top, framesD, thrFs] at ht ⊢
    have hda : a ∉ dom mu := ha
    refine ⟨ha, ?_⟩
    simp [mget_next hba, mget_top, frz]
    refine ⟨mu, ?_, by rw [ht]; exact hP⟩
    have : mdel ((b, DO.lst []) :: (a, .lst (out.map .int)) :: mu) a = (b, DO.lst []) :: mu := by
      show (if b = a then mdel ((a, .lst (out.map .int)) :: mu) a else (b, DO.lst []) :: mdel ((a, .lst (out.map .int)) :: mu) a) = _
      rw [if_neg hba, mdel_top ha]
    rw [this]
    exact sub_top _ _ _
  | cons f r =>
    have hlen := wFs_len (f :: r)
    simp [dneNil, lv_top, framesD]
    rw [wFs] at hs
    refine ⟨fun r' m' => ∃ k, k < wFs (f :: r) ∧ W k r' m', fun r' m' q => q, ?_⟩
    unfold b_thrown_L1
    simp [mget_top, mput_top]
    have hf1 := wF_pos f
    have fin : ∀ pend' out', wFs pend' < wFs (f :: r) → out'.length + wFs pend' ≤ 10000001 → out' ++ thrFs pend' = thrFs pre → ∃ k, k < wFs (f :: r) ∧ W k [some (.tup (framesD tot)), some (.obj a), some (.obj b), some (frameD f)] ((b, .lst (framesD pend').reverse) :: (a, .lst (out'.map .int)) :: mu) := by
      intro pend' out' h1 h2 h3
      refine ⟨wFs pend', h1, ?_⟩
      rw [hW]
      exact ⟨pend', out', _, rfl, rfl, rfl, h2, h3⟩
    have hr : wFs r < wFs (f :: r) := by simp only [wFs]; omega
    cases f with
    | cleans n =>
      simp [frameD, mget_next hba, mget_top, mput_next hba, mput_top]
      refine ⟨by simp only [wF] at hs; omega, ?_⟩
      have := fin r (out ++ [n]) hr (by simp only [wF, List.length_append, List.length_cons, List.length_nil] at hs ⊢; omega) (by rw [← ht]; simp [thrFs, thrF])
      simpa [frameD] using this
    | clause pre' hd' kept' went =>
      cases went with
      | true =>
        simp [frameD]
        have := fin r out hr (by omega) (by rw [← ht]; simp [thrFs, thrF])
        simpa [frameD] using this
      | false =>
        simp [frameD, mget_top, mput_top]
        simp only [wF] at hs
        have l1 := wFs_len pre'
        have l2 := wFs_len r
        refine ⟨by simp [framesD_len]; omega, ?_⟩
        have := fin (pre' ++ .stands hd' kept' :: r) out (by simp only [wFs, wF, wFs_app]; omega) (by simp only [wFs, wF, wFs_app]; omega) (by rw [← ht]; simp [thrFs, thrF, thrFs_app])
        rw [framesD_app] at this
        simpa [frameD, framesD, standsD] using this
    | _ =>
      simp [frameD]
      have := fin r out hr (by omega) (by rw [← ht]; simp [thrFs, thrF])
      simpa [frameD] using this
end DL
set_option maxHeartbeats 200000
/-! K53d: walk.py: Halt, Course, value_of, reckoned, called, asked -/
namespace DL
open PySem PySem.Spec PyProof.Rows L2

structure CS where
  used : Nat
  log : List Ent
  fin : Option End
abbrev cNames : List Str := ["program", "turns", "used", "record", "end"]
abbrev hNames : List Str := ["end", "record", "used", "waits"]
def crsO (CC : Addr) (p : Prog) (T : Nat) (r : Addr) (cs : CS) : DO := .ins CC cNames [progD p, .int T, .int cs.used, .obj r, oendD cs.fin]
def setC (CC : Addr) (p : Prog) (T : Nat) (c r : Addr) (cs : CS) (mu : Mu) : Mu := mput (mput mu c (crsO CC p T r cs)) r (.lst (cs.log.map entD))
structure CIn (c r : Addr) (mu : Mu) : Prop where
  hc : c ∈ dom mu
  hr : r ∈ dom mu
  ne : c ≠ r
theorem mput_comm {mu : Mu} {a b : Addr} {x y : DO} (h : a ≠ b) : mput (mput mu a x) b y = mput (mput mu b y) a x := by
  induction mu with
  | nil => rfl
  | cons q mu ih =>
    obtain ⟨k, o⟩ := q
    by_cases h1 : k = a
    · subst h1
      have h2 : ¬ k = b := h
      simp [mput, h2]
    · by_cases h2 : k = b
      · subst h2
        simp [mput, h1]
      · simp [mput, h1, h2, ih]
section
variable {CC : Addr} {p : Prog} {T : Nat} {c r : Addr} {cs cs' : CS} {mu : Mu}
theorem setC_c (i : CIn c r mu) : mget (setC CC p T c r cs mu) c = some (crsO CC p T r cs) := by
  unfold setC
  rw [get_put_ne i.ne]
  obtain ⟨o, h⟩ := dom_mget i.hc
  exact get_put_same h
theorem setC_r (i : CIn c r mu) : mget (setC CC p T c r cs mu) r = some (.lst (cs.log.map entD)) := by
  unfold setC
  obtain ⟨o, h⟩ := dom_mget (mu := mput mu c (crsO CC p T r cs)) (a := r) (by rw [dom_mput]; exact i.hr)
  exact get_put_same h
theorem setC_dom : dom (setC CC p T c r cs mu) = dom mu := by
  unfold setC
  rw [dom_mput, dom_mput]
theorem setC_putc {o : DO} (i : CIn c r mu) (e : o = crsO CC p T r cs') (h : cs'.log = cs.log) : mput (setC CC p T c r cs mu) c o = setC CC p T c r cs' mu := by
  unfold setC
  rw [mput_comm (Ne.symm i.ne), put_put, e, h]
theorem setC_putr {o : DO} (i : CIn c r mu) (e : o = .lst (cs'.log.map entD)) (h : cs'.used = cs.used) (h2 : cs'.fin = cs.fin) : mput (setC CC p T c r cs mu) r o = setC CC p T c r cs' mu := by
  have h3 : crsO CC p T r cs = crsO CC p T r cs' := by unfold crsO; rw [h, h2]
  unfold setC
  rw [put_put, e, h3]
theorem setC_cin (i : CIn c r mu) : CIn c r (setC CC p T c r cs mu) := ⟨by rw [setC_dom]; exact i.hc, by rw [setC_dom]; exact i.hr, i.ne⟩
theorem setC_ins (i : CIn c r mu) : insv (setC CC p T c r cs mu) CC (.obj c) = some (cNames, [progD p, .int T, .int cs.used, .obj r, oendD cs.fin]) := by
  unfold insv
  simp [setC_c i, crsO]
end
theorem flk_program (a b c d e : D) : flk "program" cNames [a, b, c, d, e] = some a := by simp [flk]
theorem flk_turns (a b c d e : D) : flk "turns" cNames [a, b, c, d, e] = some b := by simp [flk]
theorem flk_used (a b c d e : D) : flk "used" cNames [a, b, c, d, e] = some c := by simp [flk]
theorem flk_record (a b c d e : D) : flk "record" cNames [a, b, c, d, e] = some d := by simp [flk]
theorem flk_end (a b c d e : D) : flk "end" cNames [a, b, c, d, e] = some e := by simp [flk]
theorem nput_used : nput "used" cNames = cNames := by simp [nput]
theorem nput_end : nput "end" cNames = cNames := by simp [nput]
theorem vput_used (a b c d e x : D) : vput "used" x cNames [a, b, c, d, e] = [a, b, x, d, e] := by simp [vput]
theorem vput_end (a b c d e x : D) : vput "end" x cNames [a, b, c, d, e] = [a, b, c, d, x] := by simp [vput]

/-! ### Halt, Course -/
def R_halt (CH : Addr) : DR := fun mu ds P => ∃ h mu1 e rc u w ents, ds = [.obj h, e, rc, u, w] ∧ mu = (h, .ins CH [] []) :: mu1 ∧ sqv mu rc = some ents ∧ P .non ((h, .ins CH hNames [e, .lst ents, u, w]) :: mu1)
theorem sqv_next {mu : Mu} {h : Addr} {C C' : Addr} {ns ns' : List Str} {es es' : List D} {rc : D} : sqv ((h, .ins C ns es) :: mu) rc = sqv ((h, .ins C' ns' es') :: mu) rc := by
  unfold sqv lv
  cases rc <;> try rfl
  rename_i a
  by_cases e : h = a
  · subst e
    simp [mget_top]
  · simp [mget_next e]
theorem body_halt (CH CC : Addr) : ∀ mu es P, R_halt CH mu es P → b_halt CH CC (endsG mu P) (startD N_halt es) mu := by
  rintro mu es P ⟨h, mu1, e, rc, u, w, ents, rfl, rfl, hs, hP⟩
  unfold b_halt
  have hs' := hs
  rw [sqv_next (C' := CH) (ns' := ["end"]) (es' := [e])] at hs'
  simp [mget_top, mput_top, nput, vput, drList, hs']
  exact nd_get hP
def R_course (CC : Addr) : DR := fun mu ds P => ∃ h mu1 p T u rc ents, ds = [.obj h, p, T, u, rc] ∧ mu = (h, .ins CC [] []) :: mu1 ∧ sqv mu rc = some ents ∧ ∀ r, r ∉ dom mu → P .non ((r, .lst ents) :: (h, .ins CC cNames [p, T, u, .obj r, .non]) :: mu1)
theorem body_course (CH CC : Addr) : ∀ mu es P, R_course CC mu es P → b_course CH CC (endsG mu P) (startD N_course es) mu := by
  rintro mu es P ⟨h, mu1, p, T, u, rc, ents, rfl, rfl, hs, hP⟩
  unfold b_course
  have hs' := hs
  rw [sqv_next (C' := CC) (ns' := ["program", "turns", "used"]) (es' := [p, T, u])] at hs'
  simp [mget_top, mput_top, nput, vput, drListM, hs']
  intro r hr
  have hr' : r ≠ h ∧ r ∉ dom mu1 := by simpa [dom] using hr
  simp [mget_next hr'.1, mget_top, mput_next hr'.1, mput_top, nput, vput]
  refine nd_get (hP r ?_)
  simpa [dom] using hr
def R_take_turn (CC : Addr) : DR := fun mu ds P => ∃ p T c r cs mu0, mu = setC CC p T c r cs mu0 ∧ CIn c r mu0 ∧ ds = [.obj c] ∧
  (if cs.used ≥ T then P (.bl false) (setC CC p T c r { cs with fin := some .spent } mu0) else P (.bl true) (setC CC p T c r { cs with used := cs.used + 1 } mu0))
theorem body_take_turn (CH CC : Addr) : ∀ mu es P, R_take_turn CC mu es P → b_take_turn CH CC (endsG mu P) (startD N_take_turn es) mu := by
  rintro mu es P ⟨p, T, c, r, cs, mu0, rfl, i, rfl, h⟩
  unfold b_take_turn
  simp [setC_ins i, setC_c i, crsO, flk_used, flk_turns, i2, nput_used, nput_end, vput_used, vput_end]
  split
  · rename_i hT
    rw [if_pos (by omega)] at h
    have e : mput (setC CC p T c r cs mu0) c (.ins CC cNames [progD p, .int T, .int cs.used, .obj r, .tup [.str "spent"]]) = setC CC p T c r { cs with fin := some .spent } mu0 := setC_putc i rfl rfl
    rw [e]
    exact nd_get h
  · rename_i hT
    rw [if_neg (by omega)] at h
    have e : mput (setC CC p T c r cs mu0) c (.ins CC cNames [progD p, .int T, .int ((cs.used : Int) + 1), .obj r, oendD cs.fin]) = setC CC p T c r { cs with used := cs.used + 1 } mu0 := setC_putc i rfl rfl
    rw [e]
    exact nd_get h

/-! ### value_of, reckoned -/
def R_value_of : DR := fun mu ds P => ∃ k x n, ds = [knownD k, .str x] ∧ valueOf k x = some n ∧ P (.int n) mu
theorem body_value_of (CH CC : Addr) : ∀ mu es P, R_value_of mu es P → b_value_of CH CC (endsG mu P) (startD N_value_of es) mu := by
  rintro mu es P ⟨k, x, n, rfl, hv, hP⟩
  unfold b_value_of
  simp
  obtain ⟨W, hW⟩ : ∃ W : Nat → Rho → Mu → Prop, W = fun m rho mu' => ∃ k : Known, m = k.length ∧ rho = [some (knownD k), some (.str x)] ∧ mu' = mu ∧ valueOf k x = some n := ⟨_, rfl⟩
  refine ⟨W, ⟨k.length, by rw [hW]; exact ⟨k, rfl, rfl, rfl, hv⟩⟩, ?_⟩
  intro m rho mu' w
  rw [hW] at w
  obtain ⟨k', rfl, rfl, rfl, hv'⟩ := w
  cases k' with
  | nil => cases hv'
  | cons q k' =>
    obtain ⟨y, m⟩ := q
    simp [knownD]
    simp only [valueOf] at hv'
    by_cases e : y = x
    · rw [if_pos e] at hv'
      cases hv'
      rw [if_pos e]
      exact nd_get hP
    · rw [if_neg e] at hv'
      rw [if_neg e]
      refine ⟨fun r' m' => W k'.length r' m', fun r' m' q => ⟨k'.length, by simp, q⟩, ?_⟩
      unfold b_value_of_L1
      simp
      rw [hW]
      exact ⟨k', rfl, rfl, rfl, hv'⟩
def R_reckoned : DR := fun mu ds P => ∃ s a b, ds = [.str s, .int a, .int b] ∧ a.natAbs ≤ 10 ^ 18 ∧ P (.int (reckoned s a b)) mu
theorem body_reckoned (CH CC : Addr) : ∀ mu es P, R_reckoned mu es P → b_reckoned CH CC (endsG mu P) (startD N_reckoned es) mu := by
  rintro mu es P ⟨s, a, b, rfl, ha, hP⟩
  unfold b_reckoned
  unfold reckoned at hP
  simp [i2, i2c, drInt]
  split
  · rename_i h
    rw [if_pos h] at hP
    exact nd_get hP
  · rename_i h
    rw [if_neg h] at hP
    split
    · rename_i h
      rw [if_pos h] at hP
      exact nd_get hP
    · rename_i h
      rw [if_neg h] at hP
      split
      · rename_i h
        rw [if_pos h] at hP
        refine ⟨?_, nd_get hP⟩
        unfold CMul
        omega
      · rename_i h
        rw [if_neg h] at hP
        exact nd_get hP
end DL
set_option maxHeartbeats 200000
/-! K53e: walk.py: called, asked -/
namespace DL
open PySem PySem.Spec PyProof.Rows L2

def after (T : Nat) (cs : CS) (o : Out) : CS × Option Ctl := if o.turn = true ∧ T ≤ cs.used then ({ cs with fin := some .spent }, none) else ({ used := cs.used + o.turn.toNat, log := cs.log ++ o.ents, fin := o.fin }, some o.ctl)
structure GoesTo (CC : Addr) (p : Prog) (T : Nat) (c r : Addr) (cs : CS) (mu0 : Mu) (o : Option Out) (P : PD) : Prop where
  i : CIn c r mu0
  nf : cs.fin = none
  ex : ∃ out, o = some out ∧ cs.log.length + out.ents.length ≤ 10000000 ∧ P (octlD (after T cs out).2) (setC CC p T c r (after T cs out).1 mu0)
abbrev C1 (CC : Addr) (mu : Mu) (P : PD) (F : Prog → Nat → Addr → Addr → CS → Mu → Prop) : Prop := ∃ p T c r cs mu0, mu = setC CC p T c r cs mu0 ∧ F p T c r cs mu0
theorem after_turn {T : Nat} {cs : CS} {o : Out} (h : o.turn = true) : after T cs o = if T ≤ cs.used then ({ cs with fin := some .spent }, none) else ({ used := cs.used + 1, log := cs.log ++ o.ents, fin := o.fin }, some o.ctl) := by
  unfold after
  simp [h]
theorem after_no {T : Nat} {cs : CS} {o : Out} (h : o.turn = false) : after T cs o = ({ used := cs.used, log := cs.log ++ o.ents, fin := o.fin }, some o.ctl) := by
  unfold after
  simp [h]

@[simp] theorem optS_none : optS none = .non := rfl
@[simp] theorem optS_some (x : Str) : optS (some x) = .str x := rfl
/-! ### called -/
def R_called (CC : Addr) : DR := fun mu ds P => ∃ p T c r cs mu0 sc f h as ns k, mu = setC CC p T c r cs mu0 ∧ ds = [.obj c, scD sc, treeD (.call f h as), .lst (ns.map .int), restD k] ∧ GoesTo CC p T c r cs mu0 (called p sc f h ns k) P
theorem loop_zip (tb : DS) (i j m : Nat) (Z : DEnds) (mu : Mu) (htb : ∀ (Z : DEnds) (rho : Rho) (x y kn : D), rho[i]? = some (some x) → rho[j]? = some (some y) → rho[m]? = some (some kn) → Z.nx (rho.set m (some (.tup [x, y, kn]))) mu → tb Z rho mu) (hij : i ≠ j) (him : i ≠ m) (hjm : j ≠ m) :
    ∀ (ps : List Str) (ns : List Int) (kn : Known) (rho : Rho), i < rho.length → j < rho.length → rho[m]? = some (some (knownD kn)) → (∀ rho' , (∀ l, l ≠ i → l ≠ j → l ≠ m → rho'[l]? = rho[l]?) → rho'.length = rho.length → rho'[m]? = some (some (knownD ((ps.zip ns).reverse ++ kn))) → Z.nx rho' mu) → dZipL i j tb (ps.map .str) (ns.map .int) Z rho mu
  | [], ns, kn, rho, hi, hj, hm, h => by
    have : dZipL i j tb (([] : List Str).map .str) (ns.map .int) Z rho mu = Z.nx rho mu := by cases ns <;> rfl
    rw [this]
    exact h rho (fun _ _ _ _ => rfl) rfl (by simpa using hm)
  | p :: ps, [], kn, rho, hi, hj, hm, h => h rho (fun _ _ _ _ => rfl) rfl (by simpa using hm)
  | p :: ps, n :: ns, kn, rho, hi, hj, hm, h => by
    show tb { Z with nx := dZipL i j tb (ps.map .str) (ns.map .int) Z, ct := dZipL i j tb (ps.map .str) (ns.map .int) Z, bk := Z.nx } ((rho.set i (some (.str p))).set j (some (.int n))) mu
    have hml : m < rho.length := (List.getElem?_eq_some_iff.mp hm).1
    refine htb _ _ (.str p) (.int n) (knownD kn) (by rw [List.getElem?_set_ne (Ne.symm hij), List.getElem?_set_self hi]) (by rw [List.getElem?_set_self (by simpa using hj)]) (by rw [List.getElem?_set_ne hjm, List.getElem?_set_ne him]; exact hm) ?_
    refine loop_zip tb i j m Z mu htb hij him hjm ps ns ((p, n) :: kn) _ (by simpa using hi) (by simpa using hj) (by rw [List.getElem?_set_self (by simpa using hml)]; rfl) fun rho' e1 e2 e3 => ?_
    refine h rho' (fun l h1 h2 h3 => ?_) (by simpa using e2) (by simpa using e3)
    rw [e1 l h1 h2 h3, List.getElem?_set_ne (Ne.symm h3), List.getElem?_set_ne (Ne.symm h2), List.getElem?_set_ne (Ne.symm h1)]
theorem zip_called (CH CC : Addr) (Rt Rf : DR) (Z : DEnds) (rho : Rho) (mu : Mu) (x y kn : D) (h1 : rho[8]? = some (some x)) (h2 : rho[9]? = some (some y)) (h3 : rho[7]? = some (some kn)) (h : Z.nx (rho.set 7 (some (.tup [x, y, kn]))) mu) : b_called_L1 CH CC Rt Rf Z rho mu := by
  unfold b_called_L1
  simp [h1, h2, h3]
  exact h
theorem body_called (CH CC : Addr) : ∀ mu es P, R_called CC mu es P → b_called CH CC (R_take_turn CC) R_function_named (endsG mu P) (startD N_called es) mu := by
  rintro mu es P ⟨p, T, c, r, cs, mu0, sc, f, h, as, ns, k, rfl, rfl, ⟨i, nf, out, ho, hs, hP⟩⟩
  unfold called at ho
  cases e1 : calleeOf p sc f with
  | none => rw [e1] at ho; cases ho
  | some fn =>
  rw [e1] at ho
  simp only at ho
  by_cases hl' : ¬ fn.params.length = ns.length
  · rw [if_neg hl'] at ho; cases ho
  have hl : fn.params.length = ns.length := Decidable.not_not.mp hl'
  rw [if_pos hl] at ho
  cases ho
  rw [after_turn rfl] at hP
  unfold b_called
  rw [x_seq, x_if]
  simp only [x_not, x_test, x_meth, x_var, x_nil, x_start, List.map_cons, List.map_nil, List.length_cons, List.length_nil, List.cons_append, List.nil_append, List.getElem?_cons_zero]
  simp only [setC_c i, crsO]
  refine ⟨trivial, by simp, p, T, c, r, cs, mu0, rfl, i, rfl, ?_⟩
  by_cases hT : cs.used ≥ T
  · rw [if_pos hT] at hP ⊢
    simp
    exact nd_get hP
  rw [if_neg (show ¬ T ≤ cs.used from hT)] at hP
  rw [if_neg hT]
  obtain ⟨cs1, hcs⟩ : ∃ cs1 : CS, cs1 = { cs with used := cs.used + 1 } := ⟨_, rfl⟩
  have hP1 : P (.tup [.str "look", treeD fn.body, .tup [knownD (fn.params.zip ns).reverse, optS fn.block, optS (handedOf sc h)], restD k]) (setC CC p T c r cs1 mu0) := by
    rw [hcs]
    simpa [octlD, ctlD, scD, nf] using hP
  rw [← hcs]
  clear hP hT hs
  obtain ⟨kn, blk, hnd⟩ := sc
  have fin : ∀ (rho : Rho) (mu1 : Mu), rho[0]? = some (some (.obj c)) → rho[3]? = some (some (.lst (ns.map .int))) → rho[4]? = some (some (restD k)) → rho[5]? = some (some (fnD fn)) → rho[6]? = some (some (optS (handedOf ⟨kn, blk, hnd⟩ h))) → rho.length = 10 → mu1 = setC CC p T c r cs1 mu0 →
      dSeq (dAsg (dC .non) 7)
        (dSeq (dForZ 8 9 (dOp dix (dVar 5) (dC (.int 2))) (dVar 3) (b_called_L1 CH CC (R_take_turn CC) R_function_named))
        (dRet (dTup (dCons (dC (.str "look")) (dCons (dOp dix (dVar 5) (dC (.int 4))) (dCons (dTup (dCons (dVar 7) (dCons (dOp dix (dVar 5) (dC (.int 3))) (dCons (dVar 6) dNil)))) (dCons (dVar 4) dNil))))))) (endsG (setC CC p T c r cs mu0) P) rho mu1 := by
    rintro rho mu1 h0 h3 h4 h5 h6 hlen rfl
    have g3 : (rho.set 7 (some .non))[3]? = some (some (.lst (ns.map .int))) := by rw [List.getElem?_set_ne (by decide)]; exact h3
    have g5 : (rho.set 7 (some .non))[5]? = some (some (fnD fn)) := by rw [List.getElem?_set_ne (by decide)]; exact h5
    simp only [x_seq, x_asg, x_c, x_forz, x_op, x_var, g3, g5, fnD, dix_tup, atI_cons2, tv_tup]
    refine ⟨by simpa using hl, ?_⟩
    refine loop_zip _ 8 9 7 _ _ (fun Z rho x y kn h1 h2 h3 h => zip_called CH CC _ _ Z rho _ x y kn h1 h2 h3 h) (by decide) (by decide) (by decide) fn.params ns [] _ (by simp; omega) (by simp; omega) (by rw [List.getElem?_set_self (by omega)]; rfl) fun rho' k1 k2 k3 => ?_
    have r4 : rho'[4]? = some (some (restD k)) := by rw [k1 4 (by decide) (by decide) (by decide), List.getElem?_set_ne (by decide)]; exact h4
    have r5 : rho'[5]? = some (some (fnD fn)) := by rw [k1 5 (by decide) (by decide) (by decide), List.getElem?_set_ne (by decide)]; exact h5
    have r6 : rho'[6]? = some (some (optS (handedOf ⟨kn, blk, hnd⟩ h))) := by rw [k1 6 (by decide) (by decide) (by decide), List.getElem?_set_ne (by decide)]; exact h6
    simp [r4, r5, r6, k3, fnD]
    exact nd_get hP1
  have hcal : optD fnD (some fn) = fnD fn := rfl
  simp only [Bool.not_true, Bool.false_eq_true, if_false, x_next, Nat.reduceAdd, Nat.reduceSub, Nat.zero_add, List.reduceReplicate]
  rw [x_seq, x_if]
  unfold calleeOf at e1
  cases blk with
  | none =>
    simp only [reduceCtorEq, if_false] at e1
    have hh : handedOf ⟨kn, none, hnd⟩ h = h := by cases h <;> simp [handedOf]
    rw [hh] at fin
    simp [scD, treeD, setC_ins i, flk_program, -x_seq]
    refine ⟨p, f, rfl, ?_⟩
    rw [e1, hcal]
    dsimp only
    rw [x_seq, x_asg]
    simp only [x_op, x_var, x_c, List.getElem?_cons_zero, List.getElem?_cons_succ, dix_tup, atI_cons2, List.set_cons_succ, List.set_cons_zero]
    rw [x_seq, x_if]
    cases h with
    | none =>
      simp [-x_seq]
      refine fin _ _ ?_ ?_ ?_ ?_ ?_ ?_ ?_ <;> rfl
    | some y =>
      simp [-x_seq]
      refine fin _ _ ?_ ?_ ?_ ?_ ?_ ?_ ?_ <;> rfl
  | some b =>
    simp only [Option.some.injEq] at e1
    have tail : ∀ o7 o8 o9 : Option D, dSeq (dAsg (dOp dix (dVar 2) (dC (.int 2))) 6)
      (dSeq (dIf (dAnd (dTest (dOp (dnotN) (dVar 6) (dC .non))) (dTest (dOp (deq) (dVar 6) (dOp dix (dVar 1) (dC (.int 1)))))) (dAsg (dOp dix (dVar 1) (dC (.int 2))) 6) dNext)
      (dSeq (dAsg (dC .non) 7)
        (dSeq (dForZ 8 9 (dOp dix (dVar 5) (dC (.int 2))) (dVar 3) (b_called_L1 CH CC (R_take_turn CC) R_function_named))
        (dRet (dTup (dCons (dC (.str "look")) (dCons (dOp dix (dVar 5) (dC (.int 4))) (dCons (dTup (dCons (dVar 7) (dCons (dOp dix (dVar 5) (dC (.int 3))) (dCons (dVar 6) dNil)))) (dCons (dVar 4) dNil))))))))) (endsG (setC CC p T c r cs mu0) P) [some (.obj c), some (scD ⟨kn, some b, hnd⟩), some (treeD (.call f h as)), some (.lst (ns.map .int)), some (restD k), some (fnD fn), none, o7, o8, o9] (setC CC p T c r cs1 mu0) := by
      intro o7 o8 o9
      rw [x_seq, x_asg]
      simp only [x_op, x_var, x_c, List.getElem?_cons_zero, List.getElem?_cons_succ, treeD, dix_tup, atI_cons2, List.set_cons_succ, List.set_cons_zero]
      rw [x_seq, x_if]
      cases h with
      | none =>
        simp only [handedOf] at fin
        simp [-x_seq]
        refine fin _ _ ?_ ?_ ?_ ?_ ?_ ?_ ?_ <;> rfl
      | some y =>
        by_cases hy : y = b
        · subst hy
          simp only [handedOf] at fin
          simp [scD, -x_seq] at fin ⊢
          refine fin _ _ ?_ ?_ ?_ ?_ ?_ ?_ ?_ <;> rfl
        · have hh : handedOf ⟨kn, some b, hnd⟩ (some y) = some y := by simp [handedOf, hy]
          rw [hh] at fin
          simp [scD, hy, -x_seq] at fin ⊢
          refine fin _ _ ?_ ?_ ?_ ?_ ?_ ?_ ?_ <;> rfl
    by_cases hf : f = b
    · subst hf
      rw [if_pos rfl] at e1
      cases hnd with
      | none => cases e1
      | some g =>
        simp only [scD, optS_some, treeD] at tail
        simp [scD, treeD, setC_ins i, flk_program, -x_seq]
        refine ⟨p, g, rfl, ?_⟩
        rw [show fnNamed p g = some fn from e1, hcal]
        exact tail _ _ _
    · rw [if_neg (fun q => hf q.symm)] at e1
      simp only [scD, optS_some, treeD] at tail
      simp [scD, treeD, setC_ins i, flk_program, hf, -x_seq]
      refine ⟨p, f, rfl, ?_⟩
      rw [e1, hcal]
      exact tail _ _ _
end DL
set_option maxHeartbeats 200000
/-! K53f: walk.py: asked, begun_tree -/
namespace DL
open PySem PySem.Spec PyProof.Rows L2

theorem turn_pre {CC : Addr} {p : Prog} {T : Nat} {c r : Addr} {cs : CS} {mu0 : Mu} (i : CIn c r mu0) (t : DS) (Z : DEnds) (rho : Rho) (h0 : rho[0]? = some (some (.obj c)))
    (h1 : T ≤ cs.used → Z.rt .non (setC CC p T c r { cs with fin := some .spent } mu0)) (h2 : ¬ T ≤ cs.used → t Z rho (setC CC p T c r { cs with used := cs.used + 1 } mu0)) :
    dSeq (dIf (dNot (dTest (dMeth CC "take_turn" (R_take_turn CC) (dVar 0) dNil))) (dRet (dC .non)) dNext) t Z rho (setC CC p T c r cs mu0) := by
  rw [x_seq, x_if]
  simp only [x_not, x_test, x_meth, x_var, x_nil, h0]
  simp only [setC_c i, crsO]
  refine ⟨trivial, by simp, p, T, c, r, cs, mu0, rfl, i, rfl, ?_⟩
  by_cases hT : cs.used ≥ T
  · rw [if_pos hT]
    simp
    exact h1 hT
  · rw [if_neg hT]
    simp only [Bool.not_true, Bool.false_eq_true, if_false, x_next]
    exact h2 hT
section
variable {CC : Addr} {p : Prog} {T : Nat} {c r : Addr} {cs : CS} {mu : Mu}
theorem setC_logD (i : CIn c r mu) (ents : List Ent) (ds : List D) (h : ds = ents.map entD) : mput (setC CC p T c r cs mu) r (.lst (cs.log.map entD ++ ds)) = setC CC p T c r { cs with log := cs.log ++ ents } mu := by
  rw [h, ← List.map_append]
  exact setC_putr i rfl rfl rfl
theorem setC_log1 (i : CIn c r mu) (e : Ent) : mput (setC CC p T c r cs mu) r (.lst (cs.log.map entD ++ [entD e])) = setC CC p T c r { cs with log := cs.log ++ [e] } mu := setC_logD i [e] [entD e] rfl
theorem setC_deed (i : CIn c r mu) (d : Str) (n : Int) : mput (setC CC p T c r cs mu) r (.lst (cs.log.map entD ++ [.tup [.str "do", .str d, .int n]])) = setC CC p T c r { cs with log := cs.log ++ [.deed d n] } mu := setC_log1 (cs := cs) i (.deed d n)
theorem setC_guard (i : CIn c r mu) (n : Int) : mput (setC CC p T c r cs mu) r (.lst (cs.log.map entD ++ [.tup [.str "guard", .int n]])) = setC CC p T c r { cs with log := cs.log ++ [.guard n] } mu := setC_log1 (cs := cs) i (.guard n)
theorem setC_clean (i : CIn c r mu) (n : Int) : mput (setC CC p T c r cs mu) r (.lst (cs.log.map entD ++ [.tup [.str "clean", .int n]])) = setC CC p T c r { cs with log := cs.log ++ [.clean n] } mu := setC_log1 (cs := cs) i (.clean n)
theorem setC_fin (i : CIn c r mu) (e : End) : mput (setC CC p T c r cs mu) c (.ins CC cNames [progD p, .int T, .int cs.used, .obj r, endD e]) = setC CC p T c r { cs with fin := some e } mu := setC_putc i rfl rfl
theorem setC_asks (i : CIn c r mu) (d : Str) (n : Int) : mput (setC CC p T c r cs mu) c (.ins CC cNames [progD p, .int T, .int cs.used, .obj r, .tup [.str "asks", .str d, .int n]]) = setC CC p T c r { cs with fin := some (.asks d n) } mu := setC_fin (cs := cs) i (.asks d n)
theorem setC_done (i : CIn c r mu) (n : Int) : mput (setC CC p T c r cs mu) c (.ins CC cNames [progD p, .int T, .int cs.used, .obj r, .tup [.str "done", .int n]]) = setC CC p T c r { cs with fin := some (.done n) } mu := setC_fin (cs := cs) i (.done n)
theorem setC_great (i : CIn c r mu) : mput (setC CC p T c r cs mu) c (.ins CC cNames [progD p, .int T, .int cs.used, .obj r, .tup [.str "great"]]) = setC CC p T c r { cs with fin := some .great } mu := setC_fin (cs := cs) i .great
end
theorem takenOff_clause {d : Str} : ∀ {k pre : List Frame} {h : Hand} {kept : Int} {r : List Frame}, takenOff d k = some (pre, h, kept, r) → (clauseFor h.clauses d).isSome = true
  | [], _, _, _, _, e => by cases e
  | f :: k, pre, h, kept, r, e => by
    by_cases hf : ∃ hd kk, f = .stands hd kk ∧ clauseFor hd.clauses d ≠ none
    · obtain ⟨hd, kk, rfl, hc⟩ := hf
      cases e2 : clauseFor hd.clauses d with
      | none => exact absurd e2 hc
      | some c =>
        rw [take_hit e2] at e
        cases e
        rw [e2]; rfl
    · have h1 := take_pass (seen := []) (r := k) (d := d) (f := f) (fun hd kk e => by
        cases e2 : clauseFor hd.clauses d with
        | none => rfl
        | some c => exact absurd ⟨hd, kk, e, by rw [e2]; intro z; cases z⟩ hf)
      rw [addPre_nil, e] at h1
      cases e3 : takenOff d k with
      | none => rw [e3] at h1; cases h1
      | some q =>
        obtain ⟨q1, q2, q3, q4⟩ := q
        rw [e3] at h1
        simp [addPre] at h1
        obtain ⟨_, rfl, _, _⟩ := h1
        exact takenOff_clause e3
def R_asked (CC : Addr) : DR := fun mu ds P => ∃ p T c r cs mu0 d n k, mu = setC CC p T c r cs mu0 ∧ ds = [.obj c, .str d, .int n, restD k] ∧ k.length ≤ 10000000 ∧ GoesTo CC p T c r cs mu0 (asked d n k) P
theorem body_asked (CH CC : Addr) : ∀ mu es P, R_asked CC mu es P → b_asked CH CC (R_take_turn CC) R_taken_off R_clause_for (endsG mu P) (startD N_asked es) mu := by
  rintro mu es P ⟨p, T, c, r, cs, mu0, d, n, k, rfl, rfl, hk, ⟨i, nf, out, ho, hs, hP⟩⟩
  have ht : out.turn = true ∧ out.ents = [.deed d n] := by
    unfold asked at ho
    split at ho
    · cases ho; exact ⟨rfl, rfl⟩
    · split at ho
      · cases ho; exact ⟨rfl, rfl⟩
      · cases ho
  rw [ht.2] at hs
  rw [after_turn ht.1, ht.2] at hP
  unfold b_asked
  refine turn_pre i _ _ _ rfl (fun h => ?_) (fun h => ?_)
  · rw [if_pos h] at hP
    exact nd_get hP
  rw [if_neg h] at hP
  obtain ⟨cs1, hcs⟩ : ∃ cs1 : CS, cs1 = { cs with used := cs.used + 1 } := ⟨_, rfl⟩
  have e1 : cs1.log = cs.log := by rw [hcs]
  rw [← hcs]
  simp [setC_ins i, setC_r i, flk_record, -x_seq]
  rw [x_seq]
  simp [setC_ins i, setC_r i, flk_record, -x_seq]
  simp at hs
  refine ⟨by rw [e1]; omega, ?_⟩
  rw [setC_deed i]
  obtain ⟨cs2, hcs2⟩ : ∃ cs2 : CS, cs2 = { cs1 with log := cs1.log ++ [.deed d n] } := ⟨_, rfl⟩
  rw [← hcs2]
  rw [x_seq]
  simp [-x_seq]
  refine ⟨k, d, rfl, hk, ?_⟩
  unfold asked at ho
  cases e : takenOff d k with
  | none =>
    rw [e] at ho
    cases ho
    simp [tkD, setC_c i, crsO, nput_end, vput_end]
    rw [setC_asks i]
    refine nd_get ?_
    rw [hcs2, hcs]
    simpa [octlD, ctlD] using hP
  | some q =>
    obtain ⟨pre, h', kept, r'⟩ := q
    have hc := takenOff_clause e
    cases e2 : clauseFor h'.clauses d with
    | none => rw [e2] at hc; cases hc
    | some cl =>
      rw [e] at ho
      simp only [e2] at ho
      cases ho
      simp [tkD, heldD, atI_last, standsD, setAll]
      refine ⟨h', d, rfl, ?_⟩
      rw [e2]
      simp [optD, clauseD]
      refine nd_get ?_
      rw [hcs2, hcs]
      simpa [octlD, ctlD, scD, knownD, restD, frameD, nf] using hP
end DL
set_option maxHeartbeats 2000000
/-! K53g: walk.py: begun_tree, told_tree, told_arg, told_second, told_go, told_clause -/
namespace DL
open PySem PySem.Spec PyProof.Rows L2

theorem GoesTo.plain {CC : Addr} {p : Prog} {T : Nat} {c r : Addr} {cs : CS} {mu0 : Mu} {ctl : Ctl} {P : PD} (g : GoesTo CC p T c r cs mu0 (some ⟨false, [], none, ctl⟩) P) : P (ctlD ctl) (setC CC p T c r cs mu0) := by
  obtain ⟨i, nf, out, ho, hs, hP⟩ := g
  cases ho
  rw [after_no rfl] at hP
  obtain ⟨u, l, f⟩ := cs
  cases nf
  simpa [octlD] using hP
theorem GoesTo.ent {CC : Addr} {p : Prog} {T : Nat} {c r : Addr} {cs : CS} {mu0 : Mu} {ctl : Ctl} {P : PD} {es : List Ent} (g : GoesTo CC p T c r cs mu0 (some ⟨false, es, none, ctl⟩) P) : cs.log.length + es.length ≤ 10000000 ∧ P (ctlD ctl) (setC CC p T c r { cs with log := cs.log ++ es } mu0) := by
  obtain ⟨i, nf, out, ho, hs, hP⟩ := g
  cases ho
  rw [after_no rfl] at hP
  obtain ⟨u, l, f⟩ := cs
  cases nf
  exact ⟨hs, by simpa [octlD] using hP⟩
def R_begun_tree (CC : Addr) : DR := fun mu ds P => ∃ p T c r cs mu0 t sc k, mu = setC CC p T c r cs mu0 ∧ ds = [.obj c, treeD t, scD sc, restD k] ∧ GoesTo CC p T c r cs mu0 (begunTree p t sc k) P
theorem body_begun_tree (CH CC : Addr) : ∀ mu es P, R_begun_tree CC mu es P → b_begun_tree CH CC R_value_of (R_called CC) (endsG mu P) (startD N_begun_tree es) mu := by
  rintro mu es P ⟨p, T, c, r, cs, mu0, t, sc, k, rfl, rfl, g⟩
  unfold b_begun_tree
  cases t with
  | num n =>
    have hP := g.plain
    simp [treeD]
    refine nd_get ?_
    simpa [ctlD] using hP
  | var x =>
    simp only [begunTree] at g
    cases e : valueOf sc.known x with
    | none =>
      rw [e] at g
      obtain ⟨_, _, _, h, _⟩ := g
      cases h
    | some n =>
      rw [e] at g
      have hP := g.plain
      simp [treeD, scD]
      refine ⟨sc.known, x, n, rfl, e, nd_get ?_⟩
      simpa [ctlD] using hP
  | call f h as =>
    cases as with
    | nil =>
      simp [treeD, treesD, deqNilT]
      refine ⟨p, T, c, r, cs, mu0, sc, f, h, [], [], k, rfl, by simp [treeD, treesD], g.i, g.nf, ?_⟩
      obtain ⟨out, ho, hs, hP⟩ := g.ex
      exact ⟨out, ho, hs, nd_get hP⟩
    | cons a as =>
      have hP := g.plain
      simp [treeD, treesD, deqNilT]
      refine nd_get ?_
      simpa [ctlD, restD, frameD, treesD] using hP
  | op s a b =>
    have hP := g.plain
    simp [treeD, dinS, txs]
    refine nd_get ?_
    simpa [ctlD, restD, frameD, treeD, kindS] using hP
  | lett s a b =>
    have hP := g.plain
    simp [treeD, dinS, txs]
    refine nd_get ?_
    simpa [ctlD, restD, frameD, treeD, kindS] using hP
  | iff s a b =>
    have hP := g.plain
    simp [treeD, dinS, txs]
    refine nd_get ?_
    simpa [ctlD, restD, frameD, treeD, kindS] using hP
  | deed d a =>
    have hP := g.plain
    simp [treeD, dinS, txs]
    refine nd_get ?_
    simpa [ctlD, restD, frameD, treeD, kindS] using hP
  | handle s a b =>
    have hP := g.plain
    simp [treeD, dinS, txs]
    refine nd_get ?_
    simpa [ctlD, restD, frameD, treeD, kindS] using hP
  | go a b =>
    have hP := g.plain
    simp [treeD, dinS, txs]
    refine nd_get ?_
    simpa [ctlD, restD, frameD, treeD, kindS] using hP
  | guard a b =>
    have hP := g.plain
    simp [treeD, dinS, txs]
    refine nd_get ?_
    simpa [ctlD, restD, frameD, treeD, kindS] using hP
def R_told_tree (CC : Addr) : DR := fun mu ds P => ∃ p T c r cs mu0 t sc n k, mu = setC CC p T c r cs mu0 ∧ ds = [.obj c, frameD (.first t sc), .int n, restD k] ∧ GoesTo CC p T c r cs mu0 (toldTree p t sc n k) P
theorem body_told_tree (CH CC : Addr) : ∀ mu es P, R_told_tree CC mu es P → b_told_tree CH CC R_handler_named (endsG mu P) (startD N_told_tree es) mu := by
  rintro mu es P ⟨p, T, c, r, cs, mu0, t, sc, n, k, rfl, rfl, g⟩
  have i := g.i
  unfold b_told_tree
  have bad : ∀ {o : Out}, (none : Option Out) = some o → False := fun h => by cases h
  cases t with
  | num n => obtain ⟨_, _, _, h, _⟩ := g; cases h
  | var n => obtain ⟨_, _, _, h, _⟩ := g; cases h
  | call f h as => obtain ⟨_, _, _, h, _⟩ := g; cases h
  | deed f h => obtain ⟨_, _, _, h, _⟩ := g; cases h
  | op s a b =>
    have hP := g.plain
    simp [frameD, treeD, kindS, setAll]
    refine nd_get ?_
    simpa [ctlD, restD, frameD] using hP
  | lett s a b =>
    have hP := g.plain
    simp [frameD, treeD, kindS, setAll, scD]
    refine nd_get ?_
    simpa [ctlD, restD, frameD, scD, knownD] using hP
  | iff s a b =>
    have hP := g.plain
    simp [frameD, treeD, kindS, setAll]
    by_cases hn : n = 0
    · simp [hn]
      refine nd_get ?_
      simpa [ctlD, hn] using hP
    · simp [hn]
      refine nd_get ?_
      simpa [ctlD, hn] using hP
  | handle h a b =>
    simp only [toldTree] at g
    cases e : handNamed p h with
    | none =>
      rw [e] at g
      obtain ⟨_, _, _, h, _⟩ := g
      cases h
    | some hd =>
      rw [e] at g
      have hP := g.plain
      simp [frameD, treeD, kindS, setAll, setC_ins i, flk_program]
      refine ⟨p, h, rfl, ?_⟩
      rw [e]
      refine nd_get ?_
      simpa [ctlD, restD, frameD, optD] using hP
  | go a b =>
    have hP := g.plain
    simp [frameD, treeD, kindS, setAll]
    refine nd_get ?_
    simpa [ctlD, restD, frameD] using hP
  | guard a b =>
    obtain ⟨hs, hP⟩ := g.ent
    simp at hs
    simp [frameD, treeD, kindS, setAll, setC_ins i, flk_record, setC_r i]
    refine ⟨by omega, ?_⟩
    rw [setC_guard i]
    refine nd_get ?_
    simpa [ctlD, restD, frameD] using hP
theorem atI_nat {α : Type} {l : List α} {i : Nat} : atI l ((i : Nat) : Int) = l[i]? := by
  unfold atI ixN
  rw [if_pos (by omega)]
  by_cases h : (i : Int) < l.length
  · rw [if_pos h]
    simp
  · rw [if_neg h]
    rw [List.getElem?_eq_none (by omega)]
    rfl
def R_told_arg (CC : Addr) : DR := fun mu ds P => ∃ p T c r cs mu0 f h as ns sc n k, mu = setC CC p T c r cs mu0 ∧ ds = [.obj c, frameD (.args f h as ns sc), .int n, restD k] ∧ ns.length ≤ 10000000 ∧ GoesTo CC p T c r cs mu0 (toldArg p f h as ns sc n k) P
theorem body_told_arg (CH CC : Addr) : ∀ mu es P, R_told_arg CC mu es P → b_told_arg CH CC (R_called CC) (endsG mu P) (startD N_told_arg es) mu := by
  rintro mu es P ⟨p, T, c, r, cs, mu0, f, h, as, ns, sc, n, k, rfl, rfl, hn, g⟩
  have i := g.i
  unfold b_told_arg
  simp [frameD, drLen, dcatL, i2, treesD_len]
  refine ⟨by omega, ?_⟩
  unfold toldArg at g
  cases e : as[ns.length + 1]? with
  | none =>
    rw [e] at g
    simp only at g
    by_cases hl : ns.length + 1 = as.length
    · rw [if_pos hl] at g
      rw [if_neg (by omega)]
      refine ⟨p, T, c, r, cs, mu0, sc, f, h, as, ns ++ [n], k, rfl, by simp [treeD], g.i, g.nf, ?_⟩
      obtain ⟨out, ho, hs, hP⟩ := g.ex
      exact ⟨out, ho, hs, nd_get hP⟩
    · rw [if_neg hl] at g
      obtain ⟨_, _, _, h, _⟩ := g
      cases h
  | some a =>
    rw [e] at g
    have hP := g.plain
    have hl := (List.getElem?_eq_some_iff.mp e).1
    rw [if_pos (by omega)]
    have e2 : atI (treesD as) (((ns.length : Nat) : Int) + 1) = some (treeD a) := by
      have : (((ns.length : Nat) : Int) + 1) = ((ns.length + 1 : Nat) : Int) := by omega
      rw [this, atI_nat, treesD_map, List.getElem?_map, e]
      rfl
    simp [e2]
    refine nd_get ?_
    simpa [ctlD, restD, frameD] using hP
def R_told_second (CC : Addr) : DR := fun mu ds P => ∃ p T c r cs mu0 s a n k, mu = setC CC p T c r cs mu0 ∧ ds = [.obj c, frameD (.second s a), .int n, restD k] ∧ GoesTo CC p T c r cs mu0 (toldSecond s a n k) P
theorem body_told_second (CH CC : Addr) : ∀ mu es P, R_told_second CC mu es P → b_told_second CH CC R_reckoned (endsG mu P) (startD N_told_second es) mu := by
  rintro mu es P ⟨p, T, c, r, cs, mu0, s, a, n, k, rfl, rfl, g⟩
  have i := g.i
  unfold b_told_second
  unfold toldSecond at g
  by_cases h1 : a.natAbs ≤ great.natAbs ∧ n.natAbs ≤ great.natAbs
  · rw [if_pos h1] at g
    simp [frameD]
    have hg : great.natAbs = 10 ^ 18 := by decide
    refine ⟨s, a, n, rfl, by have := h1.1; rw [hg] at this; exact this, ?_⟩
    simp [drAbs, i2]
    obtain ⟨_, nf, out, ho, hs, hP⟩ := g
    by_cases h2 : (reckoned s a n).natAbs > great.natAbs
    · rw [if_pos h2] at ho
      cases ho
      rw [after_no rfl] at hP
      rw [if_pos (by rw [hg] at h2; split <;> omega)]
      simp [setC_c i, crsO, nput_end, vput_end]
      rw [setC_great i]
      refine nd_get ?_
      simpa [octlD, ctlD] using hP
    · rw [if_neg h2] at ho
      cases ho
      rw [after_no rfl] at hP
      rw [if_neg (by rw [hg] at h2; split <;> omega)]
      refine nd_get ?_
      obtain ⟨u, l, f⟩ := cs
      cases nf
      simpa [octlD, ctlD] using hP
  · rw [if_neg h1] at g
    obtain ⟨_, _, _, h, _⟩ := g
    cases h
def R_told_go (CC : Addr) : DR := fun mu ds P => ∃ p T c r cs mu0 a n k, mu = setC CC p T c r cs mu0 ∧ ds = [.obj c, .int a, .int n, restD k] ∧ (k.length ≤ 10000000 ∧ ∀ over pre h kept r, goneFrom k = some (over, pre, h, kept, r) → pre.length ≤ 10000000) ∧ GoesTo CC p T c r cs mu0 (toldGo a n k) P
theorem body_told_go (CH CC : Addr) : ∀ mu es P, R_told_go CC mu es P → b_told_go CH CC (R_take_turn CC) R_gone_from R_put_on (endsG mu P) (startD N_told_go es) mu := by
  rintro mu es P ⟨p, T, c, r, cs, mu0, a, n, k, rfl, rfl, ⟨hk, hw⟩, ⟨i, nf, out, ho, hs, hP⟩⟩
  unfold toldGo at ho
  cases e : goneFrom k with
  | none => rw [e] at ho; cases ho
  | some q =>
    obtain ⟨over, pre, h, kept0, r'⟩ := q
    rw [e] at ho
    cases ho
    rw [after_turn rfl] at hP
    unfold b_told_go
    refine turn_pre i _ _ _ rfl (fun hT => ?_) (fun hT => ?_)
    · rw [if_pos hT] at hP
      exact nd_get hP
    rw [if_neg hT] at hP
    simp
    refine ⟨k, over, pre, h, kept0, r', rfl, e, hk, ?_⟩
    simp [setAll]
    refine ⟨pre, h, kept0, n, _, rfl, hw _ _ _ _ _ e, nd_get ?_⟩
    simpa [octlD, ctlD, nf] using hP
def R_told_clause (CC : Addr) : DR := fun mu ds P => ∃ p T c r cs mu0 pre h kept went n k, mu = setC CC p T c r cs mu0 ∧ ds = [.obj c, frameD (.clause pre h kept went), .int n, restD k] ∧ (went = false → wFs pre ≤ 10000000) ∧ GoesTo CC p T c r cs mu0 (toldClause pre went n k) P
theorem loop_told_clause (CH CC : Addr) (R : DR) {p : Prog} {T : Nat} {c r : Addr} {mu0 : Mu} (i : CIn c r mu0) (Z : DEnds) (a b d : D) : ∀ (ns : List Int) (cs : CS) (o : Option D), cs.log.length + ns.length ≤ 10000000 → (∀ o, Z.nx [some (.obj c), some a, some b, some d, o] (setC CC p T c r { cs with log := cs.log ++ ns.map .clean } mu0)) →
    dFor 4 (b_told_clause_L1 CH CC R) (ns.map .int) Z [some (.obj c), some a, some b, some d, o] (setC CC p T c r cs mu0)
  | [], cs, o, hl, h => by simpa using h o
  | n :: ns, cs, o, hl, h => by
    rw [List.map_cons, x_for1]
    unfold b_told_clause_L1
    simp [setC_ins i, flk_record, setC_r i]
    simp at hl
    refine ⟨by omega, ?_⟩
    rw [setC_clean i]
    refine loop_told_clause CH CC R i Z a b d ns _ _ (by simp; omega) fun o => ?_
    simpa using h o
theorem body_told_clause (CH CC : Addr) : ∀ mu es P, R_told_clause CC mu es P → b_told_clause CH CC R_thrown (endsG mu P) (startD N_told_clause es) mu := by
  rintro mu es P ⟨p, T, c, r, cs, mu0, pre, h, kept, went, n, k, rfl, rfl, hw, g⟩
  have i := g.i
  unfold b_told_clause
  unfold toldClause at g
  cases went with
  | true =>
    have hP := g.plain
    simp [frameD]
    refine nd_get ?_
    simpa [ctlD] using hP
  | false =>
    obtain ⟨hs, hP⟩ := g.ent
    simp [frameD, -x_seq]
    rw [x_seq]
    simp [-x_seq]
    refine ⟨pre, h, kept, rfl, hw rfl, ?_⟩
    simp at hs
    refine loop_told_clause CH CC _ i _ _ _ _ _ cs _ (by omega) fun o => ?_
    simp
    refine nd_get ?_
    simpa [ctlD] using hP
end DL
set_option maxHeartbeats 2000000
/-! K53h: walk.py: told, to_end -/
namespace DL
open PySem PySem.Spec PyProof.Rows L2

def SzK (k : List Frame) : Prop := wFs k ≤ 10000000 ∧ match k with
  | .args _ _ _ ns _ :: _ => ns.length ≤ 10000000
  | .goes _ :: k' => ∀ over pre h kept r, goneFrom k' = some (over, pre, h, kept, r) → pre.length ≤ 10000000
  | _ => True
def R_told (CC : Addr) : DR := fun mu ds P => ∃ p T c r cs mu0 n k, mu = setC CC p T c r cs mu0 ∧ ds = [.obj c, .int n, restD k] ∧ SzK k ∧ GoesTo CC p T c r cs mu0 (told p n k) P
theorem body_told (CH CC : Addr) : ∀ mu es P, R_told CC mu es P → b_told CH CC (R_told_arg CC) (R_told_second CC) (R_asked CC) (R_told_go CC) (R_told_clause CC) (R_told_tree CC) (endsG mu P) (startD N_told es) mu := by
  rintro mu es P ⟨p, T, c, r, cs, mu0, n, k, rfl, rfl, ⟨hz, hz2⟩, g⟩
  have i := g.i
  unfold b_told
  have up : ∀ {o : Option Out}, GoesTo CC p T c r cs mu0 o P → GoesTo CC p T c r cs mu0 o fun d m => ∃ mu2, Sub mu2 m ∧ P d mu2 := by
    rintro o ⟨i, nf, out, h1, h2, h3⟩
    exact ⟨i, nf, out, h1, h2, nd_get h3⟩
  cases k with
  | nil => obtain ⟨_, _, _, h, _⟩ := g; cases h
  | cons f k =>
    have hl := wFs_len k
    simp only [wFs] at hz
    cases f with
    | args f h as ns sc =>
      simp [restD, frameD, setAll]
      exact ⟨p, T, c, r, cs, mu0, f, h, as, ns, sc, n, k, rfl, by simp [frameD], hz2, up g⟩
    | second s a =>
      simp [restD, frameD, setAll]
      exact ⟨p, T, c, r, cs, mu0, s, a, n, k, rfl, by simp [frameD], up g⟩
    | deed d =>
      simp [restD, frameD, setAll]
      exact ⟨p, T, c, r, cs, mu0, d, n, k, rfl, rfl, by omega, up g⟩
    | goes a =>
      simp [restD, frameD, setAll]
      exact ⟨p, T, c, r, cs, mu0, a, n, k, rfl, rfl, ⟨by omega, hz2⟩, up g⟩
    | clause pre h kept went =>
      simp [restD, frameD, setAll]
      exact ⟨p, T, c, r, cs, mu0, pre, h, kept, went, n, k, rfl, by simp [frameD], fun e => by subst e; simp only [wF] at hz; omega, up g⟩
    | stands h kept =>
      have hP := g.plain
      simp [restD, frameD, setAll, handD]
      refine nd_get ?_
      simpa [ctlD, scD, knownD] using hP
    | cleans m =>
      obtain ⟨hs, hP⟩ := g.ent
      simp at hs
      simp [restD, frameD, setAll, setC_ins i, flk_record, setC_r i]
      refine ⟨by omega, ?_⟩
      rw [setC_clean i]
      refine nd_get ?_
      simpa [ctlD] using hP
    | first t sc =>
      simp [restD, frameD, setAll]
      exact ⟨p, T, c, r, cs, mu0, t, sc, n, k, rfl, by simp [frameD], up g⟩

/-! ### to_end -/
structure Fin where
  fin : End
  log : List Ent
  used : Nat
  rest : List Frame
def Ctl.sz : Ctl → Prop
  | .look _ _ _ => True
  | .tell _ k => SzK k
def orest : Option Ctl → List Frame
  | some c => c.rest
  | none => []
inductive Runs (p : Prog) (T : Nat) : Nat → CS → Ctl → Fin → Prop where
  | done {cs : CS} {n : Int} : cs.fin = none → Runs p T 0 cs (.tell n []) ⟨.done n, cs.log, cs.used, []⟩
  | fin {cs : CS} {c : Ctl} {o : Out} {e : End} : cs.fin = none → step p c = some o → c.sz → cs.log.length + o.ents.length ≤ 10000000 → (after T cs o).1.fin = some e → Runs p T 0 cs c ⟨e, (after T cs o).1.log, (after T cs o).1.used, orest (after T cs o).2⟩
  | next {cs : CS} {c c' : Ctl} {o : Out} {n : Nat} {F : Fin} : cs.fin = none → step p c = some o → c.sz → cs.log.length + o.ents.length ≤ 10000000 → (after T cs o).1.fin = none → (after T cs o).2 = some c' → Runs p T n (after T cs o).1 c' F → Runs p T (n + 1) cs c F
def isAsks : End → Bool
  | .asks _ _ => true
  | _ => false
def waitsD (p : Prog) (T : Nat) (F : Fin) : D := if isAsks F.fin then .tup [progD p, .int T, .int F.used, .tup (F.log.map entD), restD F.rest] else .non
def haltD (CH : Addr) (p : Prog) (T : Nat) (F : Fin) : D := .ins CH hNames [endD F.fin, .lst (F.log.map entD), .int F.used, waitsD p T F]
def R_to_end (CH CC : Addr) : DR := fun mu ds P => ∃ p T c r cs mu0 ctl F n, mu = setC CC p T c r cs mu0 ∧ CIn c r mu0 ∧ ds = [.obj c, ctlD ctl] ∧ Runs p T n cs ctl F ∧ P (haltD CH p T F) (setC CC p T c r ⟨F.used, F.log, some F.fin⟩ mu0)
theorem Runs.fn {p : Prog} {T n : Nat} {cs : CS} {c : Ctl} {F : Fin} (h : Runs p T n cs c F) : cs.fin = none := by cases h <;> assumption
theorem asks_tell {p : Prog} {T : Nat} {cs : CS} {c : Ctl} {o : Out} {e : End} (h : step p c = some o) (he : (after T cs o).1.fin = some e) (ha : isAsks e = true) : ∃ n k, (after T cs o).2 = some (.tell n k) := by
  unfold after at he ⊢
  split at he
  · cases he
    cases ha
  · rename_i hh
    rw [if_neg hh]
    simp only at he ⊢
    cases c with
    | look t sc k =>
      exfalso
      simp only [step] at h
      have : o.fin = none := by
        unfold begunTree at h
        split at h
        · cases h; rfl
        · split at h <;> cases h; rfl
        · unfold called at h
          split at h
          · split at h <;> cases h; rfl
          · cases h
        all_goals (cases h; rfl)
      rw [this] at he; cases he
    | tell n k =>
      simp only [step] at h
      cases k with
      | nil => cases h
      | cons f k =>
        cases f with
        | args f hh as ns sc =>
          exfalso
          have : o.fin = none := by
            simp only [told, toldArg, called] at h
            split at h
            · cases h; rfl
            · split at h
              · split at h
                · split at h <;> cases h; rfl
                · cases h
              · cases h
          rw [this] at he; cases he
        | second s a =>
          simp only [told, toldSecond] at h
          split at h <;> cases h
          exact ⟨_, _, rfl⟩
        | deed d =>
          simp only [told, asked] at h
          split at h
          · cases h; exact ⟨_, _, rfl⟩
          · split at h
            · cases h; cases he
            · cases h
        | goes a =>
          simp only [told, toldGo] at h
          split at h <;> cases h
          exact ⟨_, _, rfl⟩
        | clause pre hd kept went =>
          simp only [told, toldClause] at h
          cases h
          exact ⟨_, _, rfl⟩
        | stands hd kept =>
          simp only [told] at h
          cases h
          cases he
        | cleans m =>
          simp only [told] at h
          cases h
          exact ⟨_, _, rfl⟩
        | first t sc =>
          exfalso
          have : o.fin = none := by
            simp only [told, toldTree] at h
            split at h
            all_goals first | (cases h; rfl) | (cases h; done) | skip
            all_goals (split at h <;> cases h; rfl)
          rw [this] at he; cases he
theorem sqv_obj {mu : Mu} {a h : Addr} {o : DO} {ds : List D} (e : mget mu a = some (.lst ds)) (n : h ≠ a) : sqv ((h, o) :: mu) (.obj a) = some ds := by
  unfold sqv lv
  simp [mget_next n, e]
theorem endD_head (e : End) : ∃ r, endD e = .tup (.str (match e with
  | .spent => "spent"
  | .asks _ _ => "asks"
  | .great => "great"
  | .done _ => "done") :: r) := by cases e <;> exact ⟨_, rfl⟩
theorem body_to_end (CH CC : Addr) : ∀ mu es P, R_to_end CH CC mu es P → b_to_end CH CC (R_begun_tree CC) (R_told CC) (R_halt CH) (endsG mu P) (startD N_to_end es) mu := by
  rintro mu es P ⟨p, T, c, r, cs, mu0, ctl, F, n, rfl, i, rfl, hR, hP⟩
  unfold b_to_end
  rw [x_seq]
  obtain ⟨W, hW⟩ : ∃ W : Nat → Rho → Mu → Prop, W = fun m rho mu' => (∃ cs ctl n, m = n + 1 ∧ rho = [some (.obj c), some (ctlD ctl), none] ∧ mu' = setC CC p T c r cs mu0 ∧ Runs p T n cs ctl F) ∨
      (m = 0 ∧ ∃ oc : Option Ctl, rho = [some (.obj c), some (octlD oc), none] ∧ mu' = setC CC p T c r ⟨F.used, F.log, some F.fin⟩ mu0 ∧ (isAsks F.fin = true → ∃ n, oc = some (.tell n F.rest))) := ⟨_, rfl⟩
  refine ⟨W, ⟨n + 1, by rw [hW]; exact .inl ⟨cs, ctl, n, rfl, rfl, rfl, hR⟩⟩, ?_⟩
  intro m rho mu' w
  rw [hW] at w
  rcases w with ⟨cs, ctl, n, rfl, rfl, rfl, hR⟩ | ⟨rfl, oc, rfl, rfl, ha⟩
  · have nf := hR.fn
    simp only [x_test, x_op, x_fld, x_var, x_c, List.getElem?_cons_zero, setC_ins i, flk_end, nf, oendD, disN_, isNon_non, if_true]
    refine ⟨fun r' m' => ∃ k, k < n + 1 ∧ W k r' m', fun r' m' q => q, ?_⟩
    have go : ∀ (o : Out), step p ctl = some o → Runs p T n cs ctl F → cs.log.length + o.ents.length ≤ 10000000 → ∃ k, k < n + 1 ∧ W k [some (.obj c), some (octlD (after T cs o).2), none] (setC CC p T c r (after T cs o).1 mu0) := by
      intro o ho hR hs
      cases hR with
      | done => cases ho
      | fin h1 h2 h3 h4 h5 =>
        rw [ho] at h2
        cases h2
        refine ⟨0, by omega, ?_⟩
        rw [hW]
        refine .inr ⟨rfl, _, rfl, ?_, fun q => ?_⟩
        · rw [← h5]
        · obtain ⟨m, k, e⟩ := asks_tell ho h5 q
          exact ⟨m, by rw [e]; rfl⟩
      | next h1 h2 h3 h4 h5 h6 h7 =>
        rename_i c' o' n'
        rw [ho] at h2
        cases h2
        refine ⟨n' + 1, by omega, ?_⟩
        rw [hW]
        exact .inl ⟨_, _, _, rfl, by rw [h6]; rfl, rfl, h7⟩
    have sz : ∀ (o : Out), step p ctl = some o → ctl.sz ∧ cs.log.length + o.ents.length ≤ 10000000 := by
      intro o ho
      cases hR with
      | done => cases ho
      | fin h1 h2 h3 h4 h5 =>
        rw [ho] at h2
        cases h2
        exact ⟨h3, h4⟩
      | next h1 h2 h3 h4 h5 h6 h7 =>
        rw [ho] at h2
        cases h2
        exact ⟨h3, h4⟩
    have ex : (∃ o, step p ctl = some o) ∨ ∃ m, ctl = .tell m [] := by
      cases hR with
      | done => exact .inr ⟨_, rfl⟩
      | fin h1 h2 h3 h4 h5 => exact .inl ⟨_, h2⟩
      | next h1 h2 h3 h4 h5 h6 h7 => exact .inl ⟨_, h2⟩
    unfold b_to_end_L1
    cases ctl with
    | look t sc k =>
      simp [ctlD]
      rcases ex with ⟨o, ho⟩ | ⟨m, e⟩
      · refine ⟨p, T, c, r, cs, mu0, t, sc, k, rfl, rfl, i, nf, o, ho, (sz o ho).2, ?_⟩
        exact go o ho hR (sz o ho).2
      · cases e
    | tell m k =>
      cases k with
      | nil =>
        cases hR with
        | fin h1 h2 h3 h4 h5 => cases h2
        | next h1 h2 h3 h4 h5 h6 h7 => cases h2
        | done =>
          simp [ctlD, restD, setC_c i, crsO, nput_end, vput_end, nf, oendD]
          rw [setC_done i]
          rw [hW]
          exact .inr ⟨rfl, some (.tell m []), by simp [octlD, ctlD, restD], rfl, fun q => by cases q⟩
      | cons f k =>
        simp [ctlD, restD]
        rcases ex with ⟨o, ho⟩ | ⟨m, e⟩
        · refine ⟨p, T, c, r, cs, mu0, m, f :: k, rfl, by simp [restD], (sz o ho).1, i, nf, o, ho, (sz o ho).2, ?_⟩
          exact go o ho hR (sz o ho).2
        · cases e
  · simp only [x_test, x_op, x_fld, x_var, x_c, List.getElem?_cons_zero, setC_ins i, flk_end, oendD, disN_]
    have hne : isNon (endD F.fin) = false := by cases F.fin <;> rfl
    rw [hne]
    simp only [Bool.false_eq_true, if_false]
    have fin : ∀ (w : D) (rho : Rho), w = waitsD p T F → rho[0]? = some (some (.obj c)) → rho[2]? = some (some w) → dRet (dFrzE (dMake CH (R_halt CH) (dCons (dFld CC "end" (dVar 0)) (dCons (dFld CC "record" (dVar 0)) (dCons (dFld CC "used" (dVar 0)) (dCons (dVar 2) dNil)))))) (endsG (setC CC p T c r cs mu0) P) rho (setC CC p T c r ⟨F.used, F.log, some F.fin⟩ mu0) := by
      intro w rho hw h0 h2
      simp [h0, h2, setC_ins i, flk_end, flk_record, flk_used, oendD]
      intro q hq
      have hqr : q ≠ r := fun e => hq (by rw [setC_dom, e]; exact i.hr)
      refine ⟨q, _, _, _, _, _, _, rfl, rfl, sqv_obj (setC_r i) hqr, rfl, ?_⟩
      simp [hq, mget_top, frz]
      rw [mdel_top hq]
      refine nd_get ?_
      rw [hw]
      exact hP
    rw [x_seq, x_asg]
    simp only [x_c]
    rw [x_seq, x_if]
    obtain ⟨er, ee⟩ := endD_head F.fin
    by_cases hA : isAsks F.fin = true
    · obtain ⟨n, rfl⟩ := ha hA
      cases hF : F.fin with
      | asks d m =>
        simp only [hF, endD] at fin ⊢
        simp [setC_ins i, flk_end, flk_program, flk_turns, flk_used, flk_record, drTuple, lv_cell (setC_r i), octlD, ctlD, oendD, endD, -x_ret]
        refine fin _ _ ?_ rfl rfl
        unfold waitsD
        rw [hF]
        rfl
      | _ => rw [hF] at hA; cases hA
    · have hw : waitsD p T F = .non := by unfold waitsD; rw [if_neg hA]
      cases hF : F.fin with
      | asks d m => rw [hF] at hA; exact absurd rfl hA
      | _ =>
        simp only [hF, endD] at fin ⊢
        simp [setC_ins i, flk_end, oendD, endD, -x_ret]
        exact fin _ _ hw.symm rfl rfl
end DL
set_option maxHeartbeats 2000000
/-! K53i: walk.py: begun, gone_on, run -/
namespace DL
open PySem PySem.Spec PyProof.Rows L2

abbrev cs0 : CS := ⟨0, [], none⟩
structure Begins (p : Prog) (T : Nat) (f : Str) (ns : List Int) (F : Fin) : Prop where
  ex : ∃ fn n, fnNamed p f = some fn ∧ fn.block = none ∧ fn.params.length = ns.length ∧ Runs p T n cs0 (.look fn.body ⟨(fn.params.zip ns).reverse, none, none⟩ []) F
/-- the cells of a new course -/
theorem setC_new {CC : Addr} {p : Prog} {T : Nat} {c r : Addr} {cs : CS} {mu : Mu} {o1 o2 : DO} (h : r ≠ c) : setC CC p T c r cs ((r, o1) :: (c, o2) :: mu) = (r, .lst (cs.log.map entD)) :: (c, crsO CC p T r cs) :: mu := by
  unfold setC
  rw [mput_next h, mput_top, mput_top]
theorem cin_new {c r : Addr} {mu : Mu} {o1 o2 : DO} (h : r ≠ c) : CIn c r ((r, o1) :: (c, o2) :: mu) := ⟨by simp [dom], by simp [dom], fun e => h e.symm⟩
def R_begun (CH : Addr) : DR := fun mu ds P => ∃ p T f ns F, ds = [progD p, .str f, .lst (ns.map .int), .int ((T : Nat) : Int)] ∧ Begins p T f ns F ∧ P (haltD CH p T F) mu
theorem zip_begun (CH CC : Addr) (Rt Rf Rc : DR) (Z : DEnds) (rho : Rho) (mu : Mu) (x y kn : D) (h1 : rho[6]? = some (some x)) (h2 : rho[7]? = some (some y)) (h3 : rho[5]? = some (some kn)) (h : Z.nx (rho.set 5 (some (.tup [x, y, kn]))) mu) : b_begun_L1 CH CC Rt Rf Rc Z rho mu := by
  unfold b_begun_L1
  simp [h1, h2, h3]
  exact h
theorem body_begun (CH CC : Addr) : ∀ mu es P, R_begun CH mu es P → b_begun CH CC R_function_named (R_to_end CH CC) (R_course CC) (endsG mu P) (startD N_begun es) mu := by
  rintro mu es P ⟨p, T, f, ns, F, rfl, ⟨fn, n, hf, hb, hl, hR⟩, hP⟩
  unfold b_begun
  rw [x_seq]
  simp [-x_seq]
  refine ⟨p, f, rfl, ?_⟩
  rw [hf]
  simp only [optD]
  rw [x_seq]
  simp [fnD, hb, -x_seq]
  rw [x_seq]
  simp [drLen, hl, -x_seq]
  rw [x_seq]
  simp [-x_seq]
  rw [x_seq]
  simp [-x_seq]
  refine ⟨hl, ?_⟩
  refine loop_zip _ 6 7 5 _ _ (fun Z rho x y kn h1 h2 h3 h => zip_begun CH CC _ _ _ Z rho _ x y kn h1 h2 h3 h) (by decide) (by decide) (by decide) fn.params ns [] _ (by simp) (by simp) rfl fun rho' k1 k2 k3 => ?_
  have r0 : rho'[0]? = some (some (progD p)) := by rw [k1 0 (by decide) (by decide) (by decide)]; rfl
  have r3 : rho'[3]? = some (some (.int T)) := by rw [k1 3 (by decide) (by decide) (by decide)]; rfl
  have r4 : rho'[4]? = some (some (fnD fn)) := by rw [k1 4 (by decide) (by decide) (by decide)]; simp [fnD, hb]
  simp [r0, r3, r4, k3, fnD]
  intro c hc
  refine ⟨c, mu, _, _, _, _, [], rfl, rfl, rfl, fun r hr => ?_⟩
  have hrc : r ≠ c := by intro e; apply hr; simp [dom, e]
  refine ⟨rfl, p, T, c, r, cs0, (r, .lst []) :: (c, .ins CC cNames [progD p, .int T, .int 0, .obj r, .non]) :: mu, _, F, n, ?_, cin_new hrc, rfl, hR, ?_⟩
  · rw [setC_new hrc]
    rfl
  · rw [setC_new hrc]
    exact ⟨mu, (Sub.refl mu).tail.tail, hP⟩
def R_gone_on (CH : Addr) : DR := fun mu ds P => ∃ p T F a F' n, ds = [haltD CH p T F, .int a] ∧ isAsks F.fin = true ∧ Runs p T n ⟨F.used, F.log, none⟩ (.tell a F.rest) F' ∧ P (haltD CH p T F') mu
theorem insv_halt (mu : Mu) (CH : Addr) (p : Prog) (T : Nat) (F : Fin) : insv mu CH (haltD CH p T F) = some (hNames, [endD F.fin, .lst (F.log.map entD), .int F.used, waitsD p T F]) := by
  unfold insv haltD
  simp
theorem flkh_end (a b c d : D) : flk "end" hNames [a, b, c, d] = some a := by simp [flk]
theorem flkh_record (a b c d : D) : flk "record" hNames [a, b, c, d] = some b := by simp [flk]
theorem flkh_used (a b c d : D) : flk "used" hNames [a, b, c, d] = some c := by simp [flk]
theorem flkh_waits (a b c d : D) : flk "waits" hNames [a, b, c, d] = some d := by simp [flk]
theorem body_gone_on (CH CC : Addr) : ∀ mu es P, R_gone_on CH mu es P → b_gone_on CH CC (R_to_end CH CC) (R_course CC) (endsG mu P) (startD N_gone_on es) mu := by
  rintro mu es P ⟨p, T, F, a, F', n, rfl, hA, hR, hP⟩
  unfold b_gone_on
  have hw : waitsD p T F = .tup [progD p, .int T, .int F.used, .tup (F.log.map entD), restD F.rest] := by unfold waitsD; rw [if_pos hA]
  simp [insv_halt, flkh_waits, hw, setAll]
  intro c hc
  refine ⟨c, mu, _, _, _, _, F.log.map entD, rfl, rfl, rfl, fun r hr => ?_⟩
  have hrc : r ≠ c := by intro e; apply hr; simp [dom, e]
  refine ⟨rfl, p, T, c, r, ⟨F.used, F.log, none⟩, (r, .lst (F.log.map entD)) :: (c, .ins CC cNames [progD p, .int T, .int F.used, .obj r, .non]) :: mu, _, F', n, ?_, cin_new hrc, rfl, hR, ?_⟩
  · rw [setC_new hrc]
    rfl
  · rw [setC_new hrc]
    exact ⟨mu, (Sub.refl mu).tail.tail, hP⟩
def GoOn (p : Prog) (T : Nat) : List Int → Fin → Fin → Prop
  | [], F, R => R = F
  | a :: as, F, R => if isAsks F.fin = true then ∃ n F', Runs p T n ⟨F.used, F.log, none⟩ (.tell a F.rest) F' ∧ GoOn p T as F' R else R = F
def resD (R : Fin) : D := .tup [endD R.fin, .lst (R.log.map entD), .int R.used]
def R_run : DR := fun mu ds P => ∃ p T f ns as F R, ds = [progD p, .str f, .lst (ns.map .int), .lst (as.map .int), .int ((T : Nat) : Int)] ∧ Begins p T f ns F ∧ GoOn p T as F R ∧ P (resD R) mu
theorem loop_run (CH CC : Addr) (Z : DEnds) (a b c d e : D) (p : Prog) (T : Nat) (R : Fin) (mu : Mu) (hZ : ∀ o, Z.nx [some a, some b, some c, some d, some e, some (haltD CH p T R), o] mu) : ∀ (as : List Int) (F : Fin) (o : Option D), GoOn p T as F R →
    dFor 6 (b_run_L1 CH CC (R_begun CH) (R_gone_on CH)) (as.map .int) Z [some a, some b, some c, some d, some e, some (haltD CH p T F), o] mu
  | [], F, o, h => by
    cases h
    exact hZ o
  | x :: as, F, o, h => by
    rw [List.map_cons, x_for1]
    unfold b_run_L1
    obtain ⟨er, ee⟩ := endD_head F.fin
    unfold GoOn at h
    by_cases hA : isAsks F.fin = true
    · rw [if_pos hA] at h
      obtain ⟨n, F', hR, hG⟩ := h
      cases hF : F.fin with
      | asks dd m =>
        simp [insv_halt, flkh_end, hF, endD]
        refine ⟨p, T, F, x, F', n, rfl, hA, hR, ?_⟩
        exact loop_run CH CC Z a b c d e p T R mu hZ as F' _ hG
      | _ => rw [hF] at hA; cases hA
    · rw [if_neg hA] at h
      cases h
      cases hF : R.fin with
      | asks dd m => rw [hF] at hA; exact absurd rfl hA
      | _ =>
        simp [insv_halt, flkh_end, hF, endD]
        exact hZ _
theorem body_run (CH CC : Addr) : ∀ mu es P, R_run mu es P → b_run CH CC (R_begun CH) (R_gone_on CH) (endsG mu P) (startD N_run es) mu := by
  rintro mu es P ⟨p, T, f, ns, as, F, R, rfl, hB, hG, hP⟩
  unfold b_run
  rw [x_seq]
  simp [-x_seq]
  refine ⟨p, T, f, ns, F, rfl, hB, ?_⟩
  dsimp only
  rw [x_seq]
  simp [-x_seq]
  refine loop_run CH CC _ _ _ _ _ _ p T R mu (fun o => ?_) as F _ hG
  simp [insv_halt, flkh_end, flkh_record, flkh_used, drList]
  exact nd_get hP
end DL
set_option maxHeartbeats 2000000
/-! K54a: what is asked of generated trees; take, source, number_by, leaf, value_by -/
namespace DL
open PySem PySem.Spec PyProof.Rows L2

inductive Head where
  | fn (name : Str) (params : List Str) (block : Option Str)
  | hand (name : Str)
def Head.name : Head → Str
  | .fn n _ _ => n
  | .hand n => n
def headD : Head → D
  | .fn n ps b => .tup [.str "def", .str n, .tup (ps.map .str), optS b]
  | .hand n => .tup [.str "handler", .str n]
def PlainH (hs : List Head) (y : Str) : Prop := ∃ x, Head.fn y [x] none ∈ hs
def strGood (x : Str) : Prop := PyData.strOk x = true
mutual
def WT (hs : List Head) : Bool → Bool → List Str → Option Str → Tree → Prop
  | _, _, _, _, .num n => n.natAbs ≤ 10 ^ 18
  | _, _, vs, _, .var x => x ∈ vs
  | g, hd, vs, bl, .call f h as => ((bl = some f ∧ h = none ∧ as.length = 1) ∨ (bl ≠ some f ∧ ∃ ps b, Head.fn f ps b ∈ hs ∧ as.length = ps.length ∧ as.length ≤ 8 ∧ (b = none → h = none) ∧ (b ≠ none → ∃ y, h = some y ∧ (bl = some y ∨ PlainH hs y)))) ∧ WTs hs g hd vs bl as
  | g, hd, vs, bl, .op _ a b => WT hs g hd vs bl a ∧ WT hs g hd vs bl b
  | g, hd, vs, bl, .lett x a b => WT hs g hd vs bl a ∧ WT hs g hd (vs ++ [x]) bl b
  | g, hd, vs, bl, .iff c a b => WT hs g hd vs bl c ∧ WT hs g hd vs bl a ∧ WT hs g hd vs bl b
  | g, hd, vs, bl, .deed d a => strGood d ∧ WT hs g hd vs bl a
  | g, hd, vs, bl, .handle h a b => hd = true ∧ Head.hand h ∈ hs ∧ WT hs g hd vs bl a ∧ WT hs false hd vs bl b
  | g, hd, vs, bl, .go a b => g = true ∧ WT hs g hd vs bl a ∧ WT hs g hd vs bl b
  | g, hd, vs, bl, .guard a b => WT hs g hd vs bl a ∧ WT hs g hd vs bl b
def WTs (hs : List Head) : Bool → Bool → List Str → Option Str → List Tree → Prop
  | _, _, _, _, [] => True
  | g, hd, vs, bl, t :: r => WT hs g hd vs bl t ∧ WTs hs g hd vs bl r
end
mutual
def inn : Tree → Nat
  | .num _ => 0
  | .var _ => 0
  | .call _ _ as => 1 + inns as
  | .op _ a b => 1 + inn a + inn b
  | .lett _ a b => 1 + inn a + inn b
  | .iff c a b => 1 + inn c + inn a + inn b
  | .deed _ a => 1 + inn a
  | .handle _ a b => 1 + inn a + inn b
  | .go a b => 1 + inn a + inn b
  | .guard a b => 1 + inn a + inn b
def inns : List Tree → Nat
  | [] => 0
  | t :: r => inn t + inns r
end

theorem divOk {i j : Int} (h : 0 < j) (h2 : j < 2 ^ 64) : CDivW i j := wide_div (b := 64) h (by omega) (by decide) (by decide)
@[simp] theorem i2_ (f : Int → Int → D) (i j : Int) (mu : Mu) (P : PD) : i2 f (.int i) (.int j) mu P = P (f i j) mu := propext ⟨fun h => h, fun h => h⟩
@[simp] theorem i2c_ (C : Int → Int → Prop) (f : Int → Int → D) (i j : Int) (mu : Mu) (P : PD) : i2c C f (.int i) (.int j) mu P = (C i j ∧ P (f i j) mu) := propext ⟨fun h => h, fun h => h⟩
theorem sqv_cell {mu : Mu} {a : Addr} {ds : List D} (h : mget mu a = some (.lst ds)) : sqv mu (.obj a) = some ds := by
  unfold sqv
  rw [lv_cell h]
@[simp] theorem dix_obj (a : Addr) (i : Int) (mu : Mu) (P : PD) : dix (.obj a) (.int i) mu P = match sqv mu (.obj a) with
  | some ds => (match atI ds i with
    | some d => P d mu
    | none => False)
  | none => False := propext ⟨fun h => h, fun h => h⟩
/-- the state cell -/
abbrev stO (n : Int) : DO := .lst [.int n]
def R_law_take : DR := fun mu ds P => ∃ s n m, ds = [.obj s, .int m] ∧ mget mu s = some (stO n) ∧ 0 < m ∧ m < 2 ^ 64 ∧ ∀ r n', 0 ≤ r → r < m → P (.int r) (mput mu s (stO n'))
theorem body_law_take (CH CC : Addr) : ∀ mu es P, R_law_take mu es P → b_law_take CH CC (endsG mu P) (startD N_law_take es) mu := by
  rintro mu es P ⟨s, n, m, rfl, hs, h1, h2, hP⟩
  unfold b_law_take
  simp [sqv_cell hs, hs, h1, divOk h1 h2, ixN]
  exact nd_get (hP _ _ (Int.emod_nonneg _ (by omega)) (Int.emod_lt_of_pos _ h1))
theorem take_ok {mu : Mu} {s : Addr} {n m : Int} {P : PD} (hs : mget mu s = some (stO n)) (h1 : 0 < m) (h2 : m < 2 ^ 64) (k : ∀ r n', 0 ≤ r → r < m → P (.int r) (mput mu s (stO n'))) : R_law_take mu [.obj s, .int m] P := ⟨s, n, m, rfl, hs, h1, h2, k⟩
def R_law_number_by : DR := fun mu ds P => ∃ s n, ds = [.obj s] ∧ mget mu s = some (stO n) ∧ ∀ r n', r.natAbs ≤ 10 ^ 18 → P (.int r) (mput mu s (stO n'))
theorem mget_st {mu : Mu} {s : Addr} {n n' : Int} (h : mget mu s = some (stO n)) : mget (mput mu s (stO n')) s = some (stO n') := get_put_same h
theorem body_law_number_by (CH CC : Addr) : ∀ mu es P, R_law_number_by mu es P → b_law_number_by CH CC R_law_take (endsG mu P) (startD N_law_number_by es) mu := by
  rintro mu es P ⟨s, n, rfl, hs, hP⟩
  unfold b_law_number_by
  rw [x_seq]
  simp [-x_seq]
  refine take_ok (hs) (by decide) (by decide) fun r n1 h0 h1 => ?_
  rw [x_seq, x_if]
  simp [-x_seq]
  by_cases e : r = 0
  · rw [if_pos e]
    refine ⟨by unfold CPow; omega, take_ok (mget_st hs) (by decide) (by decide) fun r2 n2 h2 h3 => ?_⟩
    rw [put_put]
    refine nd_get (hP _ _ ?_)
    have : (10 : Int) ^ 18 = 1000000000000000000 := by decide
    omega
  · rw [if_neg e, x_seq, x_if]
    simp [-x_seq]
    by_cases e : r = 1
    · rw [if_pos e]
      refine ⟨by unfold CPow; omega, take_ok (mget_st hs) (by decide) (by decide) fun r2 n2 h2 h3 => ?_⟩
      rw [put_put]
      refine nd_get (hP _ _ ?_)
      have : (10 : Int) ^ 18 = 1000000000000000000 := by decide
      omega
    · rw [if_neg e]
      refine take_ok (mget_st hs) (by decide) (by decide) fun r2 n2 h2 h3 => ?_
      rw [put_put]
      exact nd_get (hP _ _ (by omega))
def R_law_value_by : DR := R_law_number_by
theorem body_law_value_by (CH CC : Addr) : ∀ mu es P, R_law_value_by mu es P → b_law_value_by CH CC R_law_take (endsG mu P) (startD N_law_value_by es) mu := by
  rintro mu es P ⟨s, n, rfl, hs, hP⟩
  unfold b_law_value_by
  have t18 : (10 : Int) ^ 18 = 1000000000000000000 := by decide
  rw [x_seq]
  simp [-x_seq]
  refine take_ok (hs) (by decide) (by decide) fun r n1 h0 h1 => ?_
  rw [x_seq, x_if]
  simp [-x_seq]
  by_cases e : r = 0
  · rw [if_pos e]
    refine ⟨by unfold CPow; omega, by unfold CMul; omega, take_ok (mget_st hs) (by decide) (by decide) fun r2 n2 h2 h3 => ?_⟩
    rw [put_put]
    simp
    refine ⟨by unfold CPow; omega, nd_get (hP _ _ ?_)⟩
    omega
  · rw [if_neg e, x_seq, x_if]
    simp [-x_seq]
    by_cases e : r = 1
    · rw [if_pos e]
      refine ⟨by unfold CPow; omega, take_ok (mget_st hs) (by decide) (by decide) fun r2 n2 h2 h3 => ?_⟩
      rw [put_put]
      refine nd_get (hP _ _ ?_)
      omega
    · rw [if_neg e]
      refine take_ok (mget_st hs) (by decide) (by decide) fun r2 n2 h2 h3 => ?_
      rw [put_put]
      exact nd_get (hP _ _ (by omega))
/-- a leaf -/
def R_law_leaf : DR := fun mu ds P => ∃ s n vs, ds = [.obj s, .lst (vs.map .str)] ∧ mget mu s = some (stO n) ∧ vs.length < 2 ^ 60 ∧ ∀ t n', (∀ hs g hd bl, WT hs g hd vs bl t) → inn t = 0 → P (treeD t) (mput mu s (stO n'))
theorem body_law_leaf (CH CC : Addr) : ∀ mu es P, R_law_leaf mu es P → b_law_leaf CH CC R_law_take R_law_number_by (endsG mu P) (startD N_law_leaf es) mu := by
  rintro mu es P ⟨s, n, vs, rfl, hs, hl, hP⟩
  unfold b_law_leaf
  have num : ∀ n1, dRet (dTup (dCons (dC (.str "num")) (dCons (dCall R_law_number_by (dCons (dVar 0) dNil)) dNil))) (endsG mu P) [some (.obj s), some (.lst (vs.map .str))] (mput mu s (stO n1)) := by
    intro n1
    simp
    refine ⟨s, n1, rfl, mget_st hs, fun r n2 h2 => ?_⟩
    rw [put_put]
    refine nd_get ?_
    have := hP (.num r) n2 (fun _ _ _ _ => by simp only [WT]; exact h2) (by simp only [inn])
    simpa [treeD] using this
  rw [x_seq, x_if]
  cases vs with
  | nil =>
    simp [dneNil]
    refine ⟨s, n, rfl, hs, fun r n2 h2 => ?_⟩
    refine nd_get ?_
    have := hP (.num r) n2 (fun _ _ _ _ => by simp only [WT]; exact h2) (by simp only [inn])
    simpa [treeD] using this
  | cons v vs =>
    simp [dneNil, -x_ret]
    refine take_ok (hs) (by decide) (by decide) fun r n1 h0 h1 => ?_
    simp [-x_ret]
    by_cases e : 0 < r
    · rw [if_pos e]
      simp [drLen]
      refine take_ok (mget_st hs) (by omega) (by simp at hl; omega) fun r2 n2 h2 h3 => ?_
      rw [put_put]
      obtain ⟨j, rfl⟩ : ∃ j : Nat, r2 = j := ⟨r2.toNat, by omega⟩
      have hlt : j < (v :: vs).length := by simp; omega
      have e3 : atI (D.str v :: List.map D.str vs) ((j : Nat) : Int) = some (.str ((v :: vs)[j])) := by
        rw [atI_nat, ← List.map_cons, List.getElem?_map, List.getElem?_eq_getElem (by omega)]
        simp
      simp [e3]
      refine nd_get ?_
      have := hP (.var ((v :: vs)[j])) n2 (fun _ _ _ _ => by simp only [WT]; exact List.getElem_mem _) (by simp only [inn])
      simpa [treeD] using this
    · rw [if_neg e]
      exact num n1
/-! ### source -/
def R_law_source : DR := fun mu ds P => ∃ (sc : List Int) (k : Nat), ds = [.fz sc, .int ((k : Nat) : Int)] ∧ k < 100000 ∧ ∀ s n, s ∉ dom mu → P (.obj s) ((s, stO n) :: mu)
theorem loop_law_source (CH CC : Addr) (Z : DEnds) (a : D) (k : Nat) (c : D) (mu : Mu) (hk : k < 100000) (hZ : ∀ x y o, Z.nx [some a, some (.int k), some c, some (.int x), some (.int y), o] mu) : ∀ (js : List Nat) (x y : Int) (o : Option D), (∀ j ∈ js, j < 12) →
    dFor 5 (b_law_source_L1 CH CC) (js.map fun j => .int ((j : Nat) : Int)) Z [some a, some (.int k), some c, some (.int x), some (.int y), o] mu
  | [], x, y, o, h => hZ x y o
  | j :: js, x, y, o, h => by
    rw [List.map_cons, x_for1]
    unfold b_law_source_L1
    have hj := h j List.mem_cons_self
    simp
    refine ⟨by unfold CMul; omega, by unfold CMul; omega, by unfold CPow; omega, by unfold CMul; omega, divOk (by decide) (by decide), by unfold CMul; omega, ?_, by unfold CPow; omega, ?_⟩
    · unfold CMul
      omega
    · exact loop_law_source CH CC Z a k c mu hk hZ js _ _ _ fun j hj => h j (List.mem_cons_of_mem _ hj)
theorem sub_one (a : Addr) (o : DO) (mu : Mu) : Sub mu ((a, o) :: mu) := (Sub.refl mu).tail
theorem body_law_source (CH CC : Addr) : ∀ mu es P, R_law_source mu es P → b_law_source CH CC (endsG mu P) (startD N_law_source es) mu := by
  rintro mu es P ⟨sc, k, rfl, hk, hP⟩
  unfold b_law_source
  rw [x_seq]
  simp [-x_seq]
  rw [x_seq, x_if]
  have rest : ∀ c : Int, dSeq (dIf (dAnd (dTest (dOp (i2 fun i j => .bl (decide (j < i))) (dCB drLen (dCons (dVar 0) dNil)) (dC (.int 0)))) (dTest (dOp (deq) (dOp (i2c (fun _ j => 0 < j) fun i j => .int (i % j)) (dOp dix (dVar 0) (dC (.int 0))) (dC (.int 2))) (dC (.int 1))))) (dRet (dLstM (dCons (dCB drAbs (dCons (dVar 2) dNil)) dNil))) dNext)
      (dSeq (dAsg (dOp (i2 fun i j => .int (i + j)) (dOp (i2 fun i j => .int (i + j)) (dOp (i2c (fun _ j => 0 < j) fun i j => .int (i % j)) (dVar 2) (dC (.int 2305843009213693951))) (dOp (i2c CMul fun i j => .int (i * j)) (dC (.int 7919)) (dVar 1))) (dC (.int 5))) 3)
      (dSeq (dAsg (dC (.int 0)) 4)
      (dSeq (dForI 5 (dRange (dC (.int 12))) (b_law_source_L1 CH CC))
      (dRet (dLstM (dCons (dVar 4) dNil)))))) (endsG mu P) [some (.fz sc), some (.int k), some (.int c), none, none, none] mu := by
    intro c
    have rest2 : dSeq (dAsg (dOp (i2 fun i j => .int (i + j)) (dOp (i2 fun i j => .int (i + j)) (dOp (i2c (fun _ j => 0 < j) fun i j => .int (i % j)) (dVar 2) (dC (.int 2305843009213693951))) (dOp (i2c CMul fun i j => .int (i * j)) (dC (.int 7919)) (dVar 1))) (dC (.int 5))) 3)
      (dSeq (dAsg (dC (.int 0)) 4)
      (dSeq (dForI 5 (dRange (dC (.int 12))) (b_law_source_L1 CH CC))
      (dRet (dLstM (dCons (dVar 4) dNil))))) (endsG mu P) [some (.fz sc), some (.int k), some (.int c), none, none, none] mu := by
      rw [x_seq]
      simp [-x_seq]
      refine ⟨by unfold CMul; omega, ?_⟩
      rw [x_seq]
      simp [-x_seq]
      rw [x_seq]
      simp [-x_seq]
      refine loop_law_source CH CC _ _ k _ mu hk (fun x y o => ?_) (List.range 12) _ _ _ (fun j hj => by simpa using hj)
      simp
      intro q hq
      exact nd_get (hP q y hq)
    rw [x_seq, x_if]
    cases sc with
    | nil =>
      simp [drLen, -x_seq]
      exact rest2
    | cons x xs =>
      simp [drLen, drAbs, -x_seq]
      by_cases e : x % 2 = 1
      · rw [if_pos e]
        intro q hq
        exact nd_get (hP q _ hq)
      · rw [if_neg e]
        exact rest2
  by_cases h : k < sc.length
  · have e : atI (sc.map D.int) ((k : Nat) : Int) = some (.int sc[k]) := by
      rw [atI_nat, List.getElem?_map, List.getElem?_eq_getElem h]
      rfl
    simp [drLen, h, e, -x_seq]
    exact rest _
  · simp [drLen, h, -x_seq]
    exact rest _
end DL
set_option maxHeartbeats 2000000
/-! K54b: _law_fresh -/
namespace DL
open PySem PySem.Spec PyProof.Rows L2

abbrev abc : Str := "abcdefghijklmnopqrstuvwxyz"
theorem abc_cps : abc.cps.toList = (List.range 26).map (97 + ·) := by decide +kernel
theorem abc_len : abc.length = 26 := by
  have := congrArg List.length abc_cps
  simpa [Str.length] using this
def letter (i : Nat) : Str := ⟨#[97 + i]⟩
theorem abc_at {i : Nat} (h : i < 26) : atI abc.cps.toList ((i : Nat) : Int) = some (97 + i) := by
  rw [atI_nat, abc_cps, List.getElem?_map, List.getElem?_range h]
  rfl
def lowS (x : Str) : Prop := ∀ c ∈ x.cps.toList, c < 123
theorem lowS.good {x : Str} (h : lowS x) : strGood x := by
  unfold strGood PyData.strOk
  rw [Array.all_eq_true']
  intro c hc
  have := h c (by simpa using hc)
  simp
  omega
theorem low_letter {i : Nat} (h : i < 26) : lowS (letter i) := by
  intro c hc
  simp [letter] at hc
  omega
theorem low_app {x y : Str} (h : lowS x) (k : lowS y) : lowS (x ++ y) := by
  intro c hc
  have : c ∈ (x.cps ++ y.cps).toList := hc
  rw [Array.toList_append] at this
  rcases List.mem_append.mp this with q | q
  · exact h c q
  · exact k c q
theorem len_app (x y : Str) : (x ++ y).length = x.length + y.length := by
  show (x.cps ++ y.cps).size = _
  rw [Array.size_append]
  rfl
theorem low_glued : ∀ ys : List Str, (∀ y ∈ ys, lowS y) → lowS (Str.join (Str.ofString "") ys)
  | [], h => by intro c hc; simp [Str.join, Str.empty] at hc
  | [x], h => by
    have := h x List.mem_cons_self
    simpa [Str.join] using this
  | x :: y :: r, h => by
    have h1 := h x List.mem_cons_self
    have h2 := low_glued (y :: r) fun z hz => h z (List.mem_cons_of_mem _ hz)
    have he : lowS (Str.ofString "") := by
      intro c hc
      rw [Str.ofString_eq_toList] at hc
      simp at hc
    have : Str.join (Str.ofString "") (x :: y :: r) = x ++ Str.ofString "" ++ Str.join (Str.ofString "") (y :: r) := by simp only [Str.join]
    rw [this]
    exact low_app (low_app h1 he) h2
theorem len_glued : ∀ ys : List Str, (∀ y ∈ ys, y.length = 1) → (Str.join (Str.ofString "") ys).length = ys.length
  | [], h => by simp [Str.join, Str.empty, Str.length]
  | [x], h => by
    have := h x List.mem_cons_self
    simpa [Str.join] using this
  | x :: y :: r, h => by
    have h1 := h x List.mem_cons_self
    have h2 := len_glued (y :: r) fun z hz => h z (List.mem_cons_of_mem _ hz)
    have he : (Str.ofString "").length = 0 := by
      rw [Str.ofString_eq_toList]
      rfl
    have : Str.join (Str.ofString "") (x :: y :: r) = x ++ Str.ofString "" ++ Str.join (Str.ofString "") (y :: r) := by simp only [Str.join]
    rw [this, len_app, len_app, h1, he, h2]
    simp only [List.length_cons]
    omega
theorem low_cut {x : Str} (h : lowS x) (lo hi : Option Int) : lowS (cutS x lo hi) := by
  intro c hc
  simp only [cutS, List.toList_toArray] at hc
  exact h c (List.mem_of_mem_drop (List.mem_of_mem_take hc))
theorem len_cut (x : Str) (lo hi : Option Int) : (cutS x lo hi).length ≤ x.length := by
  simp only [cutS, Str.length, List.size_toArray]
  rw [List.length_take, List.length_drop, Array.length_toList]
  omega
def kwds : List Str := ["def", "handler", "on", "end", "let", "if", "call", "hand", "do", "handle", "go", "guard"]
def cand (b : Str) (k : Nat) : Str := b ++ letter (k / 26) ++ letter (k % 26)
theorem cand_inj {b : Str} {i j : Nat} (h : cand b i = cand b j) : i = j := by
  have h1 : ((b.cps ++ #[97 + i / 26]) ++ #[97 + i % 26]) = ((b.cps ++ #[97 + j / 26]) ++ #[97 + j % 26]) := congrArg Str.cps h
  have h2 := congrArg Array.toList h1
  simp at h2
  omega
theorem nodup_sub_length {α : Type} [DecidableEq α] : ∀ {l m : List α}, l.Nodup → (∀ x ∈ l, x ∈ m) → l.length ≤ m.length
  | [], m, _, _ => Nat.zero_le _
  | a :: l, m, nd, h => by
    have nd' := List.nodup_cons.mp nd
    have ha := h a List.mem_cons_self
    have := nodup_sub_length (l := l) (m := m.erase a) nd'.2 fun x hx => by
      have hxa : x ≠ a := fun e => nd'.1 (e ▸ hx)
      exact (List.mem_erase_of_ne hxa).mpr (h x (List.mem_cons_of_mem _ hx))
    rw [List.length_erase_of_mem ha] at this
    have hm : 0 < m.length := List.length_pos_of_mem ha
    simp only [List.length_cons]
    omega
theorem cand_pigeon {b : Str} {names : List Str} {n : Nat} (h : names.length < n) : ¬ ∀ k < n, cand b k ∈ names := by
  intro hk
  have h1 : ((List.range n).map (cand b)).Nodup := by
    have : (List.range n).Nodup := List.nodup_range
    refine List.pairwise_map.mpr (this.imp ?_)
    intro i j hij e
    exact hij (cand_inj e)
  have := nodup_sub_length h1 (m := names) fun x hx => by
    obtain ⟨k, hk', rfl⟩ := List.mem_map.mp hx
    exact hk k (by simpa using hk')
  simp at this
  omega
def R_law_fresh : DR := fun mu ds P => ∃ (s : Addr) (n : Int) (tk : D) (taken : List Str), ds = [.obj s, tk] ∧ lv mu tk = some (taken.map .str) ∧ taken.length ≤ 600 ∧ mget mu s = some (stO n) ∧ (∀ a, tk = .obj a → a ≠ s) ∧ ∀ x n', x ∉ taken → lowS x → P (.str x) (mput mu s (stO n'))
theorem lc_fresh {s : Addr} {mu : Mu} {n0 : Int} (hs : mget mu s = some (stO n0)) (tk nm o5 o6 : Option D) (P : PD) : ∀ (js : List D) (acc : List Str) (n : Int), acc.length + js.length ≤ 100 → (∀ y ∈ acc, lowS y ∧ y.length = 1) →
    (∀ (acc' : List Str) n', (∀ y ∈ acc', lowS y ∧ y.length = 1) → acc'.length = acc.length + js.length → P (.lst (acc'.map .str)) (mput mu s (stO n'))) →
    dLcL 4 dYes (dOp dix (dVar 2) (dCall R_law_take (dCons (dVar 0) (dCons (dC (.int 26)) dNil)))) js (acc.map .str) [some (.obj s), tk, some (.str abc), nm, none, o5, o6] (mput mu s (stO n)) P
  | [], acc, n, hl, ha, h => h acc n ha rfl
  | j :: js, acc, n, hl, ha, h => by
    unfold dLcL
    simp
    refine take_ok (mget_st hs) (by decide) (by decide) fun r n1 h0 h1 => ?_
    obtain ⟨i, rfl⟩ : ∃ i : Nat, r = i := ⟨r.toNat, by omega⟩
    rw [put_put]
    have hi : i < 26 := by omega
    have e : atI abc.cps.toList ((i : Nat) : Int) = some (97 + i) := abc_at hi
    simp only [dix, e, abc_len]
    simp only [List.length_cons] at hl
    refine ⟨by omega, by omega, ?_⟩
    have := lc_fresh hs tk nm o5 o6 P js (acc ++ [letter i]) n1 (by simp; omega) (fun y hy => by
      rcases List.mem_append.mp hy with q | q
      · exact ha y q
      · rw [List.mem_singleton.mp q]
        exact ⟨low_letter hi, rfl⟩) fun acc' n' q1 q2 => h acc' n' q1 (by simp at q2 ⊢; omega)
    simpa [letter] using this
theorem txs_map : ∀ ys : List Str, txs (ys.map .str) = some ys
  | [] => rfl
  | y :: ys => by simp [txs, txs_map ys]
theorem loop_fresh (CH CC : Addr) (Z : DEnds) (s : Addr) (tk : D) (names : List Str) (b : Str) (hb : lowS b) (hbl : b.length ≤ 8) (mu : Mu) (taken : List Str) (hn : names = kwds ++ taken) (hl : names.length < 675)
    (hbk : ∀ x o, x ∉ taken → lowS x → Z.nx [some (.obj s), some tk, some (.str abc), some (.lst (names.map .str)), o, some (.str x), some (.str b)] mu) :
    ∀ (m k : Nat) (x : Str) (o : Option D), m + k = 676 → lowS x → (∀ j, j + 1 < k → cand b j ∈ names) → (0 < k → x = cand b (k - 1)) →
    dFor 4 (b_law_fresh_L1 CH CC R_law_take) (((List.range 676).drop k).map fun j => .int ((j : Nat) : Int)) Z [some (.obj s), some tk, some (.str abc), some (.lst (names.map .str)), o, some (.str x), some (.str b)] mu
  | 0, k, x, o, hm, hx, hc, hk => by
    exfalso
    have : k = 676 := by omega
    subst this
    exact cand_pigeon (b := b) hl fun j hj => hc j (by omega)
  | m + 1, k, x, o, hm, hx, hc, hk => by
    have hlt : k < (List.range 676).length := by simp; omega
    rw [List.drop_eq_getElem_cons hlt, List.map_cons, x_for1]
    unfold b_law_fresh_L1
    have e1 : (List.range 676)[k] = k := by simp
    rw [e1]
    rw [x_seq, x_if]
    simp [dinS, txs_map, -x_seq, -List.map_drop]
    by_cases hin : x ∈ names
    · rw [if_pos (by simpa using hin)]
      obtain ⟨q, eq⟩ : ∃ q, q = k / 26 := ⟨_, rfl⟩
      obtain ⟨r, er⟩ : ∃ r, r = k % 26 := ⟨_, rfl⟩
      have hcd : cand b k = b ++ letter q ++ letter r := by rw [eq, er]; rfl
      have hq : q < 26 := by omega
      have hr : r < 26 := by omega
      have c1 : CDivW ((k : Nat) : Int) 26 := divOk (by decide) (by decide)
      have e2 : ((k : Nat) : Int) / 26 = ((q : Nat) : Int) := by omega
      have e3 : ((k : Nat) : Int) % 26 = ((r : Nat) : Int) := by omega
      have a1 := abc_at hq
      have a2 := abc_at hr
      simp [c1, dix, e2, e3, a1, a2, abc_len, dcatS, -List.map_drop]
      have l1 : (b ++ letter q).length = b.length + 1 := by rw [len_app]; rfl
      refine ⟨by show b.length + 1 ≤ _; omega, by show (b ++ letter q).length + 1 ≤ _; omega, ?_⟩
      refine loop_fresh CH CC Z s tk names b hb hbl mu taken hn hl hbk m (k + 1) (b ++ letter q ++ letter r) _ (by omega) (low_app (low_app hb (low_letter hq)) (low_letter hr)) (fun j hj => ?_) (fun _ => hcd.symm)
      by_cases hjk : j + 1 < k
      · exact hc j hjk
      · have : j = k - 1 := by omega
        subst this
        rw [← hk (by omega)]
        exact hin
    · rw [if_neg (by simpa using hin)]
      exact hbk x _ (fun q => hin (by rw [hn]; exact List.mem_append_right _ q)) hx
theorem body_law_fresh (CH CC : Addr) : ∀ mu es P, R_law_fresh mu es P → b_law_fresh CH CC R_law_take (endsG mu P) (startD N_law_fresh es) mu := by
  rintro mu es P ⟨s, n, tk, taken, rfl, ht, hl, hs, hne, hP⟩
  unfold b_law_fresh
  rw [x_seq]
  simp [-x_seq]
  rw [x_seq]
  simp [dcatL, ht, -x_seq]
  refine ⟨by omega, ?_⟩
  have hnm : ([D.str "def", .str "handler", .str "on", .str "end", .str "let", .str "if", .str "call", .str "hand", .str "do", .str "handle", .str "go", .str "guard"] ++ taken.map .str) = (kwds ++ taken).map .str := by
    rw [List.map_append]
    rfl
  rw [show (D.str "def" :: D.str "handler" :: D.str "on" :: D.str "end" :: D.str "let" :: D.str "if" :: D.str "call" :: D.str "hand" :: D.str "do" :: D.str "handle" :: D.str "go" :: D.str "guard" :: taken.map .str) = (kwds ++ taken).map .str from hnm]
  rw [x_seq]
  simp [-x_seq]
  refine take_ok hs (by decide) (by decide) fun r n1 h0 h1 => ?_
  refine ⟨⟨by omega, by omega⟩, ?_⟩
  have hne' : ∀ n', lv (mput mu s (stO n')) tk = some (taken.map .str) := fun n' => by
    rw [← ht]
    unfold lv
    cases tk <;> try rfl
    rename_i a
    simp only [get_put_ne (hne a rfl)]
  refine lc_fresh hs _ _ _ _ _ _ [] n1 (by simp; omega) (by simp) fun acc n2 ha hla => ?_
  simp [txs_map, -x_seq]
  have hln := len_glued acc fun y hy => (ha y hy).2
  have hlow := low_glued acc fun y hy => (ha y hy).1
  have hjoin : Txt.join (Str.ofString "") acc = Str.join (Str.ofString "") acc := StrLaws.glued_eq_join _ _
  rw [← hjoin] at hlow
  simp at hla
  have hsum : ((acc.map (·.length)).sum) = acc.length := by
    clear hln hlow hla
    induction acc with
    | nil => rfl
    | cons y ys ih =>
      rw [List.map_cons, List.sum_cons, (ha y List.mem_cons_self).2, ih (fun z hz => ha z (List.mem_cons_of_mem _ hz)) (StrLaws.glued_eq_join _ _), List.length_cons]
      omega
  have he : (Str.ofString "").length = 0 := by
    rw [Str.ofString_eq_toList]
    rfl
  refine ⟨by rw [hsum, he]; omega, ?_⟩
  rw [x_seq]
  simp [-x_seq]
  have hjl : (Txt.join (Str.ofString "") acc).length ≤ 8 := by
    rw [hjoin]
    omega
  refine ⟨by omega, ?_⟩
  rw [x_seq]
  simp [-x_seq]
  refine loop_fresh CH CC _ s tk (kwds ++ taken) _ (low_cut hlow _ _) (Nat.le_trans (len_cut _ _ _) hjl) _ taken rfl (by simp [kwds]; omega) (fun x o hx hlx => ?_) 676 0 _ _ rfl hlow (fun j hj => by omega) (fun h => by omega)
  simp
  exact nd_get (hP x n2 hx hlx)
end DL
set_option maxHeartbeats 2000000
/-! K54c: the world, _law_call_by -/
namespace DL
open PySem PySem.Spec PyProof.Rows L2

structure WD where
  words : List Str
  deeds : List Str
  heads : List Head
  few : Int
  deep : Int
  calm : Bool
abbrev wkeys : List Str := ["words", "deeds", "heads", "left", "few", "deep", "calm"]
def worldO (W : WD) (l : Int) : DO := .dic wkeys [.lst (W.words.map .str), .lst (W.deeds.map .str), .lst (W.heads.map headD), .int l, .int W.few, .int W.deep, .bl W.calm]
structure WOk (W : WD) : Prop where
  words : W.words.length = 8
  deeds : W.deeds.length = 8
  good : ∀ d ∈ W.deeds, strGood d
  first : ∃ n ps r, W.heads = .fn n ps none :: r
  len : W.heads.length ≤ 100
  few : 0 < W.few ∧ W.few ≤ 8
  pars : ∀ n ps b, Head.fn n ps b ∈ W.heads → ps.length ≤ 8
def setG (s w : Addr) (W : WD) (n l : Int) (mu : Mu) : Mu := mput (mput mu s (stO n)) w (worldO W l)
structure GIn (s w : Addr) (mu : Mu) : Prop where
  hs : s ∈ dom mu
  hw : w ∈ dom mu
  ne : s ≠ w
section
variable {s w : Addr} {W : WD} {n l n' l' : Int} {mu : Mu}
theorem getG_s (i : GIn s w mu) : mget (setG s w W n l mu) s = some (stO n) := by
  unfold setG
  rw [get_put_ne i.ne]
  obtain ⟨o, h⟩ := dom_mget i.hs
  exact get_put_same h
theorem getG_w (i : GIn s w mu) : mget (setG s w W n l mu) w = some (worldO W l) := by
  unfold setG
  obtain ⟨o, h⟩ := dom_mget (mu := mput mu s (stO n)) (a := w) (by rw [dom_mput]; exact i.hw)
  exact get_put_same h
theorem putG_s (i : GIn s w mu) : mput (setG s w W n l mu) s (stO n') = setG s w W n' l mu := by
  unfold setG
  rw [mput_comm (Ne.symm i.ne), put_put]
theorem putG_w : mput (setG s w W n l mu) w (worldO W l') = setG s w W n l' mu := by
  unfold setG
  rw [put_put]
theorem domG : dom (setG s w W n l mu) = dom mu := by
  unfold setG
  rw [dom_mput, dom_mput]
theorem setG_cons {p : Addr} {o : DO} (h1 : p ≠ s) (h2 : p ≠ w) : setG s w W n l ((p, o) :: mu) = (p, o) :: setG s w W n l mu := by
  unfold setG
  rw [mput_next h1, mput_next h2]
theorem GIn.cons {p : Addr} {o : DO} (i : GIn s w mu) : GIn s w ((p, o) :: mu) := ⟨List.mem_cons_of_mem _ i.hs, List.mem_cons_of_mem _ i.hw, i.ne⟩
theorem putG_left : mput (setG s w W n l mu) w (.dic (nput "left" wkeys) (vput "left" (.int l') wkeys [.lst (W.words.map .str), .lst (W.deeds.map .str), .lst (W.heads.map headD), .int l, .int W.few, .int W.deep, .bl W.calm])) = setG s w W n l' mu := by
  have e : DO.dic (nput "left" wkeys) (vput "left" (.int l') wkeys [.lst (W.words.map .str), .lst (W.deeds.map .str), .lst (W.heads.map headD), .int l, .int W.few, .int W.deep, .bl W.calm]) = worldO W l' := by simp [nput, vput, worldO]
  rw [e, putG_w]
end
def hereD (g hd : Bool) (bl : Option Str) : D := .tup [.bl g, .bl hd, optS bl]
def Free (W : WD) (bl : Option Str) : Prop := ∀ b, bl = some b → ∀ h ∈ W.heads, h.name ≠ b
/-- what a tree's maker promises: fuel j -/
def R_tree (j : Nat) : DR := fun mu ds P => ∃ s w W n l mu0 d vs g hd bl, mu = setG s w W n l mu0 ∧ GIn s w mu0 ∧ WOk W ∧ ds = [.obj s, .int ((d : Nat) : Int), .lst (vs.map .str), hereD g hd bl, .obj w] ∧ d < j ∧ vs.length + d ≤ 1000 ∧ Free W bl ∧
  ∀ t n' l', WT W.heads g hd vs bl t → l' = l - inn t → (0 ≤ l → 0 ≤ l') → P (treeD t) (setG s w W n' l' mu0)
/-- .. a call: what it makes costs one more, paid by the caller -/
def R_callby (j : Nat) : DR := fun mu ds P => ∃ s w W n l mu0 d vs g hd bl, mu = setG s w W n l mu0 ∧ GIn s w mu0 ∧ WOk W ∧ ds = [.obj s, .int ((d : Nat) : Int), .lst (vs.map .str), hereD g hd bl, .obj w] ∧ d < j ∧ vs.length + d ≤ 1000 ∧ Free W bl ∧
  ∀ t n' l', WT W.heads g hd vs bl t → l' = l + 1 - inn t → (0 ≤ l → 0 ≤ l') → P (treeD t) (setG s w W n' l' mu0)

def isFn : Head → Bool
  | .fn _ _ _ => true
  | .hand _ => false
def handOf : Head → Option Str
  | .hand n => some n
  | .fn _ _ _ => none
theorem headD_at0 (h : Head) (mu : Mu) (P : PD) : dix (headD h) (.int 0) mu P = P (.str (if isFn h then "def" else "handler")) mu := by
  cases h <;> simp [headD, isFn]
theorem headD_at1 (h : Head) (mu : Mu) (P : PD) : dix (headD h) (.int 1) mu P = P (.str h.name) mu := by
  cases h <;> simp [headD, Head.name]
/-- [h for h in heads if h[0] == 'def'] -/
theorem lc_fns {i : Nat} {rho : Rho} {mu : Mu} (hi : i < rho.length) : ∀ (hs : List Head) (acc : List D) (P : PD), acc.length + hs.length ≤ 1000 → P (.lst (acc ++ (hs.filter isFn).map headD)) mu →
    dLcL i (dTest (dOp (deq) (dOp dix (dVar i) (dC (.int 0))) (dC (.str "def")))) (dVar i) (hs.map headD) acc rho mu P
  | [], acc, P, hl, h => by simpa [dLcL] using h
  | x :: hs, acc, P, hl, h => by
    rw [List.map_cons, dLcL]
    simp only [x_test, x_op, x_var, x_c, List.getElem?_set_self hi, headD_at0, deq_str]
    simp only [List.length_cons] at hl
    cases x with
    | fn n ps b =>
      simp [isFn]
      refine ⟨by omega, lc_fns hi hs _ P (by simp; omega) ?_⟩
      simpa [isFn, List.filter_cons] using h
    | hand n =>
      simp [isFn]
      refine lc_fns hi hs _ P (by omega) ?_
      simpa [isFn, List.filter_cons] using h
/-- [h[1] for h in heads if h[0] == 'handler'] -/
theorem lc_stood {i : Nat} {rho : Rho} {mu : Mu} (hi : i < rho.length) : ∀ (hs : List Head) (acc : List D) (P : PD), acc.length + hs.length ≤ 1000 → P (.lst (acc ++ (hs.filterMap handOf).map .str)) mu →
    dLcL i (dTest (dOp (deq) (dOp dix (dVar i) (dC (.int 0))) (dC (.str "handler")))) (dOp dix (dVar i) (dC (.int 1))) (hs.map headD) acc rho mu P
  | [], acc, P, hl, h => by simpa [dLcL] using h
  | x :: hs, acc, P, hl, h => by
    rw [List.map_cons, dLcL]
    simp only [x_test, x_op, x_var, x_c, List.getElem?_set_self hi, headD_at0, headD_at1, deq_str]
    simp only [List.length_cons] at hl
    cases x with
    | hand n =>
      simp [isFn]
      refine ⟨by omega, lc_stood hi hs _ P (by simp; omega) ?_⟩
      simpa [handOf, Head.name, List.filterMap_cons] using h
    | fn n ps b =>
      simp [isFn]
      refine lc_stood hi hs _ P (by omega) ?_
      simpa [handOf, List.filterMap_cons] using h
def plainOf : Head → Option Str
  | .fn n [_] none => some n
  | _ => none
/-- [h[1] for h in fns if len(h[2]) == 1 and h[3] is None] -/
theorem lc_plain {i : Nat} {rho : Rho} {mu : Mu} (hi : i < rho.length) : ∀ (hs : List Head) (acc : List D) (P : PD), (∀ h ∈ hs, isFn h = true) → acc.length + hs.length ≤ 1000 → P (.lst (acc ++ (hs.filterMap plainOf).map .str)) mu →
    dLcL i (dAnd (dTest (dOp (deq) (dCB drLen (dCons (dOp dix (dVar i) (dC (.int 2))) dNil)) (dC (.int 1)))) (dTest (dOp (disN) (dOp dix (dVar i) (dC (.int 3))) (dC .non)))) (dOp dix (dVar i) (dC (.int 1))) (hs.map headD) acc rho mu P
  | [], acc, P, hf, hl, h => by simpa [dLcL] using h
  | x :: hs, acc, P, hf, hl, h => by
    rw [List.map_cons, dLcL]
    simp only [x_and, x_test, x_op, x_var, x_c, x_cb, x_cons, x_nil, List.getElem?_set_self hi, headD_at1]
    simp only [List.length_cons] at hl
    have ih := lc_plain (mu := mu) hi hs
    have hf' : ∀ h ∈ hs, isFn h = true := fun y hy => hf y (List.mem_cons_of_mem _ hy)
    cases x with
    | hand n => exact absurd (hf _ List.mem_cons_self) (by simp [isFn])
    | fn n ps b =>
      simp [headD, drLen]
      by_cases hp : ps.length = 1
      · obtain ⟨x, rfl⟩ := List.length_eq_one_iff.mp hp
        cases b with
        | none =>
          simp
          refine ⟨by omega, ih _ P hf' (by simp; omega) ?_⟩
          simpa [plainOf, Head.name, List.filterMap_cons] using h
        | some y =>
          simp
          exact ih _ P hf' (by omega) (by simpa [plainOf, List.filterMap_cons] using h)
      · have hp' : ¬ ((ps.length : Int) = 1) := by omega
        simp [hp']
        refine ih _ P hf' (by omega) ?_
        have : plainOf (.fn n ps b) = none := by
          unfold plainOf
          split
          · rename_i e; cases e; exact absurd rfl hp
          · rfl
        simpa [this, List.filterMap_cons] using h
/-- (tree(..) for each param) -/
theorem lc_args {j : Nat} {s w : Addr} {W : WD} {mu0 : Mu} {d : Nat} {vs : List Str} {g hd : Bool} {bl : Option Str} {rho : Rho} (i : GIn s w mu0) (wo : WOk W) (hj : d < j) (hv : vs.length + d ≤ 1000) (fr : Free W bl)
    (h11 : 11 < rho.length) (r0 : rho[0]? = some (some (.obj s))) (r1 : rho[1]? = some (some (.int ((d : Nat) : Int)))) (r2 : rho[2]? = some (some (.lst (vs.map .str)))) (r3 : rho[3]? = some (some (hereD g hd bl))) (r4 : rho[4]? = some (some (.obj w))) :
    ∀ (ps : List D) (acc : List Tree) (n l : Int) (P : PD), acc.length + ps.length ≤ 1000 → WTs W.heads g hd vs bl acc →
      (∀ ts n' l', WTs W.heads g hd vs bl ts → ts.length = acc.length + ps.length → l' + inns ts = l + inns acc → (0 ≤ l → 0 ≤ l') → P (.lst (treesD ts)) (setG s w W n' l' mu0)) →
      dLcL 11 dYes (dCall (R_tree j) (dCons (dVar 0) (dCons (dVar 1) (dCons (dVar 2) (dCons (dVar 3) (dCons (dVar 4) dNil)))))) ps (treesD acc) rho (setG s w W n l mu0) P
  | [], acc, n, l, P, hl, ha, h => by
    simp only [dLcL]
    exact h acc n l ha (by simp) rfl (fun q => q)
  | p :: ps, acc, n, l, P, hl, ha, h => by
    unfold dLcL
    simp only [x_yes, if_true, x_call, x_cons, x_nil, x_var]
    have e0 : (rho.set 11 (some p))[0]? = rho[0]? := List.getElem?_set_ne (by decide)
    have e1 : (rho.set 11 (some p))[1]? = rho[1]? := List.getElem?_set_ne (by decide)
    have e2 : (rho.set 11 (some p))[2]? = rho[2]? := List.getElem?_set_ne (by decide)
    have e3 : (rho.set 11 (some p))[3]? = rho[3]? := List.getElem?_set_ne (by decide)
    have e4 : (rho.set 11 (some p))[4]? = rho[4]? := List.getElem?_set_ne (by decide)
    simp only [e0, e1, e2, e3, e4, r0, r1, r2, r3, r4]
    simp only [List.length_cons] at hl
    refine ⟨s, w, W, n, l, mu0, d, vs, g, hd, bl, rfl, i, wo, rfl, hj, hv, fr, fun t n1 l1 ht h1 h2 => ⟨by rw [treesD_len]; omega, ?_⟩⟩
    have wapp : ∀ (as : List Tree), WTs W.heads g hd vs bl as → WTs W.heads g hd vs bl (as ++ [t]) := by
      intro as
      induction as with
      | nil => intro _; simp only [List.nil_append, WTs]; exact ⟨ht, True.intro⟩
      | cons a as ih => intro q; simp only [WTs] at q; simp only [List.cons_append, WTs]; exact ⟨q.1, ih q.2⟩
    have iapp : ∀ (as : List Tree), inns (as ++ [t]) = inns as + inn t := by
      intro as
      induction as with
      | nil => simp [inns]
      | cons a as ih => simp only [List.cons_append, inns, ih]; omega
    have := lc_args i wo hj hv fr h11 r0 r1 r2 r3 r4 ps (acc ++ [t]) n1 l1 P (by simp; omega) (wapp acc ha) fun ts n' l' q1 q2 q3 q4 => h ts n' l' q1 (by simp at q2 ⊢; omega) (by rw [iapp] at q3; omega) (fun q => q4 (h2 q))
    rw [treesD_map, List.map_append, ← treesD_map] at this
    exact this
end DL
set_option maxHeartbeats 4000000
/-! K54d: _law_call_by -/
namespace DL
open PySem PySem.Spec PyProof.Rows L2

theorem atI_in {α : Type} {l : List α} {r : Int} (h0 : 0 ≤ r) (h1 : r < l.length) : ∃ x, x ∈ l ∧ atI l r = some x := by
  obtain ⟨i, rfl⟩ : ∃ i : Nat, r = i := ⟨r.toNat, by omega⟩
  have hi : i < l.length := by omega
  exact ⟨l[i], List.getElem_mem hi, by rw [atI_nat, List.getElem?_eq_getElem hi]⟩
theorem atI_map {α : Type} {f : α → D} {l : List α} {r : Int} (h0 : 0 ≤ r) (h1 : r < l.length) : ∃ x, x ∈ l ∧ atI (l.map f) r = some (f x) := by
  obtain ⟨i, rfl⟩ : ∃ i : Nat, r = i := ⟨r.toNat, by omega⟩
  have hi : i < l.length := by omega
  exact ⟨l[i], List.getElem_mem hi, by rw [atI_nat, List.getElem?_map, List.getElem?_eq_getElem hi]; rfl⟩
theorem plain_mem {hs : List Head} {y : Str} (h : y ∈ hs.filterMap plainOf) : PlainH hs y := by
  obtain ⟨x, hx, e⟩ := List.mem_filterMap.mp h
  unfold plainOf at e
  split at e
  · rename_i n x' 
    cases e
    exact ⟨_, hx⟩
  · cases e
theorem flkW_heads (a b c d e f g : D) : flk "heads" wkeys [a, b, c, d, e, f, g] = some c := by simp [flk]
theorem flkW_words (a b c d e f g : D) : flk "words" wkeys [a, b, c, d, e, f, g] = some a := by simp [flk]
theorem flkW_deeds (a b c d e f g : D) : flk "deeds" wkeys [a, b, c, d, e, f, g] = some b := by simp [flk]
theorem flkW_left (a b c d e f g : D) : flk "left" wkeys [a, b, c, d, e, f, g] = some d := by simp [flk]
theorem flkW_few (a b c d e f g : D) : flk "few" wkeys [a, b, c, d, e, f, g] = some e := by simp [flk]
theorem flkW_deep (a b c d e f g : D) : flk "deep" wkeys [a, b, c, d, e, f, g] = some f := by simp [flk]
theorem flkW_calm (a b c d e f g : D) : flk "calm" wkeys [a, b, c, d, e, f, g] = some g := by simp [flk]
section
variable {j : Nat} {s w : Addr} {W : WD} {mu0 : Mu} {d : Nat} {vs : List Str} {g hd : Bool} {bl : Option Str} {P : PD} {Z : DEnds}
abbrev rhoC (s w : Addr) (d : Nat) (vs : List Str) (g hd : Bool) (bl : Option Str) (r : List (Option D)) : Rho := some (.obj s) :: some (.int ((d : Nat) : Int)) :: some (.lst (vs.map .str)) :: some (hereD g hd bl) :: some (.obj w) :: some (optS bl) :: r
/-- the call itself -/
theorem tail9 (CH CC : Addr) (i : GIn s w mu0) (wo : WOk W) (hj : d < j) (hv : vs.length + d ≤ 1000) (fr : Free W bl) (l n3 : Int) (hP : ∀ t n' l', WT W.heads g hd vs bl t → l' = l + 1 - inn t → (0 ≤ l → 0 ≤ l') → Z.rt (treeD t) (setG s w W n' l' mu0))
    (f : Str) (ps : List Str) (b : Option Str) (h : Option Str) (o7 o8 o9 o11 : Option D) (hm : Head.fn f ps b ∈ W.heads) (hb1 : b = none → h = none) (hb2 : b ≠ none → ∃ y, h = some y ∧ (bl = some y ∨ PlainH W.heads y)) :
    b_law_call_by_t9 CH CC R_law_take (R_tree j) Z (rhoC s w d vs g hd bl [some (headD (.fn f ps b)), o7, o8, o9, some (optS h), o11]) (setG s w W n3 l mu0) := by
  unfold b_law_call_by_t9
  simp [headD, drTuple]
  have hpl8 := wo.pars _ _ _ hm
  refine lc_args i wo hj hv fr (by simp) rfl rfl rfl rfl rfl (ps.map .str) [] n3 l _ (by simp; omega) (by simp only [WTs]) fun ts n4 l4 hw hlt hin hge => ?_
  simp
  have := hP (.call f h ts) n4 l4 (by
    simp only [WT]
    refine ⟨.inr ⟨?_, ps, b, hm, by simpa using hlt, by simp at hlt; omega, hb1, hb2⟩, hw⟩
    intro e
    exact fr f e _ hm rfl) (by simp only [inn]; simp only [inns] at hin; omega) hge
  simpa [treeD] using this
/-- the handed function -/
theorem tail7 (CH CC : Addr) (i : GIn s w mu0) (wo : WOk W) (hj : d < j) (hv : vs.length + d ≤ 1000) (fr : Free W bl) (l n2 : Int) (hP : ∀ t n' l', WT W.heads g hd vs bl t → l' = l + 1 - inn t → (0 ≤ l → 0 ≤ l') → Z.rt (treeD t) (setG s w W n' l' mu0))
    (f : Str) (ps : List Str) (b : Option Str) (p : Addr) (pl : List Str) (o7 o8 o10 o11 : Option D) (hm : Head.fn f ps b ∈ W.heads) (hp : mget mu0 p = some (.lst (pl.map .str))) (hps : p ≠ s) (hpw : p ≠ w) (hl : pl.length ≤ 200) (hpl : ∀ y ∈ pl, bl = some y ∨ PlainH W.heads y) (hne : b ≠ none → pl ≠ []) :
    b_law_call_by_t7 CH CC R_law_take (R_tree j) Z (rhoC s w d vs g hd bl [some (headD (.fn f ps b)), o7, o8, some (.obj p), o10, o11]) (setG s w W n2 l mu0) := by
  have hgp : ∀ n, mget (setG s w W n l mu0) p = some (.lst (pl.map .str)) := fun n => by
    unfold setG
    rw [get_put_ne hpw, get_put_ne hps]
    exact hp
  unfold b_law_call_by_t7
  rw [x_seq]
  simp
  unfold b_law_call_by_t8
  rw [x_seq, x_if]
  cases b with
  | none =>
    simp [headD]
    have := tail9 (Z := Z) CH CC i wo hj hv fr l n2 hP f ps none none o7 o8 (some (.obj p)) o11 hm (fun _ => rfl) (fun q => absurd rfl q)
    simpa [headD] using this
  | some b =>
    have hp0 : 0 < pl.length := List.length_pos_iff.mpr (hne (by intro z; cases z))
    simp [headD, drLen, sqv_cell (hgp n2)]
    refine take_ok (getG_s i) (by omega) (by omega) fun r n3 h0 h1 => ?_
    rw [putG_s i]
    obtain ⟨y, hym, ey⟩ := atI_map (f := D.str) h0 h1
    simp [sqv_cell (hgp n3), ey]
    have := tail9 (Z := Z) CH CC i wo hj hv fr l n3 hP f ps (some b) (some y) o7 o8 (some (.obj p)) o11 hm (fun q => by cases q) (fun _ => ⟨y, rfl, hpl y hym⟩)
    simpa [headD] using this
theorem tail6 (CH CC : Addr) (i : GIn s w mu0) (wo : WOk W) (hj : d < j) (hv : vs.length + d ≤ 1000) (fr : Free W bl) (l n2 : Int) (hP : ∀ t n' l', WT W.heads g hd vs bl t → l' = l + 1 - inn t → (0 ≤ l → 0 ≤ l') → Z.rt (treeD t) (setG s w W n' l' mu0))
    (hx : Head) (fns : List Head) (p : Addr) (pl : List Str) (o8 o10 o11 : Option D) (hm : hx ∈ fns) (hfn : ∀ h ∈ fns, isFn h = true) (hsub : ∀ h ∈ fns, h ∈ W.heads) (hf0 : ∃ n0 ps0 r, fns = .fn n0 ps0 none :: r) (hp : mget mu0 p = some (.lst (pl.map .str))) (hps : p ≠ s) (hpw : p ≠ w) (hl : pl.length ≤ 200) (hpl : ∀ y ∈ pl, bl = some y ∨ PlainH W.heads y) :
    b_law_call_by_t6 CH CC R_law_take (R_tree j) Z (rhoC s w d vs g hd bl [some (headD hx), some (.lst (fns.map headD)), o8, some (.obj p), o10, o11]) (setG s w W n2 l mu0) := by
  have hgp : ∀ n, mget (setG s w W n l mu0) p = some (.lst (pl.map .str)) := fun n => by
    unfold setG
    rw [get_put_ne hpw, get_put_ne hps]
    exact hp
  unfold b_law_call_by_t6
  rw [x_seq, x_if]
  cases hx with
  | hand nm => exact absurd (hfn _ hm) (by simp [isFn])
  | fn f ps b =>
    cases b with
    | none =>
      have := tail7 (Z := Z) CH CC i wo hj hv fr l n2 hP f ps none p pl (some (.lst (fns.map headD))) o8 o10 o11 (hsub _ hm) hp hps hpw hl hpl (fun q => absurd rfl q)
      simp [headD] at this ⊢
      exact this
    | some b =>
      by_cases he : pl = []
      · obtain ⟨n0, ps0, r0, hf0⟩ := hf0
        have hm0 : Head.fn n0 ps0 none ∈ fns := by rw [hf0]; exact List.mem_cons_self
        have := tail7 (Z := Z) CH CC i wo hj hv fr l n2 hP n0 ps0 none p pl (some (.lst (fns.map headD))) o8 o10 o11 (hsub _ hm0) hp hps hpw hl hpl (fun q => absurd rfl q)
        have e0 : atI (fns.map headD) 0 = some (headD (.fn n0 ps0 none)) := by rw [hf0]; simp
        have hgp' := lv_cell (hgp n2)
        rw [he] at hgp'
        simp [headD, deqNil, hgp', e0] at this ⊢
        exact this
      · have := tail7 (Z := Z) CH CC i wo hj hv fr l n2 hP f ps (some b) p pl (some (.lst (fns.map headD))) o8 o10 o11 (hsub _ hm) hp hps hpw hl hpl (fun q => he)
        simp [headD, deqNil, lv_cell (hgp n2), he] at this ⊢
        exact this
end
theorem tail2 (CH CC : Addr) (j : Nat) {s w : Addr} {W : WD} {mu0 : Mu} {d : Nat} {vs : List Str} {g hd : Bool} {bl : Option Str} {P : PD} (i : GIn s w mu0) (wo : WOk W) (hj : d < j) (hv : vs.length + d ≤ 1000) (fr : Free W bl) (l n1 : Int) (mu1 : Mu) (hP : ∀ t n' l', WT W.heads g hd vs bl t → l' = l + 1 - inn t → (0 ≤ l → 0 ≤ l') → P (treeD t) (setG s w W n' l' mu0)) :
    b_law_call_by_t2 CH CC R_law_take (R_tree j) (endsG mu1 P) (rhoC s w d vs g hd bl [none, none, none, none, none, none]) (setG s w W n1 l mu0) := by
  obtain ⟨n0, ps0, r0, hh0⟩ := wo.first
  unfold b_law_call_by_t2
  rw [x_seq]
  simp [getG_w i, worldO, flkW_heads]
  refine lc_fns (by simp) W.heads [] _ (by have := wo.len; simp; omega) ?_
  obtain ⟨fns, hfns⟩ : ∃ fns, fns = W.heads.filter isFn := ⟨_, rfl⟩
  have hfn : ∀ h ∈ fns, isFn h = true := by rw [hfns]; intro h hh; exact (List.mem_filter.mp hh).2
  have hsub : ∀ h ∈ fns, h ∈ W.heads := by rw [hfns]; intro h hh; exact (List.mem_filter.mp hh).1
  have hf0 : ∃ n0 ps0 r, fns = .fn n0 ps0 none :: r := by rw [hfns, hh0]; exact ⟨n0, ps0, r0.filter isFn, by simp [isFn, List.filter_cons]⟩
  have hlen : fns.length ≤ 100 := by rw [hfns]; exact Nat.le_trans (List.length_filter_le _ _) wo.len
  rw [← hfns, List.nil_append]
  have hpos : 0 < fns.length := by obtain ⟨_, _, _, e⟩ := hf0; rw [e]; simp
  unfold b_law_call_by_t3
  rw [x_seq]
  simp [drLen]
  refine take_ok (getG_s i) (by omega) (by omega) fun r n2 h0 h1 => ?_
  rw [putG_s i]
  obtain ⟨hd1, hm1, e1⟩ := atI_map (f := headD) h0 h1
  simp [e1]
  unfold b_law_call_by_t4
  rw [x_seq]
  simp
  refine lc_plain (by simp) fns [] _ hfn (by simp; omega) ?_
  simp only [List.nil_append]
  intro p hp
  rw [domG] at hp
  have hps : p ≠ s := fun e => hp (e ▸ i.hs)
  have hpw : p ≠ w := fun e => hp (e ▸ i.hw)
  have hpl1 : ∀ y ∈ fns.filterMap plainOf, PlainH W.heads y := fun y hy => by
    obtain ⟨x, hx⟩ := plain_mem hy
    exact ⟨x, hsub _ hx⟩
  have hll1 : (fns.filterMap plainOf).length ≤ 100 := Nat.le_trans (List.length_filterMap_le _ _) hlen
  have fin : ∀ pl : List Str, (∀ y ∈ pl, bl = some y ∨ PlainH W.heads y) → pl.length ≤ 200 → b_law_call_by_t6 CH CC R_law_take (R_tree j) (endsG mu1 P) (rhoC s w d vs g hd bl [some (headD hd1), some (.lst (fns.map headD)), none, some (.obj p), none, none]) ((p, .lst (pl.map .str)) :: setG s w W n2 l mu0) := by
    intro pl h1 h2
    rw [← setG_cons hps hpw]
    refine tail6 CH CC i.cons wo hj hv fr l n2 (fun t n' l' q1 q2 q3 => ?_) hd1 fns p pl none none none hm1 hfn hsub hf0 mget_top hps hpw h2 h1
    rw [setG_cons hps hpw]
    exact ⟨_, (Sub.refl _).tail, hP t n' l' q1 q2 q3⟩
  unfold b_law_call_by_t5
  rw [x_seq, x_if]
  cases bl with
  | none =>
    simp
    exact fin _ (fun y hy => .inr (hpl1 y hy)) (by omega)
  | some b =>
    simp [mget_top, mput_top]
    refine ⟨by omega, ?_⟩
    have := fin (fns.filterMap plainOf ++ [b]) (fun y hy => by
      rcases List.mem_append.mp hy with q | q
      · exact .inr (hpl1 y q)
      · rw [List.mem_singleton.mp q]
        exact .inl rfl) (by simp; omega)
    rw [List.map_append] at this
    exact this
theorem body_law_call_by (CH CC : Addr) (j : Nat) : ∀ mu es P, R_callby j mu es P → b_law_call_by CH CC R_law_take (R_tree j) (endsG mu P) (startD N_law_call_by es) mu := by
  rintro mu es P ⟨s, w, W, n, l, mu0, d, vs, g, hd, bl, rfl, i, wo, rfl, hj, hv, fr, hP⟩
  unfold b_law_call_by
  rw [x_seq]
  simp [hereD]
  unfold b_law_call_by_t1
  rw [x_seq, x_if]
  have rest := fun n1 => tail2 (P := P) CH CC j i wo hj hv fr l n1 (setG s w W n l mu0) hP
  cases bl with
  | none =>
    have := rest n
    simp [hereD] at this ⊢
    exact this
  | some b =>
    simp
    refine take_ok (getG_s i) (by decide) (by decide) fun r n1 h0 h1 => ?_
    rw [putG_s i]
    simp
    by_cases e : r = 0
    · rw [if_pos e]
      refine ⟨s, w, W, n1, l, mu0, d, vs, g, hd, some b, rfl, i, wo, rfl, hj, hv, fr, fun t n2 l2 ht h2 h3 => ?_⟩
      refine nd_get ?_
      have := hP (.call b none [t]) n2 l2 (by
        simp only [WT, WTs]
        exact ⟨.inl ⟨trivial, trivial, rfl⟩, ht, True.intro⟩) (by simp only [inn, inns]; omega) h3
      simpa [treeD, treesD] using this
    · rw [if_neg e]
      exact rest n1
end DL
set_option maxHeartbeats 4000000
/-! K54e: _law_tree -/
namespace DL
open PySem PySem.Spec PyProof.Rows L2

section
variable {j : Nat} {s w : Addr} {W : WD} {mu0 : Mu} {d : Nat} {vs : List Str} {g hd : Bool} {bl : Option Str} {Z : DEnds} {n l : Int}
theorem tree_ok {Q : PD} (i : GIn s w mu0) (wo : WOk W) (hj : d < j) (hv : vs.length + d ≤ 1000) (fr : Free W bl) (k : ∀ t n' l', WT W.heads g hd vs bl t → l' = l - inn t → (0 ≤ l → 0 ≤ l') → Q (treeD t) (setG s w W n' l' mu0)) :
    R_tree j (setG s w W n l mu0) [.obj s, .int ((d : Nat) : Int), .lst (vs.map .str), hereD g hd bl, .obj w] Q := ⟨s, w, W, n, l, mu0, d, vs, g, hd, bl, rfl, i, wo, rfl, hj, hv, fr, k⟩
abbrev rhoT (s w : Addr) (d : Nat) (vs : List Str) (g hd : Bool) (bl : Option Str) (r : List (Option D)) : Rho := some (.obj s) :: some (.int (((d + 1 : Nat) : Nat) : Int)) :: some (.lst (vs.map .str)) :: some (hereD g hd bl) :: some (.obj w) :: r
theorem predI (d : Nat) : (((d + 1 : Nat) : Int) - 1) = ((d : Nat) : Int) := by omega
/-- the last forms: go, guard, if, op -/
theorem tree13 (CH CC : Addr) (i : GIn s w mu0) (wo : WOk W) (hj : d < j) (hv : vs.length + (d + 1) ≤ 1000) (fr : Free W bl) (one other : Tree) (kd : Int) (o6 o7 o8 o9 o11 : Option D) (sg : Str)
    (h1 : WT W.heads g hd vs bl one) (h2 : WT W.heads g hd vs bl other) (hP : ∀ t n' l', WT W.heads g hd vs bl t → l' = l + 1 + inn one + inn other - inn t → (0 ≤ l → 0 ≤ l') → Z.rt (treeD t) (setG s w W n' l' mu0)) :
    b_law_tree_t13 CH CC R_law_take R_law_leaf (R_callby j) (R_tree j) Z (rhoT s w d vs g hd bl [some (.int kd), o6, o7, o8, o9, some (.str sg), o11, some (treeD one), some (treeD other)]) (setG s w W n l mu0) := by
  have op : b_law_tree_t16 CH CC R_law_take R_law_leaf (R_callby j) (R_tree j) Z (rhoT s w d vs g hd bl [some (.int kd), o6, o7, o8, o9, some (.str sg), o11, some (treeD one), some (treeD other)]) (setG s w W n l mu0) := by
    unfold b_law_tree_t16
    simp
    have := hP (.op sg one other) n l (by simp only [WT]; exact ⟨h1, h2⟩) (by simp only [inn]; omega) (fun q => q)
    simpa [treeD] using this
  have iff : b_law_tree_t15 CH CC R_law_take R_law_leaf (R_callby j) (R_tree j) Z (rhoT s w d vs g hd bl [some (.int kd), o6, o7, o8, o9, some (.str sg), o11, some (treeD one), some (treeD other)]) (setG s w W n l mu0) := by
    unfold b_law_tree_t15
    rw [x_seq, x_if]
    simp only [x_test, x_op, x_var, x_c, List.getElem?_cons_zero, List.getElem?_cons_succ, deq_int]
    by_cases e : kd = 13
    · simp [e, predI]
      refine tree_ok i wo hj (by omega) fr fun t n' l' q1 q2 q3 => ?_
      have := hP (.iff one other t) n' l' (by simp only [WT]; exact ⟨h1, h2, q1⟩) (by simp only [inn]; omega) q3
      simpa [treeD] using this
    · simp [e]
      exact op
  have guard : b_law_tree_t14 CH CC R_law_take R_law_leaf (R_callby j) (R_tree j) Z (rhoT s w d vs g hd bl [some (.int kd), o6, o7, o8, o9, some (.str sg), o11, some (treeD one), some (treeD other)]) (setG s w W n l mu0) := by
    unfold b_law_tree_t14
    rw [x_seq, x_if]
    simp only [x_test, x_op, x_var, x_c, List.getElem?_cons_zero, List.getElem?_cons_succ, deq_int]
    by_cases e : kd = 12
    · simp [e]
      have := hP (.guard one other) n l (by simp only [WT]; exact ⟨h1, h2⟩) (by simp only [inn]; omega) (fun q => q)
      simpa [treeD] using this
    · simp [e]
      exact iff
  unfold b_law_tree_t13
  rw [x_seq, x_if]
  simp only [x_and, x_test, x_op, x_var, x_c, List.getElem?_cons_zero, List.getElem?_cons_succ, i2_]
  by_cases e : kd < 12
  · simp [e, hereD]
    cases g with
    | true =>
      simp
      have := hP (.go one other) n l (by simp only [WT]; exact ⟨trivial, h1, h2⟩) (by simp only [inn]; omega) (fun q => q)
      simpa [treeD] using this
    | false =>
      simpa [hereD] using guard
  · simp [e]
    exact guard
theorem tree10 (CH CC : Addr) (i : GIn s w mu0) (wo : WOk W) (hj : d < j) (hv : vs.length + (d + 1) ≤ 1000) (fr : Free W bl) (one : Tree) (kd nu : Int) (o6 o7 o13 : Option D) (stood : List Str) (nm sg : Str)
    (hst : ∀ h ∈ stood, Head.hand h ∈ W.heads) (hnu : 0 ≤ nu ∧ (nu < stood.length ∨ stood = []))
    (h1 : WT W.heads g hd vs bl one) (hP : ∀ t n' l', WT W.heads g hd vs bl t → l' = l + 1 + inn one - inn t → (0 ≤ l → 0 ≤ l') → Z.rt (treeD t) (setG s w W n' l' mu0)) :
    b_law_tree_t10 CH CC R_law_take R_law_leaf (R_callby j) (R_tree j) Z (rhoT s w d vs g hd bl [some (.int kd), o6, o7, some (.lst (stood.map .str)), some (.str nm), some (.str sg), some (.int nu), some (treeD one), o13]) (setG s w W n l mu0) := by
  have t12 : b_law_tree_t12 CH CC R_law_take R_law_leaf (R_callby j) (R_tree j) Z (rhoT s w d vs g hd bl [some (.int kd), o6, o7, some (.lst (stood.map .str)), some (.str nm), some (.str sg), some (.int nu), some (treeD one), o13]) (setG s w W n l mu0) := by
    unfold b_law_tree_t12
    rw [x_seq]
    simp [predI]
    refine tree_ok i wo hj (by omega) fr fun t n' l' q1 q2 q3 => ?_
    refine tree13 CH CC i wo hj hv fr one t kd _ _ _ _ _ sg h1 q1 fun t2 n2 l2 z1 z2 z3 => hP t2 n2 l2 z1 (by omega) (fun q => z3 (q3 q))
  have t11 : b_law_tree_t11 CH CC R_law_take R_law_leaf (R_callby j) (R_tree j) Z (rhoT s w d vs g hd bl [some (.int kd), o6, o7, some (.lst (stood.map .str)), some (.str nm), some (.str sg), some (.int nu), some (treeD one), o13]) (setG s w W n l mu0) := by
    unfold b_law_tree_t11
    rw [x_seq, x_if]
    simp only [x_test, x_op, x_var, x_c, List.getElem?_cons_zero, List.getElem?_cons_succ, deq_int]
    by_cases e : kd = 10
    · simp [e, predI, dcatL]
      refine ⟨by omega, ?_⟩
      have hm : vs.map D.str ++ [.str nm] = (vs ++ [nm]).map D.str := by rw [List.map_append]; rfl
      rw [hm]
      refine tree_ok i wo hj (by simp; omega) fr fun t n' l' q1 q2 q3 => ?_
      have := hP (.lett nm one t) n' l' (by simp only [WT]; exact ⟨h1, q1⟩) (by simp only [inn]; omega) q3
      simpa [treeD] using this
    · simp [e]
      exact t12
  unfold b_law_tree_t10
  rw [x_seq, x_if]
  simp only [x_and, x_test, x_op, x_var, x_c, List.getElem?_cons_zero, List.getElem?_cons_succ, i2_]
  by_cases e : kd < 10
  · simp [e, hereD]
    cases hd with
    | true =>
      simp
      by_cases hs : stood = []
      · subst hs
        simp [dneNil]
        simpa [hereD] using t11
      · have hlt : nu < stood.length := hnu.2.resolve_right hs
        simp [dneNil, hs, predI]
        have hcut : dcut [D.bl g, .bl true, optS bl] (some 1) none = [.bl true, optS bl] := by
          unfold dcut HT.sIx
          simp
        obtain ⟨h, hm, eh⟩ := atI_map (f := D.str) hnu.1 hlt
        simp [hcut, dcatT, eh]
        have := tree_ok (g := false) (hd := true) (n := n) (l := l) (Q := fun d mu1 => Z.rt (.tup [.str "handle", .str h, treeD one, d]) mu1) i wo hj (show vs.length + d ≤ 1000 by omega) fr fun t n' l' q1 q2 q3 => by
          have := hP (.handle h one t) n' l' (by simp only [WT]; exact ⟨trivial, hst h hm, h1, q1⟩) (by simp only [inn]; omega) q3
          simpa [treeD] using this
        simpa [hereD] using this
    | false =>
      simpa [hereD] using t11
  · simp [e]
    exact t11
theorem stood_mem {hs : List Head} {y : Str} (h : y ∈ hs.filterMap handOf) : Head.hand y ∈ hs := by
  obtain ⟨x, hx, e⟩ := List.mem_filterMap.mp h
  cases x with
  | hand n =>
    cases e
    exact hx
  | fn _ _ _ => cases e
theorem signs_at {r : Int} (h0 : 0 ≤ r) (h1 : r < 4) : ∃ c, atI (Str.ofString "+-*<").cps.toList r = some c := by
  have e : (Str.ofString "+-*<").cps.toList = [43, 45, 42, 60] := by decide +kernel
  rw [e]
  obtain ⟨x, _, ex⟩ := atI_in (l := [43, 45, 42, 60]) h0 (by simpa using h1)
  exact ⟨x, ex⟩
theorem signs_len : (Str.ofString "+-*<").length = 4 := by decide +kernel
theorem tree5 (CH CC : Addr) (i : GIn s w mu0) (wo : WOk W) (hj : d < j) (hv : vs.length + (d + 1) ≤ 1000) (fr : Free W bl) (kd : Int) (o6 o7 o8 o9 o10 o11 o12 o13 : Option D)
    (hP : ∀ t n' l', WT W.heads g hd vs bl t → l' = l + 1 - inn t → (0 ≤ l → 0 ≤ l') → Z.rt (treeD t) (setG s w W n' l' mu0)) :
    b_law_tree_t5 CH CC R_law_take R_law_leaf (R_callby j) (R_tree j) Z (rhoT s w d vs g hd bl [some (.int kd), o6, o7, o8, o9, o10, o11, o12, o13]) (setG s w W n l mu0) := by
  obtain ⟨stood, hstood⟩ : ∃ stood, stood = W.heads.filterMap handOf := ⟨_, rfl⟩
  have hst : ∀ h ∈ stood, Head.hand h ∈ W.heads := by rw [hstood]; intro h hh; exact stood_mem hh
  have hsl : stood.length ≤ 100 := by rw [hstood]; exact Nat.le_trans (List.length_filterMap_le _ _) wo.len
  unfold b_law_tree_t5
  rw [x_seq]
  simp [getG_w i, worldO, flkW_heads]
  refine lc_stood (by simp) W.heads [] _ (by have := wo.len; simp; omega) ?_
  rw [← hstood, List.nil_append]
  unfold b_law_tree_t6
  rw [x_seq]
  -- number, one
  have t8 : ∀ (nm sg : Str) (n : Int), b_law_tree_t8 CH CC R_law_take R_law_leaf (R_callby j) (R_tree j) Z (rhoT s w d vs g hd bl [some (.int kd), o6, o7, some (.lst (stood.map .str)), some (.str nm), some (.str sg), o11, o12, o13]) (setG s w W n l mu0) := by
    intro nm sg n
    unfold b_law_tree_t8
    rw [x_seq]
    simp [drLen, drMax]
    refine take_ok (getG_s i) (by split <;> omega) (by split <;> omega) fun nu n2 h0 h1 => ?_
    rw [putG_s i]
    unfold b_law_tree_t9
    rw [x_seq]
    simp [predI]
    refine tree_ok i wo hj (by omega) fr fun t n' l' q1 q2 q3 => ?_
    refine tree10 CH CC i wo hj hv fr t kd nu _ _ _ stood nm sg hst ⟨h0, ?_⟩ q1 fun t2 n2 l2 z1 z2 z3 => hP t2 n2 l2 z1 (by omega) (fun q => z3 (q3 q))
    by_cases hs : stood = []
    · exact .inr hs
    · left
      have : 0 < stood.length := List.length_pos_iff.mpr hs
      split at h1 <;> omega
  have t7 : ∀ (nm : Str) (n : Int), b_law_tree_t7 CH CC R_law_take R_law_leaf (R_callby j) (R_tree j) Z (rhoT s w d vs g hd bl [some (.int kd), o6, o7, some (.lst (stood.map .str)), some (.str nm), o10, o11, o12, o13]) (setG s w W n l mu0) := by
    intro nm n
    unfold b_law_tree_t7
    rw [x_seq]
    simp
    refine take_ok (getG_s i) (by decide) (by decide) fun r n2 h0 h1 => ?_
    rw [putG_s i]
    obtain ⟨c, ec⟩ := signs_at h0 h1
    simp [dix, ec, signs_len]
    exact t8 nm _ n2
  simp [getG_w i, worldO, flkW_words, hereD, dcatL]
  have hwl := wo.words
  refine ⟨by omega, ?_⟩
  cases bl with
  | none =>
    simp [drInt]
    refine take_ok (getG_s i) (by decide) (by decide) fun r n2 h0 h1 => ?_
    rw [putG_s i]
    obtain ⟨k, rfl⟩ : ∃ k : Nat, r = k := ⟨r.toNat, by omega⟩
    have hk : k < W.words.length := by omega
    have e : atI (W.words.map D.str ++ [.non]) ((k : Nat) : Int) = some (.str W.words[k]) := by
      rw [atI_nat, List.getElem?_append_left (by simpa using hk), List.getElem?_map, List.getElem?_eq_getElem hk]
      rfl
    simp [e]
    exact t7 W.words[k] n2
  | some b =>
    simp [drInt]
    refine take_ok (getG_s i) (by decide) (by decide) fun r n2 h0 h1 => ?_
    rw [putG_s i]
    have hm : W.words.map D.str ++ [.str b] = (W.words ++ [b]).map D.str := by rw [List.map_append]; rfl
    rw [hm]
    obtain ⟨nm, hnm, e⟩ := atI_map (f := D.str) (l := W.words ++ [b]) h0 (by simp; omega)
    simp only [dix_lst, e]
    exact t7 nm n2
end
theorem body_law_tree (CH CC : Addr) (j : Nat) : ∀ mu es P, R_tree (j + 1) mu es P → b_law_tree CH CC R_law_take R_law_leaf (R_callby j) (R_tree j) (endsG mu P) (startD N_law_tree es) mu := by
  rintro mu es P ⟨s, w, W, n, l, mu0, d, vs, g, hd, bl, rfl, i, wo, rfl, hj, hv, fr, hP⟩
  unfold b_law_tree
  rw [x_seq]
  simp
  refine take_ok (getG_s i) (by decide) (by decide) fun kd n1 h0 h1 => ?_
  rw [putG_s i]
  have leaf : ∀ rho : Rho, rho[0]? = some (some (.obj s)) → rho[2]? = some (some (.lst (vs.map .str))) → dRet (dCall R_law_leaf (dCons (dVar 0) (dCons (dVar 2) dNil))) (endsG (setG s w W n l mu0) P) rho (setG s w W n1 l mu0) := by
    intro rho r0 r2
    simp [r0, r2]
    refine ⟨s, n1, vs, rfl, getG_s i, by omega, fun t n2 ht h2 => ?_⟩
    rw [putG_s i]
    exact nd_get (hP t n2 l (ht _ _ _ _) (by omega) (fun q => q))
  unfold b_law_tree_t1
  rw [x_seq, x_if]
  simp only [x_or, x_test, x_op, x_var, x_c, List.getElem?_cons_zero, List.getElem?_cons_succ, i2_, deq_int]
  by_cases e1 : kd < 2
  · simp [e1, -x_ret]
    exact leaf _ rfl rfl
  by_cases e2 : d = 0
  · simp [e1, e2, -x_ret]
    subst e2
    exact leaf _ rfl rfl
  by_cases e3 : l < 1
  · simp [e1, e2, e3, getG_w i, worldO, flkW_left, -x_ret]
    exact leaf _ rfl rfl
  have hl : 1 ≤ l := by omega
  obtain ⟨d, rfl⟩ : ∃ d', d = d' + 1 := ⟨d - 1, by omega⟩
  have hj' : d < j := by omega
  simp [e1, e3, getG_w i, worldO, flkW_left]
  rw [if_neg (by omega)]
  unfold b_law_tree_t2
  rw [x_seq]
  simp [getG_w i, worldO, flkW_left, putG_left, -Int.natCast_add]
  have hP' : ∀ t n' l', WT W.heads g hd vs bl t → l' = (l - 1) + 1 - inn t → (0 ≤ l - 1 → 0 ≤ l') → ∃ mu2, Sub mu2 (setG s w W n' l' mu0) ∧ P (treeD t) mu2 := fun t n' l' q1 q2 q3 => nd_get (hP t n' l' q1 (by omega) (fun _ => q3 (by omega)))
  unfold b_law_tree_t3
  rw [x_seq, x_if]
  simp only [x_test, x_op, x_var, x_c, List.getElem?_cons_zero, List.getElem?_cons_succ, i2_]
  by_cases e4 : kd < 5
  · simp [e4]
    exact ⟨s, w, W, n1, l - 1, mu0, d, vs, g, hd, bl, rfl, i, wo, rfl, hj', by omega, fr, hP'⟩
  simp [e4]
  unfold b_law_tree_t4
  rw [x_seq, x_if]
  simp only [x_test, x_op, x_var, x_c, List.getElem?_cons_zero, List.getElem?_cons_succ, i2_]
  by_cases e5 : kd < 8
  · simp [e5, getG_w i, worldO, flkW_deeds]
    refine take_ok (getG_s i) (by decide) (by decide) fun r n2 h0 h1 => ?_
    rw [putG_s i]
    obtain ⟨dd, hdm, ed⟩ := atI_map (f := D.str) (l := W.deeds) h0 (by have := wo.deeds; omega)
    simp [ed]
    refine tree_ok i wo hj' (by omega) fr fun t n' l' q1 q2 q3 => ?_
    have := hP' (.deed dd t) n' l' (by simp only [WT]; exact ⟨wo.good dd hdm, q1⟩) (by simp only [inn]; omega) q3
    simpa [treeD] using this
  simp [e5]
  exact tree5 (Z := endsG (setG s w W n l mu0) P) CH CC i wo hj' hv fr kd none none none none none none none none hP'
end DL
set_option maxHeartbeats 800000
/-! K54f: _law_clause_by, _law_item -/
namespace DL
open PySem PySem.Spec PyProof.Rows L2

mutual
theorem WT.mono {hs : List Head} : ∀ {t : Tree} {g hd : Bool} {vs vs' : List Str} {bl : Option Str}, (∀ x ∈ vs, x ∈ vs') → WT hs g hd vs bl t → WT hs g hd vs' bl t
  | .num n, _, _, _, _, _, h, w => by simp only [WT] at w ⊢; exact w
  | .var x, _, _, _, _, _, h, w => by simp only [WT] at w ⊢; exact h x w
  | .call f hh as, _, _, _, _, _, h, w => by
    simp only [WT] at w ⊢
    exact ⟨w.1, WTs.mono h w.2⟩
  | .op s a b, _, _, _, _, _, h, w => by simp only [WT] at w ⊢; exact ⟨WT.mono h w.1, WT.mono h w.2⟩
  | .lett x a b, _, _, _, _, _, h, w => by
    simp only [WT] at w ⊢
    refine ⟨WT.mono h w.1, WT.mono (fun y hy => ?_) w.2⟩
    rcases List.mem_append.mp hy with q | q
    · exact List.mem_append_left _ (h y q)
    · exact List.mem_append_right _ q
  | .iff c a b, _, _, _, _, _, h, w => by simp only [WT] at w ⊢; exact ⟨WT.mono h w.1, WT.mono h w.2.1, WT.mono h w.2.2⟩
  | .deed d a, _, _, _, _, _, h, w => by simp only [WT] at w ⊢; exact ⟨w.1, WT.mono h w.2⟩
  | .handle hn a b, _, _, _, _, _, h, w => by simp only [WT] at w ⊢; exact ⟨w.1, w.2.1, WT.mono h w.2.2.1, WT.mono h w.2.2.2⟩
  | .go a b, _, _, _, _, _, h, w => by simp only [WT] at w ⊢; exact ⟨w.1, WT.mono h w.2.1, WT.mono h w.2.2⟩
  | .guard a b, _, _, _, _, _, h, w => by simp only [WT] at w ⊢; exact ⟨WT.mono h w.1, WT.mono h w.2⟩
theorem WTs.mono {hs : List Head} : ∀ {ts : List Tree} {g hd : Bool} {vs vs' : List Str} {bl : Option Str}, (∀ x ∈ vs, x ∈ vs') → WTs hs g hd vs bl ts → WTs hs g hd vs' bl ts
  | [], _, _, _, _, _, h, w => by simp only [WTs]
  | t :: r, _, _, _, _, _, h, w => by simp only [WTs] at w ⊢; exact ⟨WT.mono h w.1, WTs.mono h w.2⟩
end
structure DOk (W : WD) (j : Nat) : Prop where
  deep : ∃ dp : Nat, W.deep = ((dp : Nat) : Int) ∧ dp < j ∧ dp ≤ 900
  calm : W.calm = false
def R_clauseby (j : Nat) : DR := fun mu ds P => ∃ s w W n l mu0 x sv, mu = setG s w W n l mu0 ∧ GIn s w mu0 ∧ WOk W ∧ DOk W j ∧ ds = [.obj s, .str x, .str sv, .obj w] ∧
  ∀ t n' l', WT W.heads true true [x, sv] none t → (inn t : Int) ≤ l - l' + 4 → l' ≤ l → (0 ≤ l → 0 ≤ l') → P (treeD t) (setG s w W n' l' mu0)
section
variable {j : Nat} {s w : Addr} {W : WD} {mu0 : Mu} {Z : DEnds} {n l : Int} {x sv : Str}
theorem free_none : Free W none := fun b e => by cases e
abbrev rhoK (s w : Addr) (x sv : Str) (r : List (Option D)) : Rho := some (.obj s) :: some (.str x) :: some (.str sv) :: some (.obj w) :: some (hereD true true none) :: r
theorem ctree {Q : PD} (i : GIn s w mu0) (wo : WOk W) (dk : DOk W j) (k : ∀ t n' l', WT W.heads true true [x, sv] none t → l' = l - inn t → (0 ≤ l → 0 ≤ l') → Q (treeD t) (setG s w W n' l' mu0)) :
    R_tree j (setG s w W n l mu0) [.obj s, .int W.deep, .lst [.str x, .str sv], hereD true true none, .obj w] Q := by
  obtain ⟨dp, e, h1, h2⟩ := dk.deep
  rw [e]
  exact tree_ok (vs := [x, sv]) i wo h1 (by simp; omega) free_none k
theorem clause7 (CH CC : Addr) (i : GIn s w mu0) (wo : WOk W) (dk : DOk W j) (r : Int) (hr : 0 ≤ r ∧ r < 7) (one kept : Tree) (h1 : WT W.heads true true [x, sv] none one) (h2 : WT W.heads true true [x, sv] none kept)
    (hP : ∀ t n' l', WT W.heads true true [x, sv] none t → (inn t : Int) ≤ l - l' + inn one + inn kept + 4 → l' ≤ l → (0 ≤ l → 0 ≤ l') → Z.rt (treeD t) (setG s w W n' l' mu0)) :
    b_law_clause_by_t6 CH CC R_law_take (R_tree j) Z (rhoK s w x sv [some (.int r), some (treeD one), some (treeD kept), none]) (setG s w W n l mu0) := by
  have hgo : WT W.heads true true [x, sv] none (.go one kept) := by simp only [WT]; exact ⟨trivial, h1, h2⟩
  have hk : WT W.heads true true [x, sv] none (.go (.num r) (.var sv)) := by simp only [WT]; exact ⟨trivial, by omega, by simp⟩
  unfold b_law_clause_by_t6
  rw [x_seq]
  simp only [x_asg, x_drop, x_ret, x_if, x_tup, x_lst, x_lstM, x_cons, x_nil, x_c, x_var, x_op, x_call, x_test, x_and, x_or, x_not, x_notV, x_dget, x_cb, x_next, List.getElem?_cons_zero, List.getElem?_cons_succ, List.set_cons_succ, List.set_cons_zero, i2_, i2c_, deq_int, deq_str]
  refine ⟨Nat.le_of_ble_eq_true rfl, ?_⟩
  unfold b_law_clause_by_t7
  rw [x_seq, x_if]
  simp only [x_test, x_op, x_var, x_c, List.getElem?_cons_zero, List.getElem?_cons_succ, deq_int]
  by_cases e1 : r = 1
  · simp [e1]
    refine take_ok (getG_s i) (by decide) (by decide) fun q n2 q0 q1 => ?_
    rw [putG_s i]
    obtain ⟨c, ec⟩ := signs_at q0 q1
    simp [dix, ec, signs_len, getG_w i, worldO, flkW_deep]
    refine ctree i wo dk fun t n' l' z1 z2 z3 => ?_
    have := hP (.op ⟨#[c]⟩ (.go one kept) t) n' l' (by simp only [WT]; exact ⟨⟨trivial, h1, h2⟩, z1⟩) (by simp only [inn]; omega) (by omega) z3
    simpa [treeD] using this
  simp [e1]
  unfold b_law_clause_by_t8
  rw [x_seq, x_if]
  simp only [x_test, x_op, x_var, x_c, List.getElem?_cons_zero, List.getElem?_cons_succ, deq_int]
  by_cases e2 : r = 2
  · simp [e2, getG_w i, worldO, flkW_deep]
    refine ctree i wo dk fun t n' l' z1 z2 z3 => ?_
    have := hP (.lett x (.go one kept) t) n' l' (by simp only [WT]; exact ⟨⟨trivial, h1, h2⟩, WT.mono (fun y hy => List.mem_append_left _ hy) z1⟩) (by simp only [inn]; omega) (by omega) z3
    simpa [treeD] using this
  simp [e2]
  unfold b_law_clause_by_t9
  rw [x_seq, x_if]
  simp only [x_test, x_op, x_var, x_c, List.getElem?_cons_zero, List.getElem?_cons_succ, deq_int]
  by_cases e3 : r = 3
  · simp [e3, getG_w i, worldO, flkW_deep]
    refine ctree i wo dk fun t n' l' z1 z2 z3 => ?_
    have := hP (.guard t (.go one kept)) n' l' (by simp only [WT]; exact ⟨z1, trivial, h1, h2⟩) (by simp only [inn]; omega) (by omega) z3
    simpa [treeD] using this
  simp [e3]
  unfold b_law_clause_by_t10
  rw [x_seq, x_if]
  simp only [x_test, x_op, x_var, x_c, List.getElem?_cons_zero, List.getElem?_cons_succ, deq_int]
  by_cases e4 : r = 4
  · simp [e4, getG_w i, worldO, flkW_deep]
    refine ctree i wo dk fun t n' l' z1 z2 z3 => ?_
    rw [e4] at hk
    have := hP (.iff t (.go one kept) (.go (.num 4) (.var sv))) n' l' (by simp only [WT] at hgo hk ⊢; exact ⟨z1, hgo, hk⟩) (by simp only [inn]; omega) (by omega) z3
    simpa [treeD] using this
  simp [e4]
  unfold b_law_clause_by_t11
  simp
  have := hP (.go one kept) n l hgo (by simp only [inn]; omega) (by omega) (fun q => q)
  simpa [treeD] using this
end
theorem body_law_clause_by (CH CC : Addr) (j : Nat) : ∀ mu es P, R_clauseby j mu es P → b_law_clause_by CH CC R_law_take (R_tree j) (endsG mu P) (startD N_law_clause_by es) mu := by
  rintro mu es P ⟨s, w, W, n, l, mu0, x, sv, rfl, i, wo, dk, rfl, hP⟩
  have hc := dk.calm
  unfold b_law_clause_by
  rw [x_seq]
  show _
  have hst : startD N_law_clause_by [.obj s, .str x, .str sv, .obj w] = [some (.obj s), some (.str x), some (.str sv), some (.obj w), none, none, none, none, none] := rfl
  rw [hst]
  simp only [x_asg, x_drop, x_ret, x_if, x_tup, x_lst, x_lstM, x_cons, x_nil, x_c, x_var, x_op, x_call, x_test, x_and, x_or, x_not, x_notV, x_dget, x_cb, x_next, List.getElem?_cons_zero, List.getElem?_cons_succ, List.set_cons_succ, List.set_cons_zero, i2_, i2c_, deq_int, deq_str, getG_w i, worldO, flkW_calm, hc, Bool.not_false]
  refine ⟨Nat.le_of_ble_eq_true rfl, ?_⟩
  unfold b_law_clause_by_t1
  rw [x_seq]
  simp only [x_asg, x_drop, x_ret, x_if, x_tup, x_lst, x_lstM, x_cons, x_nil, x_c, x_var, x_op, x_call, x_test, x_and, x_or, x_not, x_notV, x_dget, x_cb, x_next, List.getElem?_cons_zero, List.getElem?_cons_succ, List.set_cons_succ, List.set_cons_zero, i2_, i2c_, deq_int, deq_str]
  refine take_ok (getG_s i) (by decide) (by decide) fun r n1 h0 h1 => ?_
  rw [putG_s i]
  unfold b_law_clause_by_t2
  rw [x_seq]
  simp only [x_asg, x_drop, x_ret, x_if, x_tup, x_lst, x_lstM, x_cons, x_nil, x_c, x_var, x_op, x_call, x_test, x_and, x_or, x_not, x_notV, x_dget, x_cb, x_next, List.getElem?_cons_zero, List.getElem?_cons_succ, List.set_cons_succ, List.set_cons_zero, i2_, i2c_, deq_int, deq_str, getG_w i, worldO, flkW_deep]
  refine ⟨Nat.le_of_ble_eq_true rfl, ?_⟩
  refine ctree i wo dk fun one n2 l2 q1 q2 q3 => ?_
  unfold b_law_clause_by_t3
  rw [x_seq, x_if]
  simp only [x_asg, x_drop, x_ret, x_if, x_tup, x_lst, x_lstM, x_cons, x_nil, x_c, x_var, x_op, x_call, x_test, x_and, x_or, x_not, x_notV, x_dget, x_cb, x_next, List.getElem?_cons_zero, List.getElem?_cons_succ, List.set_cons_succ, List.set_cons_zero, i2_, i2c_, deq_int, deq_str]
  by_cases e0 : r = 0
  · rw [if_pos (decide_eq_true e0)]
    exact nd_get (hP one n2 l2 q1 (by omega) (by omega) q3)
  rw [if_neg (by simpa using e0)]
  unfold b_law_clause_by_t4
  rw [x_seq]
  simp only [x_asg, x_drop, x_ret, x_if, x_tup, x_lst, x_lstM, x_cons, x_nil, x_c, x_var, x_op, x_call, x_test, x_and, x_or, x_not, x_notV, x_dget, x_cb, x_next, List.getElem?_cons_zero, List.getElem?_cons_succ, List.set_cons_succ, List.set_cons_zero, i2_, i2c_, deq_int, deq_str]
  refine ⟨Nat.le_of_ble_eq_true rfl, ?_⟩
  unfold b_law_clause_by_t5
  rw [x_seq, x_if]
  simp only [x_asg, x_drop, x_ret, x_if, x_tup, x_lst, x_lstM, x_cons, x_nil, x_c, x_var, x_op, x_call, x_test, x_and, x_or, x_not, x_notV, x_dget, x_cb, x_next, List.getElem?_cons_zero, List.getElem?_cons_succ, List.set_cons_succ, List.set_cons_zero, i2_, i2c_, deq_int, deq_str]
  refine take_ok (getG_s i) (by decide) (by decide) fun r2 n3 h2 h3 => ?_
  rw [putG_s i]
  simp only [x_asg, x_drop, x_ret, x_if, x_tup, x_lst, x_lstM, x_cons, x_nil, x_c, x_var, x_op, x_call, x_test, x_and, x_or, x_not, x_notV, x_dget, x_cb, x_next, List.getElem?_cons_zero, List.getElem?_cons_succ, List.set_cons_succ, List.set_cons_zero, i2_, i2c_, deq_int, deq_str]
  by_cases e1 : r2 = 0
  · rw [if_pos (decide_eq_true e1)]
    simp only [x_asg, x_drop, x_ret, x_if, x_tup, x_lst, x_lstM, x_cons, x_nil, x_c, x_var, x_op, x_call, x_test, x_and, x_or, x_not, x_notV, x_dget, x_cb, x_next, List.getElem?_cons_zero, List.getElem?_cons_succ, List.set_cons_succ, List.set_cons_zero, i2_, i2c_, deq_int, deq_str, getG_w i, worldO, flkW_deep]
    refine ⟨Nat.le_of_ble_eq_true rfl, ?_⟩
    refine ctree i wo dk fun kept n4 l4 z1 z2 z3 => ?_
    exact clause7 (Z := endsG _ P) CH CC i wo dk r ⟨h0, h1⟩ one kept q1 z1 fun t n' l' y1 y2 y3 y4 => nd_get (hP t n' l' y1 (by omega) (by omega) (fun q => y4 (z3 (q3 q))))
  · rw [if_neg (by simpa using e1)]
    have hv : WT W.heads true true [x, sv] none (.var sv) := by simp only [WT]; simp
    have := clause7 (n := n3) (l := l2) (Z := endsG (setG s w W n l mu0) P) CH CC i wo dk r ⟨h0, h1⟩ one (.var sv) q1 hv fun t n' l' y1 y2 y3 y4 => nd_get (hP t n' l' y1 (by simp only [inn] at y2; omega) (by omega) (fun q => y4 (q3 q)))
    exact this
/-! ### an item -/
def ItemOk (hs : List Head) (L : Int) : Head → Item → Prop
  | .fn n ps b, .fn F => F.name = n ∧ F.params = ps ∧ F.block = b ∧ WT hs false true ps b F.body ∧ (inn F.body : Int) ≤ L
  | .hand n, .hand H => H.name = n ∧ (∀ c ∈ H.clauses, WT hs true true [c.x, c.s] none c.body ∧ (inn c.body : Int) ≤ L + 4) ∧ WT hs false false [H.x, H.s] none H.fin ∧ (inn H.fin : Int) ≤ L
  | _, _ => False
def R_item (j : Nat) : DR := fun mu ds P => ∃ s w W n l mu0 h, mu = setG s w W n l mu0 ∧ GIn s w mu0 ∧ WOk W ∧ DOk W j ∧ ds = [.obj s, headD h, .obj w] ∧ h ∈ W.heads ∧ (∀ n ps b, h = .fn n ps b → Free W b) ∧ 0 ≤ l ∧
  ∀ it n' l', ItemOk W.heads l h it → P (itemD it) (setG s w W n' l' mu0)
section
variable {j : Nat} {s w : Addr} {W : WD} {mu0 : Mu} {Z : DEnds}
theorem wordAt {W : WD} (wo : WOk W) {k : Int} (h0 : 0 ≤ k) (h1 : k < 16) : ∃ x, atI (W.words.map D.str ++ W.words.map D.str) k = some (.str x) := by
  have hm : W.words.map D.str ++ W.words.map D.str = (W.words ++ W.words).map D.str := by rw [List.map_append]
  rw [hm]
  obtain ⟨x, _, e⟩ := atI_map (f := D.str) (l := W.words ++ W.words) h0 (by have := wo.words; simp; omega)
  exact ⟨x, e⟩
abbrev rhoI (s w : Addr) (W : WD) (a b c : Option D) (r : List (Option D)) : Rho := some (.obj s) :: a :: some (.obj w) :: b :: some (.lst (W.words.map .str ++ W.words.map .str)) :: c :: r
theorem loop_item (CH CC : Addr) (i : GIn s w mu0) (wo : WOk W) (dk : DOk W j) (L : Int) (a b : Option D) (fi : Int) (hfi : 0 ≤ fi ∧ fi < 8) (p : Addr) (hps : p ≠ s) (hpw : p ≠ w) (o7 : Option D) (hL : 0 ≤ L)
    (hZ : ∀ (cls : List Clause) (n l : Int) o8 o9 o10, (∀ c ∈ cls, WT W.heads true true [c.x, c.s] none c.body ∧ (inn c.body : Int) ≤ L + 4) → l ≤ L → (0 ≤ L → 0 ≤ l) → Z.nx (rhoI s w W a b (some (.int fi)) [some (.obj p), o7, o8, o9, o10, none]) ((p, .lst (cls.map clauseD)) :: setG s w W n l mu0)) :
    ∀ (ks : List Nat) (cls : List Clause) (n l : Int) (o8 o9 o10 : Option D), (∀ k ∈ ks, k < 8) → cls.length + ks.length ≤ 1000 → (∀ c ∈ cls, WT W.heads true true [c.x, c.s] none c.body ∧ (inn c.body : Int) ≤ L + 4) → l ≤ L → (0 ≤ L → 0 ≤ l) →
      dFor 8 (b_law_item_L1 CH CC (R_tree j) R_law_take (R_clauseby j)) (ks.map fun k => .int ((k : Nat) : Int)) Z (rhoI s w W a b (some (.int fi)) [some (.obj p), o7, o8, o9, o10, none]) ((p, .lst (cls.map clauseD)) :: setG s w W n l mu0)
  | [], cls, n, l, o8, o9, o10, hk, hl, hc, h1, h2 => hZ cls n l o8 o9 o10 hc h1 h2
  | k :: ks, cls, n, l, o8, o9, o10, hk, hl, hc, h1, h2 => by
    rw [List.map_cons, x_for1]
    have hk8 := hk k List.mem_cons_self
    have i2 : ∀ cls : List Clause, GIn s w ((p, DO.lst (cls.map clauseD)) :: mu0) := fun cls => i.cons
    have hcons : ∀ (n l : Int) (cls : List Clause), (p, DO.lst (cls.map clauseD)) :: setG s w W n l mu0 = setG s w W n l ((p, DO.lst (cls.map clauseD)) :: mu0) := fun _ _ _ => (setG_cons hps hpw).symm
    unfold b_law_item_L1
    rw [x_seq]
    simp
    rw [hcons]
    refine take_ok (getG_s (i2 cls)) (by decide) (by decide) fun r n2 q0 q1 => ?_
    rw [putG_s (i2 cls)]
    simp
    refine take_ok (getG_s (i2 cls)) (by decide) (by decide) fun r2 n3 q2 q3 => ?_
    rw [putG_s (i2 cls)]
    obtain ⟨sv, esv⟩ := wordAt wo (k := r + 1 + r2) (by omega) (by omega)
    obtain ⟨xv, exv⟩ := wordAt wo (k := r) (by omega) (by omega)
    obtain ⟨dv, edv⟩ := wordAt wo (k := fi + k) (by omega) (by omega)
    have gp : ∀ n l, mget (setG s w W n l ((p, DO.lst (cls.map clauseD)) :: mu0)) p = some (.lst (cls.map clauseD)) := fun n l => by rw [← hcons]; exact mget_top
    simp [esv, exv, edv, gp]
    refine ⟨s, w, W, n3, l, _, xv, sv, rfl, i2 cls, wo, dk, rfl, fun t n' l' z1 z2 z3 z4 => ?_⟩
    simp [gp]
    simp at hl
    refine ⟨by omega, ?_⟩
    have hput : mput (setG s w W n' l' ((p, DO.lst (cls.map clauseD)) :: mu0)) p (.lst (cls.map clauseD ++ [.tup [.str dv, .str xv, .str sv, treeD t]])) = (p, .lst ((cls ++ [Clause.mk dv xv sv t]).map clauseD)) :: setG s w W n' l' mu0 := by
      rw [← hcons, mput_top, List.map_append]
      rfl
    rw [hput]
    refine loop_item CH CC i wo dk L a b fi hfi p hps hpw o7 hL hZ ks (cls ++ [Clause.mk dv xv sv t]) n' l' _ _ _ (fun k hk' => hk k (List.mem_cons_of_mem _ hk')) (by simp; omega) (fun c hcm => ?_) (by omega) (fun q => z4 (h2 q))
    rcases List.mem_append.mp hcm with q | q
    · exact hc c q
    · rw [List.mem_singleton.mp q]
      refine ⟨z1, ?_⟩
      have := z4 (h2 hL)
      show (inn t : Int) ≤ L + 4
      omega
end
end DL
set_option maxHeartbeats 800000
/-! K54g: _law_item -/
namespace DL
open PySem PySem.Spec PyProof.Rows L2
section
variable {j : Nat} {s w : Addr} {W : WD} {mu0 : Mu}
theorem dtree {Q : PD} {n l : Int} {vs : List Str} {g hd : Bool} {bl : Option Str} (i : GIn s w mu0) (wo : WOk W) (dk : DOk W j) (hv : vs.length ≤ 50) (fr : Free W bl) (k : ∀ t n' l', WT W.heads g hd vs bl t → l' = l - inn t → (0 ≤ l → 0 ≤ l') → Q (treeD t) (setG s w W n' l' mu0)) :
    R_tree j (setG s w W n l mu0) [.obj s, .int W.deep, .lst (vs.map .str), hereD g hd bl, .obj w] Q := by
  obtain ⟨dp, e, h1, h2⟩ := dk.deep
  rw [e]
  exact tree_ok i wo h1 (by omega) fr k
end
theorem body_law_item (CH CC : Addr) (j : Nat) : ∀ mu es P, R_item j mu es P → b_law_item CH CC (R_tree j) R_law_take (R_clauseby j) (endsG mu P) (startD N_law_item es) mu := by
  rintro mu es P ⟨s, w, W, n, l, mu0, h, rfl, i, wo, dk, rfl, hm, fr, hl, hP⟩
  unfold b_law_item
  rw [x_seq, x_if]
  cases h with
  | fn nm ps b =>
    have hps := wo.pars _ _ _ hm
    simp [headD, getG_w i, worldO, flkW_deep, drList, dcatT]
    have := dtree (n := n) (l := l) (g := false) (hd := true) (vs := ps) (bl := b) (Q := fun d mu1 => ∃ mu2, Sub mu2 mu1 ∧ P (.tup [.str "def", .str nm, .tup (ps.map .str), optS b, d]) mu2) i wo dk (by omega) (fr _ _ _ rfl) fun t n' l' q1 q2 q3 => by
      have := hP (.fn ⟨nm, ps, b, t⟩) n' l' ⟨rfl, rfl, rfl, q1, by have := q3 hl; show (inn t : Int) ≤ l; omega⟩
      exact nd_get (by simpa [itemD, fnD] using this)
    simpa [hereD] using this
  | hand nm =>
    have hwl := wo.words
    simp [headD]
    unfold b_law_item_t1
    rw [x_seq]
    simp [getG_w i, worldO, flkW_words, dcatL]
    refine ⟨by omega, ?_⟩
    unfold b_law_item_t2
    rw [x_seq]
    simp
    refine take_ok (getG_s i) (by decide) (by decide) fun r n1 h0 h1 => ?_
    rw [putG_s i]
    simp [getG_w i, worldO, flkW_few]
    have hfew := wo.few
    refine ⟨hfew.1, ?_⟩
    have f0 : 0 ≤ r % W.few := Int.emod_nonneg _ (by omega)
    have f1 : r % W.few < W.few := Int.emod_lt_of_pos _ hfew.1
    obtain ⟨fi, efi⟩ : ∃ fi, fi = r % W.few := ⟨_, rfl⟩
    rw [← efi] at f0 f1 ⊢
    unfold b_law_item_t3
    rw [x_seq]
    simp
    intro p hp
    rw [domG] at hp
    have hps : p ≠ s := fun e => hp (e ▸ i.hs)
    have hpw : p ≠ w := fun e => hp (e ▸ i.hw)
    have hcons : ∀ (n l : Int) (o : DO), (p, o) :: setG s w W n l mu0 = setG s w W n l ((p, o) :: mu0) := fun _ _ _ => (setG_cons hps hpw).symm
    have i2 : ∀ o : DO, GIn s w ((p, o) :: mu0) := fun o => i.cons
    unfold b_law_item_t4
    rw [x_seq]
    rw [hcons]
    simp
    refine take_ok (getG_s (i2 _)) (by decide) (by decide) fun q n2 q0 q1 => ?_
    rw [putG_s (i2 _)]
    simp [getG_w (i2 _), worldO, flkW_heads, drLen, drInt]
    obtain ⟨b7, hb7, eb7⟩ : ∃ b7 : Int, (b7 = 0 ∨ b7 = 1) ∧ b7 = q / 3 * (if ((W.heads.length : Nat) : Int) < 7 then 1 else 0) := by
      refine ⟨_, ?_, rfl⟩
      have : q / 3 = 0 ∨ q / 3 = 1 := by omega
      rcases this with e | e <;> rw [e] <;> split <;> simp
    rw [← eb7]
    refine ⟨divOk (by decide) (by decide), by unfold CMul; split <;> omega, ?_⟩
    obtain ⟨mo, hmo, emo⟩ : ∃ mo : Int, (mo = 4 ∨ mo = 9) ∧ atI [D.int 4, D.int 9] b7 = some (.int mo) := by
      rcases hb7 with e | e
      · exact ⟨4, .inl rfl, by rw [e]; simp⟩
      · exact ⟨9, .inr rfl, by rw [e]; simp⟩
    rw [emo]
    dsimp only
    unfold b_law_item_t5
    rw [x_seq]
    simp
    refine take_ok (getG_s (i2 _)) (by omega) (by omega) fun kk n3 k0 k1 => ?_
    rw [putG_s (i2 _)]
    refine ⟨⟨by omega, by omega⟩, ?_⟩
    rw [← hcons]
    refine loop_item CH CC i wo dk l _ _ fi ⟨f0, by omega⟩ p hps hpw _ hl (fun cls n4 l4 o8 o9 o10 hc hl4 hg4 => ?_) (List.range kk.toNat) [] n3 l none none none (fun k hk => by simp at hk; omega) (by simp; omega) (by simp) (Int.le_refl _) (fun q => q)
    unfold b_law_item_t6
    dsimp only
    rw [x_seq]
    rw [hcons]
    simp
    refine take_ok (getG_s (i2 _)) (by decide) (by decide) fun r1 n5 a0 a1 => ?_
    rw [putG_s (i2 _)]
    unfold b_law_item_t7
    rw [x_seq]
    simp
    refine take_ok (getG_s (i2 _)) (by decide) (by decide) fun r2 n6 a2 a3 => ?_
    rw [putG_s (i2 _)]
    obtain ⟨sv, esv⟩ := wordAt wo (k := r1 + 1 + r2) (by omega) (by omega)
    obtain ⟨xv, exv⟩ := wordAt wo (k := r1) (by omega) (by omega)
    simp [esv]
    unfold b_law_item_t8
    rw [x_seq]
    simp [exv]
    unfold b_law_item_t9
    rw [x_seq]
    simp
    have fin : ∀ (t : Tree) (n l : Int), WT W.heads false false [xv, sv] none t → (inn t : Int) ≤ l4 → b_law_item_t11 CH CC (R_tree j) R_law_take (R_clauseby j) (endsG (setG s w W n l mu0) P) [some (.obj s), some (.tup [.str "handler", .str nm]), some (.obj w), none, some (.lst (W.words.map .str ++ W.words.map .str)), some (.int fi), some (.obj p), some (.int mo), o8, some (.str xv), some (.str sv), some (treeD t)] (setG s w W n l ((p, DO.lst (cls.map clauseD)) :: mu0)) := by
      intro t n l' h1 h2
      have gp : mget (setG s w W n l' ((p, DO.lst (cls.map clauseD)) :: mu0)) p = some (.lst (cls.map clauseD)) := by rw [← hcons]; exact mget_top
      unfold b_law_item_t11
      simp [drTuple, lv_cell gp]
      rw [← hcons]
      refine ⟨setG s w W n l' mu0, (Sub.refl _).tail, ?_⟩
      have := hP (.hand ⟨nm, cls, xv, sv, t⟩) n l' ⟨rfl, hc, h1, by show (inn t : Int) ≤ l; omega⟩
      simpa [itemD, handD] using this
    have fin' : ∀ (t : Tree) (n' l' : Int), WT W.heads false false [xv, sv] none t → (inn t : Int) ≤ l4 → b_law_item_t11 CH CC (R_tree j) R_law_take (R_clauseby j) (endsG (setG s w W n l mu0) P) [some (.obj s), some (.tup [.str "handler", .str nm]), some (.obj w), none, some (.lst (W.words.map .str ++ W.words.map .str)), some (.int fi), some (.obj p), some (.int mo), o8, some (.str xv), some (.str sv), some (treeD t)] (setG s w W n' l' ((p, DO.lst (cls.map clauseD)) :: mu0)) := fun t n' l' h1 h2 => by
      have := fin t n' l' h1 h2
      unfold b_law_item_t11 at this ⊢
      simpa using this
    unfold b_law_item_t10
    rw [x_seq, x_if]
    simp
    refine take_ok (getG_s (i2 _)) (by decide) (by decide) fun r3 n7 a4 a5 => ?_
    rw [putG_s (i2 _)]
    simp
    by_cases e : 0 < r3
    · simp [e, getG_w (i2 _), worldO, flkW_deep]
      have := dtree (n := n7) (l := l4) (g := false) (hd := false) (vs := [xv, sv]) (bl := none) (Q := fun d mu1 => b_law_item_t11 CH CC (R_tree j) R_law_take (R_clauseby j) (endsG (setG s w W n l mu0) P) [some (.obj s), some (.tup [.str "handler", .str nm]), some (.obj w), none, some (.lst (W.words.map .str ++ W.words.map .str)), some (.int fi), some (.obj p), some (.int mo), o8, some (.str xv), some (.str sv), some d] mu1) (i2 (.lst (cls.map clauseD))) wo dk (by simp) free_none fun t n' l' q1 q2 q3 => fin' t n' l' q1 (by have := q3 (hg4 hl); omega)
      simpa [hereD] using this
    · simp [e]
      have := fin' (.var xv) n7 l4 (by simp only [WT]; simp) (by simp only [inn]; exact hg4 hl)
      simpa [treeD] using this
end DL
set_option maxHeartbeats 800000
/-! K54h: _law_heads -/
namespace DL
open PySem PySem.Spec PyProof.Rows L2

structure StM (cells : List Addr) (mu mu1 : Mu) : Prop where
  dm : dom mu1 = dom mu
  st : ∀ p ∈ cells, ∃ n, mget mu1 p = some (stO n)
  ot : ∀ a, a ∉ cells → mget mu1 a = mget mu a
theorem StM.put {cells : List Addr} {mu mu1 : Mu} (h : StM cells mu mu1) {p : Addr} (hp : p ∈ cells) (n : Int) : StM cells mu (mput mu1 p (stO n)) where
  dm := by rw [dom_mput]; exact h.dm
  st := fun q hq => by
    by_cases e : q = p
    · subst e
      obtain ⟨m, hm⟩ := h.st q hq
      exact ⟨n, get_put_same hm⟩
    · obtain ⟨m, hm⟩ := h.st q hq
      exact ⟨m, by rw [get_put_ne e]; exact hm⟩
  ot := fun a ha => by
    have hne : a ≠ p := fun e => ha (by rw [e]; exact hp)
    rw [get_put_ne hne]
    exact h.ot a ha
theorem StM.refl {cells : List Addr} {mu : Mu} (h : ∀ p ∈ cells, ∃ n, mget mu p = some (stO n)) : StM cells mu mu := ⟨rfl, h, fun _ _ => rfl⟩
/-- texts of a head are letters -/
def headGood : Head → Prop
  | .fn n ps b => strGood n ∧ (∀ p ∈ ps, strGood p) ∧ ∀ x, b = some x → strGood x
  | .hand n => strGood n
structure HeadsOk (names : List Str) (hs : List Head) : Prop where
  nm : hs.map Head.name = names
  first : ∃ n ps r, hs = .fn n ps none :: r
  pars : ∀ n ps b, Head.fn n ps b ∈ hs → ps.length ≤ 8
  free : ∀ n ps b, Head.fn n ps (some b) ∈ hs → b ∉ names
  good : ∀ h ∈ hs, headGood h
def R_law_heads : DR := fun mu ds P => ∃ (cells : List Addr) (names words : List Str), ds = [.lst (cells.map .obj), .lst (names.map .str), .lst (words.map .str)] ∧ cells.length = names.length ∧ 0 < names.length ∧ names.length ≤ 100 ∧ words.length = 8 ∧ (∀ x ∈ names, strGood x) ∧ (∀ x ∈ words, strGood x) ∧ (∀ p ∈ cells, ∃ n, mget mu p = some (stO n)) ∧
  ∀ hs mu', HeadsOk names hs → StM cells mu mu' → P (.lst (hs.map headD)) mu'
theorem take_cell {h : Addr} {o : DO} {mu mu1 : Mu} {cells : List Addr} {p : Addr} {m : Int} {Q : PD} (sm : StM cells mu mu1) (hp : p ∈ cells) (hh : h ∉ dom mu) (h1 : 0 < m) (h2 : m < 2 ^ 64) (k : ∀ r mu2, 0 ≤ r → r < m → StM cells mu mu2 → Q (.int r) ((h, o) :: mu2)) : R_law_take ((h, o) :: mu1) [.obj p, .int m] Q := by
  obtain ⟨n, hn⟩ := sm.st p hp
  have hne : h ≠ p := fun e => hh (by rw [e, ← sm.dm]; exact mget_dom hn)
  refine take_ok (n := n) (by rw [mget_next hne]; exact hn) h1 h2 fun r n' h0 h1 => ?_
  rw [mput_next hne]
  exact k r _ h0 h1 (sm.put hp n')
/-- the loop, from the k-th name on -/
theorem loop_heads (CH CC : Addr) (cells : List Addr) (names words : List Str) (mu : Mu) (h : Addr) (hh : h ∉ dom mu) (hl : cells.length = names.length) (hn : names.length ≤ 100) (hw : words.length = 8) (gn : ∀ x ∈ names, strGood x) (gw : ∀ x ∈ words, strGood x) (Z : DEnds)
    (hZ : ∀ hs mu1 o4 o5 o6 o7 o8 o9, hs.map Head.name = names → (0 < names.length → ∃ n ps r, hs = .fn n ps none :: r) → (∀ n ps b, Head.fn n ps b ∈ hs → ps.length ≤ 8) → (∀ n ps b, Head.fn n ps (some b) ∈ hs → b ∉ names) → (∀ h ∈ hs, headGood h) → StM cells mu mu1 →
      Z.nx [some (.lst (cells.map .obj)), some (.lst (names.map .str)), some (.lst (words.map .str)), some (.obj h), o4, o5, o6, o7, o8, o9] ((h, .lst (hs.map headD)) :: mu1)) :
    ∀ (m k : Nat) (hs : List Head) (mu1 : Mu) (o4 o5 o6 o7 o8 o9 : Option D), m + k = names.length → hs.map Head.name = names.take k → (0 < k → ∃ n ps r, hs = .fn n ps none :: r) → (∀ n ps b, Head.fn n ps b ∈ hs → ps.length ≤ 8) → (∀ n ps b, Head.fn n ps (some b) ∈ hs → b ∉ names) → (∀ h ∈ hs, headGood h) → StM cells mu mu1 →
      dFor 4 (b_law_heads_L1 CH CC R_law_take R_law_fresh) (((List.range names.length).drop k).map fun j => .int ((j : Nat) : Int)) Z [some (.lst (cells.map .obj)), some (.lst (names.map .str)), some (.lst (words.map .str)), some (.obj h), o4, o5, o6, o7, o8, o9] ((h, .lst (hs.map headD)) :: mu1)
  | 0, k, hs, mu1, o4, o5, o6, o7, o8, o9, hm, h1, h2, h3, h4, h5, sm => by
    have e : k = names.length := by omega
    subst e
    rw [List.drop_eq_nil_of_le (by simp)]
    rw [List.take_length] at h1
    exact hZ hs mu1 _ _ _ _ _ _ h1 h2 h3 h4 h5 sm
  | m + 1, k, hs, mu1, o4, o5, o6, o7, o8, o9, hm, h1, h2, h3, h4, h5, sm => by
    have hlt : k < (List.range names.length).length := by simp; omega
    have hk : k < names.length := by omega
    have hkc : k < cells.length := by omega
    rw [List.drop_eq_getElem_cons hlt, List.map_cons, x_for1]
    have e1 : (List.range names.length)[k] = k := by simp
    rw [e1]
    have ec : atI (cells.map D.obj) ((k : Nat) : Int) = some (.obj cells[k]) := by rw [atI_nat, List.getElem?_map, List.getElem?_eq_getElem hkc]; rfl
    have en : atI (names.map D.str) ((k : Nat) : Int) = some (.str names[k]) := by rw [atI_nat, List.getElem?_map, List.getElem?_eq_getElem hk]; rfl
    have hcm : cells[k] ∈ cells := List.getElem_mem hkc
    have hsl : hs.length = k := by
      have := congrArg List.length h1
      simpa [Nat.min_eq_left (Nat.le_of_lt hk)] using this
    have htk : names.take (k + 1) = names.take k ++ [names[k]] := by rw [List.take_succ_eq_append_getElem hk]
    -- one head more
    have next : ∀ (x : Head) (mu2 : Mu) (o4 o5 o6 o7 o8 o9 : Option D), x.name = names[k] → (k = 0 → ∃ n ps, x = .fn n ps none) → (∀ n ps b, x = .fn n ps b → ps.length ≤ 8) → (∀ n ps b, x = .fn n ps (some b) → b ∉ names) → headGood x → StM cells mu mu2 →
        dFor 4 (b_law_heads_L1 CH CC R_law_take R_law_fresh) (((List.range names.length).drop (k + 1)).map fun j => .int ((j : Nat) : Int)) Z [some (.lst (cells.map .obj)), some (.lst (names.map .str)), some (.lst (words.map .str)), some (.obj h), o4, o5, o6, o7, o8, o9] ((h, .lst (hs.map headD ++ [headD x])) :: mu2) := by
      intro x mu2 o4 o5 o6 o7 o8 o9 q1 q2 q3 q4 q5 sm2
      have := loop_heads CH CC cells names words mu h hh hl hn hw gn gw Z hZ m (k + 1) (hs ++ [x]) mu2 o4 o5 o6 o7 o8 o9 (by omega) (by rw [List.map_append, h1, htk]; simp [q1]) (fun _ => ?_) (fun n ps b hb => ?_) (fun n ps b hb => ?_) (fun y hy => ?_) sm2
      · simpa [List.map_append] using this
      · by_cases hk0 : k = 0
        · obtain ⟨n, ps, rfl⟩ := q2 hk0
          have : hs = [] := List.length_eq_zero_iff.mp (by omega)
          subst this
          exact ⟨n, ps, [], rfl⟩
        · obtain ⟨n, ps, r, rfl⟩ := h2 (by omega)
          exact ⟨n, ps, r ++ [x], rfl⟩
      · rcases List.mem_append.mp hb with z | z
        · exact h3 n ps b z
        · exact q3 n ps b (List.mem_singleton.mp z).symm
      · rcases List.mem_append.mp hb with z | z
        · exact h4 n ps b z
        · exact q4 n ps b (List.mem_singleton.mp z).symm
      · rcases List.mem_append.mp hy with z | z
        · exact h5 y z
        · rw [List.mem_singleton.mp z]; exact q5
    unfold b_law_heads_L1
    rw [x_seq]
    simp [ec, -List.map_drop]
    refine take_cell sm hcm hh (by decide) (by decide) fun so mu2 a0 a1 sm2 => ?_
    -- a def
    have dfn : ∀ (mu2 : Mu) (so : Int) (o6 o7 o8 o9 : Option D), StM cells mu mu2 → dSeq (dAsg (dCall R_law_take (dCons (dOp dix (dVar 0) (dVar 4)) (dCons (dC (.int 8)) dNil))) 6) (b_law_heads_u5 CH CC R_law_take R_law_fresh)
        { Z with nx := dFor 4 (b_law_heads_L1 CH CC R_law_take R_law_fresh) (((List.range names.length).drop (k + 1)).map fun j => .int ((j : Nat) : Int)) Z, ct := dFor 4 (b_law_heads_L1 CH CC R_law_take R_law_fresh) (((List.range names.length).drop (k + 1)).map fun j => .int ((j : Nat) : Int)) Z, bk := Z.nx }
        [some (.lst (cells.map .obj)), some (.lst (names.map .str)), some (.lst (words.map .str)), some (.obj h), some (.int ((k : Nat) : Int)), some (.int so), o6, o7, o8, o9] ((h, .lst (hs.map headD)) :: mu2) := by
      intro mu2 so o6 o7 o8 o9 sm2
      rw [x_seq]
      simp [ec, -List.map_drop]
      refine take_cell sm2 hcm hh (by decide) (by decide) fun st mu3 b0 b1 sm3 => ?_
      unfold b_law_heads_u5
      rw [x_seq]
      simp [ec, drLen, drInt, -List.map_drop]
      refine take_cell sm3 hcm hh (by decide) (by decide) fun q mu4 c0 c1 sm4 => ?_
      obtain ⟨b7, hb7, eb7⟩ : ∃ b7 : Int, (b7 = 0 ∨ b7 = 1) ∧ b7 = q / 3 * (if ((names.length : Nat) : Int) < 7 then 1 else 0) := by
        refine ⟨_, ?_, rfl⟩
        have : q / 3 = 0 ∨ q / 3 = 1 := by omega
        rcases this with e | e <;> rw [e] <;> split <;> simp
      simp [-List.map_drop]
      rw [← eb7]
      refine ⟨divOk (by decide) (by decide), by unfold CMul; split <;> omega, ?_⟩
      obtain ⟨mo, hmo, emo⟩ : ∃ mo : Int, (mo = 3 ∨ mo = 9) ∧ atI [D.int 3, D.int 9] b7 = some (.int mo) := by
        rcases hb7 with e | e
        · exact ⟨3, .inl rfl, by rw [e]; simp⟩
        · exact ⟨9, .inr rfl, by rw [e]; simp⟩
      rw [emo]
      dsimp only
      refine take_cell sm4 hcm hh (by omega) (by omega) fun many mu5 d0 d1 sm5 => ?_
      unfold b_law_heads_u4
      rw [x_seq]
      simp [dcatL, -List.map_drop]
      refine ⟨by omega, ?_⟩
      obtain ⟨ps, hps8, gps, eps⟩ : ∃ ps : List Str, ps.length ≤ 8 ∧ (∀ x ∈ ps, strGood x) ∧ dcut (words.map D.str ++ words.map D.str) (some st) (some (st + many)) = ps.map .str := by
        refine ⟨((words ++ words).drop (HT.sIx 16 0 (some st))).take (HT.sIx 16 16 (some (st + many)) - HT.sIx 16 0 (some st)), ?_, fun x hx => ?_, ?_⟩
        · rw [List.length_take]
          have h1 : HT.sIx 16 16 (some (st + many)) = min (st + many).toNat 16 := by show (if st + many < 0 then _ else _) = _; rw [if_neg (by omega)]
          have h2 : HT.sIx 16 0 (some st) = min st.toNat 16 := by show (if st < 0 then _ else _) = _; rw [if_neg (by omega)]
          rw [h1, h2]
          omega
        · have := List.mem_of_mem_drop (List.mem_of_mem_take hx)
          rcases List.mem_append.mp this with z | z <;> exact gw x z
        · unfold dcut
          have hlen : (words.map D.str ++ words.map D.str).length = 16 := by simp [hw]
          rw [hlen, ← List.map_append, ← List.map_drop, ← List.map_take]
      rw [eps]
      unfold b_law_heads_u3
      rw [x_seq]
      simp [-List.map_drop]
      -- append the def
      have app : ∀ (b : Option Str) (mu6 : Mu), StM cells mu mu6 → (k = 0 → b = none) → (∀ y, b = some y → y ∉ names ∧ strGood y) → b_law_heads_u1 CH CC R_law_take R_law_fresh
          { Z with nx := dFor 4 (b_law_heads_L1 CH CC R_law_take R_law_fresh) (((List.range names.length).drop (k + 1)).map fun j => .int ((j : Nat) : Int)) Z, ct := dFor 4 (b_law_heads_L1 CH CC R_law_take R_law_fresh) (((List.range names.length).drop (k + 1)).map fun j => .int ((j : Nat) : Int)) Z, bk := Z.nx }
          [some (.lst (cells.map .obj)), some (.lst (names.map .str)), some (.lst (words.map .str)), some (.obj h), some (.int ((k : Nat) : Int)), some (.int so), some (.int st), some (.int many), some (.lst (ps.map .str)), some (optS b)] ((h, .lst (hs.map headD)) :: mu6) := by
        intro b mu6 sm6 hb0 hb1
        unfold b_law_heads_u1
        simp [en, mget_top, mput_top, drTuple, -List.map_drop]
        refine ⟨by omega, ?_⟩
        have := next (.fn names[k] ps b) mu6 (some (.int k)) (some (.int so)) (some (.int st)) (some (.int many)) (some (.lst (ps.map .str))) (some (optS b)) rfl (fun e => ⟨names[k], ps, by rw [hb0 e]⟩) (fun _ _ _ e => by cases e; exact hps8) (fun _ _ y e => by cases e; exact (hb1 y rfl).1) ⟨gn _ (List.getElem_mem _), gps, fun y e => (hb1 y e).2⟩ sm6
        simpa [headD, -List.map_drop] using this
      unfold b_law_heads_u2
      rw [x_seq, x_if]
      simp [-List.map_drop]
      by_cases es : so = 2 ∧ 0 < k
      · simp [es.1, es.2, ec, dcatL, -List.map_drop]
        refine ⟨by omega, ?_⟩
        obtain ⟨n6, hn6⟩ := sm5.st _ hcm
        have hne : h ≠ cells[k] := fun e => hh (by rw [e, ← sm5.dm]; exact mget_dom hn6)
        refine ⟨cells[k], n6, _, names ++ ps, rfl, by simp, by simp; omega, by rw [mget_next hne]; exact hn6, (fun a e => by cases e), fun y n' hy hlow => ?_⟩
        rw [mput_next hne]
        have := app (some y) _ (sm5.put hcm n') (fun e => by omega) (fun z e => by cases e; exact ⟨fun q => hy (List.mem_append_left _ q), hlow.good⟩)
        rw [es.1] at this
        simpa [-List.map_drop] using this
      · have := app none mu5 sm5 (fun _ => rfl) (fun y e => by cases e)
        by_cases e2 : so = 2
        · have hk0 : ¬ 0 < k := fun q => es ⟨e2, q⟩
          simp [e2, hk0, -List.map_drop] at this ⊢
          exact this
        · simp [e2, -List.map_drop] at this ⊢
          exact this
    unfold b_law_heads_u6
    rw [x_if]
    simp [en, mget_top, mput_top, -List.map_drop, -x_seq]
    by_cases ehd : 2 < so
    · by_cases hk0 : 0 < k
      · simp [ehd, hk0, -List.map_drop]
        refine ⟨by omega, ?_⟩
        have := next (.hand names[k]) mu2 (some (.int k)) (some (.int so)) o6 o7 o8 o9 rfl (fun e => by omega) (fun _ _ _ e => by cases e) (fun _ _ _ e => by cases e) (gn _ (List.getElem_mem _)) sm2
        simp [headD, -List.map_drop] at this
        exact this
      · simp [ehd, hk0, -List.map_drop, -x_seq]
        exact dfn mu2 so o6 o7 o8 o9 sm2
    · simp [ehd, -List.map_drop, -x_seq]
      exact dfn mu2 so o6 o7 o8 o9 sm2
theorem body_law_heads (CH CC : Addr) : ∀ mu es P, R_law_heads mu es P → b_law_heads CH CC R_law_take R_law_fresh (endsG mu P) (startD N_law_heads es) mu := by
  rintro mu es P ⟨cells, names, words, rfl, hl, hp, hn, hw, gn, gw, hst, hP⟩
  unfold b_law_heads
  rw [x_seq]
  simp
  intro h hh
  unfold b_law_heads_t1
  rw [x_seq]
  simp [drLen]
  refine ⟨by omega, ?_⟩
  have := loop_heads CH CC cells names words mu h hh hl hn hw gn gw { (endsG mu P) with nx := b_law_heads_t2 CH CC R_law_take R_law_fresh (endsG mu P) } (fun hs mu1 o4 o5 o6 o7 o8 o9 q1 q2 q3 q4 q5 sm => ?_) names.length 0 [] mu none none none none none none rfl rfl (fun e => by omega) (fun _ _ _ e => by cases e) (fun _ _ _ e => by cases e) (fun _ e => by cases e) (StM.refl hst)
  · simpa using this
  · dsimp only
    unfold b_law_heads_t2
    have hh1 : h ∉ dom mu1 := by rw [sm.dm]; exact hh
    simp [mget_top, frz, hh, mdel_top hh1]
    exact nd_get (hP hs mu1 ⟨q1, q2 hp, q3, q4, q5⟩ sm)
end DL
set_option maxHeartbeats 800000
/-! K54i: _law_right -/
namespace DL
open PySem PySem.Spec PyProof.Rows L2

theorem kit_tt : kitB "tuple" "tuple" = some true := by decide +kernel
theorem kit_ll : kitB "list" "list" = some true := by decide +kernel
theorem kit_sb : kitB "str" "bool" = some false := by decide +kernel
theorem kit_ib : kitB "int" "bool" = some false := by decide +kernel
def entGood : Ent → Prop
  | .deed d _ => strGood d
  | _ => True
def endGood : End → Prop
  | .asks d _ => strGood d
  | _ => True
structure FinGood (R : Fin) : Prop where
  log : ∀ e ∈ R.log, entGood e
  fin : endGood R.fin
  len : R.log.length ≤ 10000000
/-- a text or a number -/
def flatD : D → Prop
  | .str _ => True
  | .int _ => True
  | _ => False
theorem lc_isb {i : Nat} {rho : Rho} {mu : Mu} (hi : i < rho.length) : ∀ (ds : List D) (acc : List D) (P : PD), (∀ d ∈ ds, flatD d) → acc.length + ds.length ≤ 1000 → P (.lst (acc ++ ds.map fun _ => D.bl false)) mu →
    dLcL i dYes (dCB drIs (dCons (dVar i) (dCons (dC (.ty "bool")) dNil))) ds acc rho mu P
  | [], acc, P, hf, hl, h => by simpa [dLcL] using h
  | d :: ds, acc, P, hf, hl, h => by
    unfold dLcL
    simp only [x_yes, if_true, x_cb, x_cons, x_var, x_c, x_nil, List.getElem?_set_self hi]
    have hd := hf d List.mem_cons_self
    simp only [List.length_cons] at hl
    have ih := lc_isb (mu := mu) hi ds (acc ++ [.bl false]) P (fun y hy => hf y (List.mem_cons_of_mem _ hy)) (by simp; omega) (by simpa using h)
    cases d <;> simp only [flatD] at hd
    case int n =>
      simp only [drIs, tyOf, kit_ib]
      exact ⟨by omega, ih⟩
    case str n =>
      simp only [drIs, tyOf, kit_sb]
      exact ⟨by omega, ih⟩
theorem bls_false : ∀ ds : List D, bls (ds.map fun _ => D.bl false) = some (ds.map fun _ => false)
  | [] => rfl
  | d :: ds => by simp [bls, bls_false ds]
theorem any_false : ∀ ds : List D, (ds.map fun _ => false).any id = false
  | [] => rfl
  | d :: ds => by simp
theorem loop_right (CH CC : Addr) (Z : DEnds) (a b c d : D) (mu : Mu) (hZ : ∀ o4 o5, Z.nx [some a, some b, some c, some d, o4, o5] mu) : ∀ (ps : List (List D)) (o4 o5 : Option D), (∀ p ∈ ps, p.length ≤ 100 ∧ ∀ d ∈ p, flatD d) →
    dFor 4 (b_law_right_L1 CH CC) (ps.map .tup) Z [some a, some b, some c, some d, o4, o5] mu
  | [], o4, o5, h => hZ o4 o5
  | p :: ps, o4, o5, h => by
    rw [List.map_cons, x_for1]
    obtain ⟨h1, h2⟩ := h p List.mem_cons_self
    unfold b_law_right_L1
    rw [x_if]
    simp [drIs, tyOf, kit_tt]
    refine lc_isb (by simp) p [] _ h2 (by simp; omega) ?_
    simp only [List.nil_append, drAny, lv_lst, bls_false, any_false]
    simp
    exact loop_right CH CC Z a b c d mu hZ ps _ _ fun q hq => h q (List.mem_cons_of_mem _ hq)
def entL : Ent → List D
  | .deed d n => [.str "do", .str d, .int n]
  | .guard n => [.str "guard", .int n]
  | .clean n => [.str "clean", .int n]
theorem entD_L (e : Ent) : entD e = .tup (entL e) := by cases e <;> rfl
def endL : End → List D
  | .spent => [.str "spent"]
  | .asks d n => [.str "asks", .str d, .int n]
  | .great => [.str "great"]
  | .done n => [.str "done", .int n]
theorem endD_L (e : End) : endD e = .tup (endL e) := by cases e <;> rfl
def R_law_right : DR := fun mu ds P => ∃ R : Fin, ds = [resD R, endD R.fin, .lst (R.log.map entD), .int R.used] ∧ FinGood R ∧ P (.bl true) mu
/-- plain data that may be compared -/
structure GoodD (d : D) (k : Nat) : Prop where
  p : plain d = true
  l : (pyd d).canLay0 = true
  h : (pyd d).depth ≤ k
theorem good_int (n : Int) (k : Nat) : GoodD (.int n) k := ⟨by simp [plain], by simp [pyd, PyData.canLay0], by simp [pyd, PyData.depth]⟩
theorem good_str {x : Str} (h : strGood x) (k : Nat) : GoodD (.str x) k := ⟨by simp [plain], by simp only [pyd, PyData.canLay0]; exact h, by simp [pyd, PyData.depth]⟩
theorem goods {k : Nat} : ∀ {ds : List D}, (∀ d ∈ ds, GoodD d k) → plains ds = true ∧ PyData.canLayAll0 (pyds ds) = true ∧ PyData.depthAll (pyds ds) ≤ k
  | [], h => ⟨by simp [plains], by simp [pyds, PyData.canLayAll0], by simp [pyds, PyData.depthAll]⟩
  | d :: ds, h => by
    obtain ⟨a, b, c⟩ := h d List.mem_cons_self
    obtain ⟨x, y, z⟩ := goods (k := k) fun e he => h e (List.mem_cons_of_mem _ he)
    refine ⟨by simp [plains, a, x], by simp [pyds, PyData.canLayAll0, b, y], ?_⟩
    simp only [pyds, PyData.depthAll]
    omega
theorem good_tup {k : Nat} {ds : List D} (h : ∀ d ∈ ds, GoodD d k) : GoodD (.tup ds) (k + 1) := by
  obtain ⟨x, y, z⟩ := goods h
  exact ⟨by simpa [plain] using x, by simpa [pyd, PyData.canLay0] using y, by simp only [pyd, PyData.depth]; omega⟩
theorem good_lst {k : Nat} {ds : List D} (h : ∀ d ∈ ds, GoodD d k) : GoodD (.lst ds) (k + 1) := by
  obtain ⟨x, y, z⟩ := goods h
  exact ⟨by simpa [plain] using x, by simpa [pyd, PyData.canLay0] using y, by simp only [pyd, PyData.depth]; omega⟩
theorem lit_good (x : String) (h : PyData.strOk (Str.ofString x) = true) : strGood (Str.ofString x) := h
theorem good_ent {e : Ent} (h : entGood e) : GoodD (entD e) 1 := by
  cases e with
  | deed d n =>
    refine good_tup (k := 0) fun x hx => ?_
    simp at hx
    rcases hx with rfl | rfl | rfl
    · exact good_str (lit_good "do" (by decide +kernel)) 0
    · exact good_str h 0
    · exact good_int n 0
  | guard n =>
    refine good_tup (k := 0) fun x hx => ?_
    simp at hx
    rcases hx with rfl | rfl
    · exact good_str (lit_good "guard" (by decide +kernel)) 0
    · exact good_int n 0
  | clean n =>
    refine good_tup (k := 0) fun x hx => ?_
    simp at hx
    rcases hx with rfl | rfl
    · exact good_str (lit_good "clean" (by decide +kernel)) 0
    · exact good_int n 0
theorem good_end {e : End} (h : endGood e) : GoodD (endD e) 1 := by
  cases e with
  | spent =>
    refine good_tup (k := 0) fun x hx => ?_
    simp at hx
    rw [hx]
    exact good_str (lit_good "spent" (by decide +kernel)) 0
  | great =>
    refine good_tup (k := 0) fun x hx => ?_
    simp at hx
    rw [hx]
    exact good_str (lit_good "great" (by decide +kernel)) 0
  | done n =>
    refine good_tup (k := 0) fun x hx => ?_
    simp at hx
    rcases hx with rfl | rfl
    · exact good_str (lit_good "done" (by decide +kernel)) 0
    · exact good_int n 0
  | asks d n =>
    refine good_tup (k := 0) fun x hx => ?_
    simp at hx
    rcases hx with rfl | rfl | rfl
    · exact good_str (lit_good "asks" (by decide +kernel)) 0
    · exact good_str h 0
    · exact good_int n 0
theorem good_res {R : Fin} (h : FinGood R) : GoodD (resD R) 3 := good_tup (k := 2) fun x hx => by
  simp at hx
  rcases hx with rfl | rfl | rfl
  · obtain ⟨a, b, c⟩ := good_end h.fin
    exact ⟨a, b, by omega⟩
  · exact good_lst (k := 1) fun d hd => by
      obtain ⟨e, he, rfl⟩ := List.mem_map.mp hd
      exact good_ent (h.log e he)
  · exact good_int _ _
theorem GoodD.shaped {d : D} {k : Nat} (h : GoodD d k) (hk : k ≤ 64) : SeqAt.shaped (pyd d) = true := by
  unfold SeqAt.shaped
  rw [h.l]
  simp
  have := h.h
  omega
theorem flat_ent (e : Ent) : (entL e).length ≤ 100 ∧ ∀ d ∈ entL e, flatD d := by
  cases e <;> simp [entL, flatD]
theorem flat_end (e : End) : (endL e).length ≤ 100 ∧ ∀ d ∈ endL e, flatD d := by
  cases e <;> simp [endL, flatD]
theorem body_law_right (CH CC : Addr) : ∀ mu es P, R_law_right mu es P → b_law_right CH CC (endsG mu P) (startD N_law_right es) mu := by
  rintro mu es P ⟨R, rfl, hR, hP⟩
  unfold b_law_right
  rw [x_seq, x_if]
  simp [resD, drIs, tyOf, kit_tt, kit_ll, drLen, -x_seq]
  rw [x_seq]
  have hlen := hR.len
  simp [dcatL, -x_seq]
  refine ⟨by omega, ?_⟩
  have hparts : (endD R.fin :: D.tup [.int R.used] :: R.log.map entD) = (endL R.fin :: [D.int R.used] :: R.log.map entL).map .tup := by
    rw [List.map_cons, List.map_cons, List.map_map, endD_L]
    congr 2
    apply List.map_congr_left
    intro e _
    exact entD_L e
  rw [hparts]
  refine loop_right CH CC _ _ _ _ _ mu (fun o4 o5 => ?_) _ none none fun p hp => ?_
  · have hg := good_res hR
    have hs := hg.shaped (by decide)
    have he := SeqAt.eqv_refl _ hg.l
    simp only [x_ret, x_op, x_var, x_tup, x_cons, x_nil, List.getElem?_cons_zero, List.getElem?_cons_succ, deqD]
    refine ⟨Nat.le_of_ble_eq_true rfl, ⟨hg.p, hg.p, hs, hs⟩, ?_⟩
    have he' : PyData.eqv (pyd (.tup [endD R.fin, .lst (R.log.map entD), .int R.used])) (pyd (.tup [endD R.fin, .lst (R.log.map entD), .int R.used])) = true := he
    rw [he']
    exact nd_get hP
  · rcases List.mem_cons.mp hp with q | q
    · rw [q]; exact flat_end _
    · rcases List.mem_cons.mp q with q | q
      · rw [q]; simp [flatD]
      · obtain ⟨e, _, rfl⟩ := List.mem_map.mp q
        exact flat_ent e
end DL
set_option maxHeartbeats 800000
/-! K54j: _law_cut -/
namespace DL
open PySem PySem.Spec PyProof.Rows L2

def isSpent : End → Bool
  | .spent => true
  | _ => false
def isDo : Ent → Bool
  | .deed _ _ => true
  | _ => false
/-- O is the run R, cut at T turns -/
structure CutAt (R : Fin) (T : Nat) (O : Fin) : Prop where
  sp : O.fin = .spent
  us : O.used = T
  pre : O.log = R.log.take O.log.length
  dos : (O.log.filter isDo).length ≤ T
theorem spent_eqv (e : End) : PyData.eqv (pyd (endD e)) (pyd (.tup [.str "spent"])) = isSpent e := by
  cases e <;> simp [endD, pyd, pyds, PyData.eqv, PyData.eqvAll, isSpent]
/-- what _law_cut is asked with: it answers true; fuel j -/
def CutOk : Nat → Fin → Nat → Fin → Prop
  | 0, _, _, _ => False
  | j + 1, R, T, O => (R.used ≤ T ∧ (isSpent R.fin = false ∨ T = R.used) ∧ O = R) ∨ (isSpent R.fin = true ∧ R.used < T ∧ CutOk j O R.used R) ∨ (T < R.used ∧ CutAt R T O)
def R_law_cut (j : Nat) : DR := fun mu ds P => ∃ R T O, ds = [resD R, .int ((T : Nat) : Int), resD O] ∧ FinGood R ∧ FinGood O ∧ CutOk j R T O ∧ P (.bl true) mu
theorem good_spent : GoodD (.tup [.str "spent"]) 1 := good_end (e := .spent) True.intro
/-- [e for e in log if e[0] == 'do'] -/
theorem lc_dos {i : Nat} {rho : Rho} {mu : Mu} (hi : i < rho.length) : ∀ (es : List Ent) (acc : List D) (P : PD), acc.length + es.length ≤ 10000001 → (∀ ds : List D, ds.length = acc.length + (es.filter isDo).length → P (.lst ds) mu) →
    dLcL i (dTest (dOp (deq) (dOp dix (dVar i) (dC (.int 0))) (dC (.str "do")))) (dVar i) (es.map entD) acc rho mu P
  | [], acc, P, hl, h => by
    simp only [List.map_nil, dLcL]
    exact h acc (by simp)
  | e :: es, acc, P, hl, h => by
    rw [List.map_cons, dLcL]
    simp only [List.length_cons] at hl
    simp only [x_test, x_op, x_var, x_c, List.getElem?_set_self hi]
    cases e with
    | deed d n =>
      simp [entD]
      refine ⟨by omega, lc_dos hi es _ P (by simp; omega) fun ds hd => h ds ?_⟩
      simp [isDo, List.filter_cons] at hd ⊢
      omega
    | guard n =>
      simp [entD]
      refine lc_dos hi es _ P (by omega) fun ds hd => h ds ?_
      simp [isDo, List.filter_cons] at hd ⊢
      omega
    | clean n =>
      simp [entD]
      refine lc_dos hi es _ P (by omega) fun ds hd => h ds ?_
      simp [isDo, List.filter_cons] at hd ⊢
      omega
theorem body_law_cut (CH CC : Addr) (j : Nat) : ∀ mu es P, R_law_cut (j + 1) mu es P → b_law_cut CH CC R_law_right (R_law_cut j) (endsG mu P) (startD N_law_cut es) mu := by
  rintro mu es P ⟨R, T, O, rfl, gR, gO, hC, hP⟩
  have gs := good_spent
  have ge := good_end gR.fin
  unfold b_law_cut
  rw [x_seq, x_if]
  simp only [x_start, x_and, x_or, x_test, x_op, x_var, x_c, x_tup, x_cons, x_nil, List.map_cons, List.map_nil, List.cons_append, List.nil_append, List.getElem?_cons_zero, List.getElem?_cons_succ, i2_, resD, dix_tup, atI_cons0, atI_cons2, dneD, spent_eqv, deq_int]
  unfold CutOk at hC
  rcases hC with ⟨h1, h2, rfl⟩ | ⟨h1, h2, h3⟩ | ⟨h1, h2⟩
  · have c1 : decide (((O.used : Nat) : Int) ≤ ((T : Nat) : Int)) = true := decide_eq_true (by omega)
    simp only [c1, if_true]
    refine ⟨Nat.le_of_ble_eq_true rfl, ⟨ge.p, gs.p, ge.shaped (by decide), gs.shaped (by decide)⟩, ?_⟩
    have call : dRet (dCall R_law_right (dCons (dVar 2) (dCons (dOp dix (dVar 0) (dC (.int 0))) (dCons (dOp dix (dVar 0) (dC (.int 1))) (dCons (dOp dix (dVar 0) (dC (.int 2))) dNil))))) (endsG mu P) [some (resD O), some (.int ((T : Nat) : Int)), some (resD O), none] mu := by
      simp only [x_ret, x_call, x_cons, x_nil, x_var, x_op, x_c, List.getElem?_cons_zero, List.getElem?_cons_succ, resD, dix_tup, atI_cons0, atI_cons1, atI_cons2]
      exact ⟨O, rfl, gO, nd_get hP⟩
    rcases h2 with h2 | h2
    · simp [h2]
      exact call
    · cases e : isSpent O.fin with
      | false =>
        simp
        exact call
      | true =>
        simp [h2]
        rw [h2] at call
        exact call
  · have c1 : decide (((R.used : Nat) : Int) ≤ ((T : Nat) : Int)) = true := decide_eq_true (by omega)
    simp only [c1, if_true]
    refine ⟨Nat.le_of_ble_eq_true rfl, ⟨ge.p, gs.p, ge.shaped (by decide), gs.shaped (by decide)⟩, ?_⟩
    have c2 : decide (((T : Nat) : Int) = ((R.used : Nat) : Int)) = false := decide_eq_false (by omega)
    simp only [h1, c2, Bool.not_true, Bool.false_eq_true, if_false, x_next]
    unfold b_law_cut_t1
    rw [x_seq, x_if]
    have c3 : decide (((R.used : Nat) : Int) < ((T : Nat) : Int)) = true := decide_eq_true (by omega)
    simp only [x_test, x_op, x_var, x_c, List.getElem?_cons_zero, List.getElem?_cons_succ, i2_, dix_tup, atI_cons2, c3, if_true, x_ret, x_call, x_cons, x_nil]
    exact ⟨O, R.used, R, rfl, gO, gR, h3, nd_get hP⟩
  · have c1 : decide (((R.used : Nat) : Int) ≤ ((T : Nat) : Int)) = false := decide_eq_false (by omega)
    simp only [c1, Bool.false_eq_true, if_false, x_next]
    unfold b_law_cut_t1
    rw [x_seq, x_if]
    have c3 : decide (((R.used : Nat) : Int) < ((T : Nat) : Int)) = false := decide_eq_false (by omega)
    simp only [x_test, x_op, x_var, x_c, List.getElem?_cons_zero, List.getElem?_cons_succ, i2_, dix_tup, atI_cons2, c3, Bool.false_eq_true, if_false, x_next]
    unfold b_law_cut_t2
    rw [x_seq, x_if]
    have hcut : dcut (R.log.map entD) none (some (((O.log.length : Nat) : Int))) = O.log.map entD := by
      unfold dcut
      have e1 : HT.sIx (R.log.map entD).length 0 none = 0 := rfl
      rw [e1, HT.sIx_nat, List.drop_zero, Nat.sub_zero, ← List.map_take]
      have hle : O.log.length ≤ R.log.length := by
        have := congrArg List.length h2.pre
        rw [List.length_take] at this
        omega
      rw [List.length_map, Nat.min_eq_left hle, ← h2.pre]
    have hsp := h2.sp
    have hus := h2.us
    have hlo := gO.len
    simp [drLen, -x_seq]
    rw [hcut]
    refine ⟨O, by unfold resD; rw [hsp, hus]; rfl, gO, ?_⟩
    simp
    unfold b_law_cut_t3
    simp
    refine lc_dos (by simp) O.log [] _ (by simp; omega) fun ds hd => ?_
    have := h2.dos
    simp [drLen]
    simp at hd
    rw [decide_eq_true (by omega)]
    exact nd_get hP
end DL
set_option maxHeartbeats 800000
/-! K54k: _law_input -/
namespace DL
open PySem PySem.Spec PyProof.Rows L2

theorem Sub.cons {mu2 mu1 : Mu} {p : Addr} {o : DO} (h : Sub mu2 mu1) : Sub ((p, o) :: mu2) ((p, o) :: mu1) where
  nd := fun n => by
    have n' := List.nodup_cons.mp (show (p :: DL.dom mu1).Nodup from n)
    exact List.nodup_cons.mpr ⟨fun q => n'.1 (h.dom n'.2 q), h.nd n'.2⟩
  get := fun n a u q => by
    have n' := List.nodup_cons.mp (show (p :: DL.dom mu1).Nodup from n)
    by_cases e : p = a
    · subst e
      rw [mget_top] at q ⊢
      exact q
    · rw [mget_next e] at q ⊢
      exact h.get n'.2 a u q
def R_law_input : DR := fun mu ds P => ∃ (sc : List Int) (many : Nat), ds = [.fz sc, .int ((many : Nat) : Int)] ∧ many ≤ 8 ∧ ∀ (ns as : List Int) s n, (∀ x ∈ ns, x.natAbs ≤ 10 ^ 18) → (∀ x ∈ as, x.natAbs ≤ 10 ^ 18) → ns.length = many → as.length ≤ 20 → s ∉ dom mu → P (.lst [.lst (ns.map .int), .lst (as.map .int), .obj s]) ((s, stO n) :: mu)
theorem lc_nums {s : Addr} {mu : Mu} {rho : Rho} (r2 : rho[2]? = some (some (.obj s))) : ∀ (js : List D) (acc : List Int) (n : Int) (P : PD), acc.length + js.length ≤ 1000 → (∀ x ∈ acc, x.natAbs ≤ 10 ^ 18) →
    (∀ (ns : List Int) n', (∀ x ∈ ns, x.natAbs ≤ 10 ^ 18) → ns.length = acc.length + js.length → P (.lst (ns.map .int)) ((s, stO n') :: mu)) →
    dLcL 3 dYes (dCall R_law_value_by (dCons (dVar 2) dNil)) js (acc.map .int) rho ((s, stO n) :: mu) P
  | [], acc, n, P, hl, ha, h => h acc n ha rfl
  | j :: js, acc, n, P, hl, ha, h => by
    unfold dLcL
    have e2 : (rho.set 3 (some j))[2]? = rho[2]? := List.getElem?_set_ne (by decide)
    simp only [x_yes, if_true, x_call, x_cons, x_var, x_nil, e2, r2]
    simp only [List.length_cons] at hl
    refine ⟨s, n, rfl, mget_top, fun r n' hr => ?_⟩
    rw [mput_top]
    refine ⟨by simp; omega, ?_⟩
    have := lc_nums r2 js (acc ++ [r]) n' P (by simp; omega) (fun x hx => by
      rcases List.mem_append.mp hx with q | q
      · exact ha x q
      · rw [List.mem_singleton.mp q]; exact hr) fun ns n' q1 q2 => h ns n' q1 (by simp at q2 ⊢; omega)
    rw [List.map_append] at this
    exact this
theorem lc_ans {sc : List Int} {mu : Mu} {rho : Rho} (h3 : 3 < rho.length) (r0 : rho[0]? = some (some (.fz sc))) : ∀ (js : List Nat) (acc : List Int) (mu1 : Mu) (P : PD), Sub mu mu1 ∧ (∀ a, a ∈ dom mu → a ∈ dom mu1) → (∀ j ∈ js, j < 100) → acc.length + js.length ≤ 1000 → (∀ x ∈ acc, x.natAbs ≤ 10 ^ 18) →
    (∀ (ns : List Int) mu2, Sub mu mu2 ∧ (∀ a, a ∈ dom mu → a ∈ dom mu2) → (∀ x ∈ ns, x.natAbs ≤ 10 ^ 18) → ns.length = acc.length + js.length → P (.lst (ns.map .int)) mu2) →
    dLcL 3 dYes (dCall R_law_value_by (dCons (dCall R_law_source (dCons (dVar 0) (dCons (dOp (i2 fun i j => .int (i + j)) (dC (.int 42)) (dVar 3)) dNil))) dNil)) (js.map fun j => .int ((j : Nat) : Int)) (acc.map .int) rho mu1 P
  | [], acc, mu1, P, sb, hj, hl, ha, h => h acc mu1 sb ha rfl
  | j :: js, acc, mu1, P, sb, hj, hl, ha, h => by
    rw [List.map_cons]
    unfold dLcL
    have e0 : (rho.set 3 (some (.int ((j : Nat) : Int))))[0]? = rho[0]? := List.getElem?_set_ne (by decide)
    simp only [x_yes, if_true, x_call, x_cons, x_var, x_nil, x_op, x_c, e0, r0, List.getElem?_set_self h3, i2_]
    simp only [List.length_cons] at hl
    have hj0 := hj j List.mem_cons_self
    refine ⟨sc, 42 + j, by simp, by omega, fun s n hs => ?_⟩
    refine ⟨s, n, rfl, mget_top, fun r n' hr => ?_⟩
    rw [mput_top]
    refine ⟨by simp; omega, ?_⟩
    have := lc_ans h3 r0 js (acc ++ [r]) ((s, stO n') :: mu1) P ⟨sb.1.tail, fun a q => List.mem_cons_of_mem _ (sb.2 a q)⟩ (fun x hx => hj x (List.mem_cons_of_mem _ hx)) (by simp; omega) (fun x hx => by
      rcases List.mem_append.mp hx with q | q
      · exact ha x q
      · rw [List.mem_singleton.mp q]; exact hr) fun ns mu2 q0 q1 q2 => h ns mu2 q0 q1 (by simp at q2 ⊢; omega)
    rw [List.map_append] at this
    exact this
theorem body_law_input (CH CC : Addr) : ∀ mu es P, R_law_input mu es P → b_law_input CH CC R_law_source R_law_value_by R_law_take (endsG mu P) (startD N_law_input es) mu := by
  rintro mu es P ⟨sc, many, rfl, hm, hP⟩
  unfold b_law_input
  rw [x_seq]
  simp
  refine ⟨sc, 41, rfl, by decide, fun s n hs => ?_⟩
  unfold b_law_input_t1
  dsimp only
  rw [x_seq]
  simp
  refine ⟨by omega, ?_⟩
  have l1 := lc_nums (s := s) (mu := mu) (rho := [some (.fz sc), some (.int ((many : Nat) : Int)), some (.obj s), none, none, none]) rfl ((List.range many).map fun j => .int ((j : Nat) : Int)) [] n
  refine l1 _ (by simp; omega) (by simp) fun ns n1 h1 h2 => ?_
  simp at h2
  unfold b_law_input_t2
  try dsimp only
  rw [x_seq]
  simp
  refine take_ok mget_top (by decide) (by decide) fun r n2 a0 a1 => ?_
  rw [mput_top]
  refine ⟨⟨by omega, by omega⟩, ?_⟩
  have l2 := lc_ans (sc := sc) (mu := mu) (rho := [some (.fz sc), some (.int ((many : Nat) : Int)), some (.obj s), none, some (.lst (ns.map .int)), none]) (by simp) rfl (List.range r.toNat) [] ((s, stO n2) :: mu)
  refine l2 _ ⟨(Sub.refl mu).tail, fun a q => List.mem_cons_of_mem _ q⟩ (fun j hj => by simp at hj; omega) (by simp; omega) (by simp) fun as mu2 sb h3 h4 => ?_
  simp at h4
  unfold b_law_input_t3
  try dsimp only
  simp
  refine ⟨sc, 62, rfl, by decide, fun s2 n3 hs2 => ?_⟩
  simp
  exact ⟨(s2, stO n3) :: mu, sb.1.cons, hP ns as s2 n3 h1 h3 h2 (by omega) fun q => hs2 (sb.2 _ q)⟩
end DL
set_option maxHeartbeats 800000
/-! K54l: _law_any: what stands in the cells; the last part -/
namespace DL
open PySem PySem.Spec PyProof.Rows L2

theorem Sub.putr {mu2 mu1 : Mu} {a : Addr} {o : DO} (h : Sub mu2 mu1) (ha : a ∉ DL.dom mu2) : Sub mu2 (mput mu1 a o) where
  nd := fun n => by rw [dom_mput] at n; exact h.nd n
  get := fun n b u q => by
    rw [dom_mput] at n
    have hne : b ≠ a := fun e => ha (by rw [← e]; exact mget_dom q)
    rw [get_put_ne hne]
    exact h.get n b u q
structure Base (mu0 mu : Mu) (st : Addr) (cells : List Addr) : Prop where
  sub : Sub mu0 mu
  inc : ∀ a, a ∈ dom mu0 → a ∈ dom mu
  stn : ∃ n, mget mu st = some (stO n)
  cs : ∀ p ∈ cells, ∃ n, mget mu p = some (stO n)
  st0 : st ∉ dom mu0
  cs0 : ∀ p ∈ cells, p ∉ dom mu0 ∧ p ≠ st
section
variable {mu0 mu : Mu} {st : Addr} {cells : List Addr}
theorem Base.tick (b : Base mu0 mu st cells) (n : Int) : Base mu0 (mput mu st (stO n)) st cells where
  sub := b.sub.putr b.st0
  inc := fun a h => by rw [dom_mput]; exact b.inc a h
  stn := let ⟨_, h⟩ := b.stn; ⟨n, get_put_same h⟩
  cs := fun p hp => by rw [get_put_ne (b.cs0 p hp).2]; exact b.cs p hp
  st0 := b.st0
  cs0 := b.cs0
theorem Base.push (b : Base mu0 mu st cells) {p : Addr} {o : DO} (hp : p ∉ dom mu) : Base mu0 ((p, o) :: mu) st cells where
  sub := b.sub.tail
  inc := fun a h => List.mem_cons_of_mem _ (b.inc a h)
  stn := by
    obtain ⟨n, h⟩ := b.stn
    exact ⟨n, by rw [mget_next (fun e => hp (by rw [e]; exact mget_dom h))]; exact h⟩
  cs := fun q hq => by
    obtain ⟨n, h⟩ := b.cs q hq
    exact ⟨n, by rw [mget_next (fun e => hp (by rw [e]; exact mget_dom h))]; exact h⟩
  st0 := b.st0
  cs0 := b.cs0
/-- a further state cell -/
theorem Base.cell (b : Base mu0 mu st cells) {p : Addr} {n : Int} (hp : p ∉ dom mu) : Base mu0 ((p, stO n) :: mu) st (cells ++ [p]) where
  sub := (b.push hp).sub
  inc := (b.push (o := stO n) hp).inc
  stn := (b.push hp).stn
  cs := fun q hq => by
    rcases List.mem_append.mp hq with z | z
    · exact (b.push hp).cs q z
    · rw [List.mem_singleton.mp z]
      exact ⟨n, mget_top⟩
  st0 := b.st0
  cs0 := fun q hq => by
    rcases List.mem_append.mp hq with z | z
    · exact b.cs0 q z
    · rw [List.mem_singleton.mp z]
      obtain ⟨m, h⟩ := b.stn
      exact ⟨fun y => hp (b.inc p y), fun e => hp (by rw [e]; exact mget_dom h)⟩
theorem Base.stm {mu' : Mu} (b : Base mu0 mu st cells) (s : StM cells mu mu') : Base mu0 mu' st cells where
  sub := ⟨fun n => by rw [s.dm] at n; exact b.sub.nd n, fun n a o q => by
    rw [s.dm] at n
    rw [s.ot a (fun h => (b.cs0 a h).1 (mget_dom q))]
    exact b.sub.get n a o q⟩
  inc := fun a h => by rw [s.dm]; exact b.inc a h
  stn := by
    obtain ⟨n, h⟩ := b.stn
    exact ⟨n, by rw [s.ot st (fun h => (b.cs0 st h).2 rfl)]; exact h⟩
  cs := s.st
  st0 := b.st0
  cs0 := b.cs0
theorem Base.other (b : Base mu0 mu st cells) {a : Addr} {o : DO} (h0 : a ∉ dom mu0) (h1 : a ≠ st) (h2 : a ∉ cells) : Base mu0 (mput mu a o) st cells where
  sub := b.sub.putr h0
  inc := fun a h => by rw [dom_mput]; exact b.inc a h
  stn := by rw [get_put_ne (Ne.symm h1)]; exact b.stn
  cs := fun p hp => by
    have hne : p ≠ a := fun e => h2 (by rw [← e]; exact hp)
    rw [get_put_ne hne]
    exact b.cs p hp
  st0 := b.st0
  cs0 := b.cs0
theorem Base.cput (b : Base mu0 mu st cells) {p : Addr} (hp : p ∈ cells) (n : Int) : Base mu0 (mput mu p (stO n)) st cells := b.stm ((StM.refl b.cs).put hp n)
end
theorem mput_self : ∀ {mu : Mu} {a : Addr} {o : DO}, mget mu a = some o → mput mu a o = mu
  | [], a, o, h => by cases h
  | (b, u) :: r, a, o, h => by
    unfold mget at h
    unfold mput
    by_cases e : b = a
    · rw [if_pos e] at h ⊢
      cases h
      rfl
    · rw [if_neg e] at h ⊢
      rw [mput_self h]
theorem setG_self {s w : Addr} {W : WD} {n l : Int} {mu : Mu} (h1 : mget mu s = some (stO n)) (h2 : mget mu w = some (worldO W l)) : setG s w W n l mu = mu := by
  unfold setG
  rw [mput_self h1, mput_self h2]
/-- the item of a head, its body perhaps one node larger -/
def ItemFin (hs : List Head) (L : Int) : Head → Item → Prop
  | .fn n ps b, .fn F => F.name = n ∧ F.params = ps ∧ F.block = b ∧ WT hs false true ps b F.body ∧ (inn F.body : Int) ≤ L + 1
  | .hand n, .hand H => H.name = n ∧ (∀ c ∈ H.clauses, WT hs true true [c.x, c.s] none c.body ∧ (inn c.body : Int) ≤ L + 4) ∧ WT hs false false [H.x, H.s] none H.fin ∧ (inn H.fin : Int) ≤ L
  | _, _ => False
theorem ItemOk.fin {hs : List Head} {L : Int} : ∀ {h : Head} {it : Item}, ItemOk hs L h it → ItemFin hs L h it
  | .fn n ps b, .fn F, q => ⟨q.1, q.2.1, q.2.2.1, q.2.2.2.1, by have := q.2.2.2.2; omega⟩
  | .hand n, .hand H, q => q
  | .fn _ _ _, .hand _, q => q.elim
  | .hand _, .fn _, q => q.elim
/-- what the law's programs keep: hs in the order of making, items theirs; the program is the items, turned -/
structure GenOk (p : Prog) (hs : List Head) (items : List Item) (L : Int) (turn : Nat) : Prop where
  heads : HeadsOk (hs.map Head.name) hs
  names : (hs.map Head.name).Nodup
  len : items.length = hs.length
  at_ : ∀ (k : Nat) h it, hs[k]? = some h → items[k]? = some it → ItemFin hs L h it
  eq : p = items.drop turn ++ items.take turn
  le : L = 1 + 120 / ((hs.length : Nat) : Int)
  many : hs.length ≤ 40
def R_law_any : DR := fun mu ds P => ∃ (sc : List Int), ds = [.fz sc, .int 40, .bl false] ∧ ∀ p hs items L turn f ps, GenOk p hs items L turn → Head.fn f ps none ∈ hs → P (.lst [progD p, .str f, .int ((ps.length : Nat) : Int)]) mu
end DL
set_option maxHeartbeats 800000
/-! K54m: _law_any, its last part -/
namespace DL
open PySem PySem.Spec PyProof.Rows L2

def isFree : Head → Bool
  | .fn _ _ none => true
  | _ => false
theorem lc_frees {i : Nat} {rho : Rho} {mu : Mu} (hi : i < rho.length) : ∀ (hs : List Head) (acc : List D) (P : PD), acc.length + hs.length ≤ 1000 → P (.lst (acc ++ (hs.filter isFree).map headD)) mu →
    dLcL i (dAnd (dTest (dOp (deq) (dOp dix (dVar i) (dC (.int 0))) (dC (.str "def")))) (dTest (dOp (disN) (dOp dix (dVar i) (dC (.int 3))) (dC .non)))) (dVar i) (hs.map headD) acc rho mu P
  | [], acc, P, hl, h => by simpa [dLcL] using h
  | x :: hs, acc, P, hl, h => by
    rw [List.map_cons, dLcL]
    simp only [x_and, x_test, x_op, x_var, x_c, List.getElem?_set_self hi]
    simp only [List.length_cons] at hl
    have ih := lc_frees (mu := mu) hi hs
    cases x with
    | hand n =>
      simp [headD]
      exact ih _ P (by omega) (by simpa [isFree, List.filter_cons] using h)
    | fn n ps b =>
      cases b with
      | none =>
        simp [headD]
        refine ⟨by omega, ih _ P (by simp; omega) ?_⟩
        simpa [isFree, List.filter_cons, headD] using h
      | some b =>
        simp [headD]
        exact ih _ P (by omega) (by simpa [isFree, List.filter_cons] using h)
theorem eqv_head {a b : Head} (h : PyData.eqv (pyd (headD a)) (pyd (headD b)) = true) : a.name = b.name := by
  cases a <;> cases b <;> simp [headD, pyd, pyds, PyData.eqv, PyData.eqvAll] at h
  · exact h.1
  · exact h
theorem good_optS {b : Option Str} (h : ∀ x, b = some x → strGood x) : GoodD (optS b) 0 := by
  cases b with
  | none => exact ⟨by simp [plain], by simp [pyd, PyData.canLay0], by simp [pyd, PyData.depth]⟩
  | some x => exact good_str (h x rfl) 0
theorem good_head {h : Head} (g : headGood h) : GoodD (headD h) 2 := by
  cases h with
  | hand n =>
    refine good_tup (k := 1) fun x hx => ?_
    simp at hx
    rcases hx with rfl | rfl
    · exact good_str (lit_good "handler" (by decide +kernel)) 1
    · exact good_str g 1
  | fn n ps b =>
    obtain ⟨g1, g2, g3⟩ := g
    refine good_tup (k := 1) fun x hx => ?_
    simp at hx
    rcases hx with rfl | rfl | rfl | rfl
    · exact good_str (lit_good "def" (by decide +kernel)) 1
    · exact good_str g1 1
    · exact good_tup (k := 0) fun y hy => by
        obtain ⟨z, hz, rfl⟩ := List.mem_map.mp hy
        exact good_str (g2 z hz) 0
    · obtain ⟨a, b, c⟩ := good_optS g3
      exact ⟨a, b, by omega⟩
theorem pyds_get : ∀ {ds : List D} {i : Nat} {z : PyData}, (pyds ds)[i]? = some z ↔ ∃ d, ds[i]? = some d ∧ z = pyd d
  | [], i, z => by simp [pyds]
  | d :: ds, 0, z => by
    simp [pyds]
    exact ⟨fun h => h.symm, fun h => h.symm⟩
  | d :: ds, i + 1, z => by
    simp [pyds]
    exact pyds_get
theorem nodup_get {α : Type} : ∀ {l : List α} {i j : Nat} {x : α}, l.Nodup → l[i]? = some x → l[j]? = some x → i = j
  | [], i, j, x, nd, h1, h2 => by simp at h1
  | a :: l, 0, 0, x, nd, h1, h2 => rfl
  | a :: l, 0, j + 1, x, nd, h1, h2 => by
    simp at h1 h2
    subst h1
    exact absurd (List.mem_of_getElem? h2) (List.nodup_cons.mp nd).1
  | a :: l, i + 1, 0, x, nd, h1, h2 => by
    simp at h1 h2
    subst h2
    exact absurd (List.mem_of_getElem? h1) (List.nodup_cons.mp nd).1
  | a :: l, i + 1, j + 1, x, nd, h1, h2 => by
    simp at h1 h2
    rw [nodup_get (List.nodup_cons.mp nd).2 h1 h2]
theorem name_inj {hs : List Head} (nd : (hs.map Head.name).Nodup) {i j : Nat} {a b : Head} (h1 : hs[i]? = some a) (h2 : hs[j]? = some b) (h : a.name = b.name) : i = j := by
  have e1 : (hs.map Head.name)[i]? = some a.name := by rw [List.getElem?_map, h1]; rfl
  have e2 : (hs.map Head.name)[j]? = some a.name := by rw [List.getElem?_map, h2, h]; rfl
  exact nodup_get nd e1 e2
/-- the last part: which function is run, perhaps under a handler; the items turned -/
theorem any18 (CH CC : Addr) (R1 R2 R3 R4 : DR) {mu0 mu : Mu} {P : PD} {st it : Addr} {cells : List Addr} (bs : Base mu0 mu st cells) (items : List Item) (hs : List Head) (L : Int) (f : Str) (ps : List Str) (o0 o1 o2 o5 o6 o7 o8 o9 o11 o12 o14 o15 o16 : Option D)
    (hit : mget mu it = some (.lst (items.map itemD))) (hst : it ≠ st) (hlen : items.length ≤ 40) (hpos : 0 < items.length)
    (hP : ∀ turn, P (.lst [progD (items.drop turn ++ items.take turn), .str f, .int ((ps.length : Nat) : Int)]) mu0) :
    b_law_any_t18 CH CC R1 R_law_take R2 R3 R4 (endsG mu0 P) [o0, o1, o2, some (.obj st), some (.int ((items.length : Nat) : Int)), o5, o6, o7, o8, o9, some (.obj it), o11, o12, some (headD (.fn f ps none)), o14, o15, o16, none] mu := by
  obtain ⟨n, hn⟩ := bs.stn
  unfold b_law_any_t18
  rw [x_seq]
  simp
  refine take_ok hn (by omega) (by omega) fun r n' r0 r1 => ?_
  have hit' : mget (mput mu st (stO n')) it = some (.lst (items.map itemD)) := by rw [get_put_ne hst]; exact hit
  obtain ⟨k, rfl⟩ : ∃ k : Nat, r = k := ⟨r.toNat, by omega⟩
  have hk : k < items.length := by omega
  have c1 : dcut (items.map itemD) (some ((k : Nat) : Int)) none = (items.drop k).map itemD := by
    unfold dcut
    rw [HT.sIx_nat, HT.sIx_none, List.length_map, Nat.min_eq_left (by omega), List.map_drop]
    rw [List.take_of_length_le (by simp)]
  have c2 : dcut (items.map itemD) none (some ((k : Nat) : Int)) = (items.take k).map itemD := by
    unfold dcut
    rw [HT.sIx_nat, HT.sIx_none, List.length_map, Nat.min_eq_left (by omega), List.drop_zero, Nat.sub_zero, List.map_take]
  unfold b_law_any_t19
  simp [lv_cell hit', c1, c2, dcatL, drTuple, headD, drLen, -List.map_drop, -List.map_take]
  refine ⟨by omega, mu0, (bs.tick n').sub, ?_⟩
  have := hP k
  simpa [progD, List.map_append, -List.map_drop, -List.map_take] using this
end DL
set_option maxHeartbeats 800000
/-! K54n: _law_any, from the chosen function on -/
namespace DL
open PySem PySem.Spec PyProof.Rows L2

theorem dcut4 (a b c d e : D) : dcut [a, b, c, d, e] none (some 4) = [a, b, c, d] := by
  have h := HT.sIx_nat
  unfold dcut
  have e1 : HT.sIx [a, b, c, d, e].length 0 none = 0 := rfl
  have e2 : HT.sIx [a, b, c, d, e].length [a, b, c, d, e].length (some 4) = 4 := rfl
  rw [e1, e2]
  rfl
/-- the items, or the k-th with its body under a handler -/
def Alt (hs : List Head) (items : List Item) (k : Nat) (F : Fn) (items' : List Item) : Prop := items' = items ∨ ∃ h n, Head.hand h ∈ hs ∧ 0 ≤ n ∧ n < 9 ∧ items' = items.set k (.fn { F with body := .handle h (.num n) F.body })
theorem mem_handOf {hs : List Head} {x : Str} (h : x ∈ hs.filterMap handOf) : Head.hand x ∈ hs := by
  obtain ⟨y, hy, e⟩ := List.mem_filterMap.mp h
  cases y with
  | fn _ _ _ => cases e
  | hand n =>
    simp only [handOf, Option.some.injEq] at e
    rw [← e]
    exact hy
theorem any17 (CH CC : Addr) (R1 R2 R3 R4 : DR) {mu0 mu : Mu} {P : PD} {st it : Addr} {cells : List Addr} (bs : Base mu0 mu st cells) (items : List Item) (hs : List Head) (f : Str) (ps : List Str) (k : Nat) (F : Fn) (o0 o1 o2 o5 o6 o7 o8 o9 o11 o12 : Option D)
    (hit : mget mu it = some (.lst (items.map itemD))) (hst : it ≠ st) (hit0 : it ∉ dom mu0) (hitc : it ∉ cells) (hlen : items.length ≤ 40) (hk : items[k]? = some (.fn F)) (hhs : hs.length ≤ 40)
    (hP : ∀ items' turn, Alt hs items k F items' → P (.lst [progD (items'.drop turn ++ items'.take turn), .str f, .int ((ps.length : Nat) : Int)]) mu0) :
    b_law_any_t17 CH CC R1 R_law_take R2 R3 R4 (endsG mu0 P) [o0, o1, o2, some (.obj st), some (.int ((items.length : Nat) : Int)), o5, o6, o7, o8, o9, some (.obj it), o11, o12, some (headD (.fn f ps none)), some (.lst ((hs.filterMap handOf).map .str)), some (.int ((k : Nat) : Int)), none, none] mu := by
  have hkl : k < items.length := (List.getElem?_eq_some_iff.mp hk).1
  have e18 : ∀ mu', Base mu0 mu' st cells → mget mu' it = some (.lst (items.map itemD)) → b_law_any_t18 CH CC R1 R_law_take R2 R3 R4 (endsG mu0 P) [o0, o1, o2, some (.obj st), some (.int ((items.length : Nat) : Int)), o5, o6, o7, o8, o9, some (.obj it), o11, o12, some (headD (.fn f ps none)), some (.lst ((hs.filterMap handOf).map .str)), some (.int ((k : Nat) : Int)), none, none] mu' := fun mu' b h =>
    any18 CH CC R1 R2 R3 R4 b items hs 0 f ps _ _ _ _ _ _ _ _ _ _ _ _ _ h hst hlen (by omega) fun turn => hP items turn (.inl rfl)
  obtain ⟨n, hn⟩ := bs.stn
  unfold b_law_any_t17
  rw [x_seq, x_if]
  obtain ⟨sd, hsd⟩ : ∃ sd, sd = hs.filterMap handOf := ⟨_, rfl⟩
  have hsl : sd.length ≤ 40 := by rw [hsd]; exact Nat.le_trans (List.length_filterMap_le _ _) hhs
  have hsm : ∀ x ∈ sd, Head.hand x ∈ hs := fun x hx => mem_handOf (by rw [← hsd]; exact hx)
  rw [← hsd] at e18 ⊢
  cases sd with
  | nil =>
    simp [dneNil, -x_seq]
    exact e18 mu bs hit
  | cons x sd =>
    simp only [x_and, x_test, x_op, x_var, x_lst, x_nil, List.getElem?_cons_zero, List.getElem?_cons_succ, dneNil, lv_lst, List.map_cons, List.isEmpty_cons, Bool.not_false, if_true, x_call, x_cons, x_c, List.length_nil]
    refine ⟨by omega, take_ok hn (by decide) (by decide) fun r n1 r0 r1 => ?_⟩
    have hit1 : ∀ m, mget (mput mu st (stO m)) it = some (.lst (items.map itemD)) := fun m => by rw [get_put_ne hst]; exact hit
    simp only [i2_]
    by_cases e : (0 : Int) < r
    · simp only [decide_eq_true e, if_true]
      rw [x_seq, x_asg]
      simp only [x_tup, x_cons, x_op, x_call, x_var, x_c, x_cb, x_nil, List.getElem?_cons_zero, List.getElem?_cons_succ]
      simp [drLen, -x_seq]
      refine take_ok (mget_st hn) (by omega) (by simp at hsl; omega) fun r2 n2 a0 a1 => ?_
      rw [put_put]
      obtain ⟨y, hy, ey⟩ := atI_map (f := D.str) (l := x :: sd) (r := r2) a0 (by simp; omega)
      rw [List.map_cons] at ey
      simp [ey, -x_seq]
      refine take_ok (mget_st hn) (by omega) (by omega) fun r3 n3 b0 b1 => ?_
      rw [put_put]
      have ek : atI (items.map itemD) ((k : Nat) : Int) = some (fnD F) := by rw [atI_nat, List.getElem?_map, hk]; rfl
      have ik : ixN (items.map itemD).length ((k : Nat) : Int) = some k := by
        unfold ixN
        rw [if_pos (by omega), if_pos (by simp; omega)]
        simp
      have e4 : ∀ a b c d e : D, atI [a, b, c, d, e] 4 = some e := fun _ _ _ _ _ => rfl
      simp only [sqv_cell (hit1 n3), ek, fnD, dix_tup, e4, lv_tup, tv_tup, dcut4, dcatT, hit1 n3, ik, List.length_cons, List.length_nil]
      refine ⟨by decide, ?_⟩
      have e19 : (items.map itemD).set k (.tup ([D.str "def", .str F.name, .tup (F.params.map .str), optS F.block] ++ [.tup [.str "handle", .str y, .tup [.str "num", .int r3], treeD F.body]])) = (items.set k (.fn { F with body := .handle y (.num r3) F.body })).map itemD := by
        rw [List.map_set]
        simp [itemD, fnD, treeD]
      rw [e19]
      have := any18 CH CC R1 R2 R3 R4 (mu := mput (mput mu st (stO n3)) it (.lst ((items.set k (.fn { F with body := .handle y (.num r3) F.body })).map itemD))) (P := P) ((bs.tick n3).other hit0 hst hitc) (items.set k (.fn { F with body := .handle y (.num r3) F.body })) hs 0 f ps o0 o1 o2 o5 o6 o7 o8 o9 o11 o12 (some (.lst ((x :: sd).map .str))) (some (.int ((k : Nat) : Int))) (some (.tup [.str "handle", .str y, .tup [.str "num", .int r3], treeD F.body])) (get_put_same (hit1 n3)) hst (by simpa using hlen) (by simp; omega) fun turn => hP _ turn (.inr ⟨y, r3, hsm y hy, b0, b1, rfl⟩)
      simpa using this
    · simp only [decide_eq_false e, Bool.false_eq_true, if_false, x_next]
      exact e18 _ (bs.tick n1) (hit1 n1)
end DL
set_option maxHeartbeats 800000
/-! K54o: _law_any: the chosen function -/
namespace DL
open PySem PySem.Spec PyProof.Rows L2

theorem isFree_mem {h : Head} (e : isFree h = true) : ∃ f ps, h = .fn f ps none := by
  cases h with
  | hand n => cases e
  | fn n ps b =>
    cases b with
    | none => exact ⟨n, ps, rfl⟩
    | some y => cases e
theorem any13 (CH CC : Addr) (R1 R2 R3 R4 : DR) {mu0 mu : Mu} {P : PD} {st it w : Addr} {cells : List Addr} (bs : Base mu0 mu st cells) (items : List Item) (W : WD) (l L : Int) (hs : List Head) (o0 o1 o2 o5 o6 o7 o8 o11 : Option D)
    (hit : mget mu it = some (.lst (items.map itemD))) (hst : it ≠ st) (hit0 : it ∉ dom mu0) (hitc : it ∉ cells) (hwo : mget mu w = some (worldO W l)) (hws : w ≠ st) (hhs : W.heads = hs) (hk : HeadsOk (hs.map Head.name) hs) (nd : (hs.map Head.name).Nodup) (hl : hs.length ≤ 40)
    (hlen : items.length = hs.length) (hat : ∀ (k : Nat) h i, hs[k]? = some h → items[k]? = some i → ItemOk hs L h i)
    (hP : ∀ (items' : List Item) (turn : Nat) f ps, Head.fn f ps none ∈ hs → items'.length = hs.length → (∀ (k : Nat) h i, hs[k]? = some h → items'[k]? = some i → ItemFin hs L h i) → P (.lst [progD (items'.drop turn ++ items'.take turn), .str f, .int ((ps.length : Nat) : Int)]) mu0) :
    b_law_any_t13 CH CC R1 R_law_take R2 R3 R4 (endsG mu0 P) [o0, o1, o2, some (.obj st), some (.int ((items.length : Nat) : Int)), o5, o6, o7, o8, some (.obj w), some (.obj it), o11, none, none, none, none, none, none] mu := by
  obtain ⟨n, hn⟩ := bs.stn
  unfold b_law_any_t13
  rw [x_seq, x_asg, x_lc]
  simp only [x_list, x_dget, x_var, x_c, List.getElem?_cons_zero, List.getElem?_cons_succ, hwo, worldO, flkW_heads, hhs]
  refine lc_frees (by simp) hs [] _ (by simp; omega) ?_
  simp only [List.nil_append]
  obtain ⟨fr, hfr⟩ : ∃ fr, fr = hs.filter isFree := ⟨_, rfl⟩
  rw [← hfr]
  have hfl : 0 < fr.length := by
    obtain ⟨n, ps, r, e⟩ := hk.first
    rw [hfr, e]
    simp [isFree, List.filter_cons]
  have hfl2 : fr.length ≤ 40 := by rw [hfr]; exact Nat.le_trans (List.length_filter_le _ _) hl
  have hfm : ∀ x ∈ fr, x ∈ hs ∧ isFree x = true := fun x hx => by rw [hfr] at hx; exact List.mem_filter.mp hx
  unfold b_law_any_t14
  rw [x_seq, x_asg]
  simp only [x_op, x_var, x_call, x_cons, x_cb, x_nil, List.set_cons_succ, List.set_cons_zero, List.getElem?_cons_zero, List.getElem?_cons_succ, drLen, lv_lst, tv_lst, sqv_lst, List.length_map]
  refine take_ok hn (by omega) (by omega) fun r n1 r0 r1 => ?_
  obtain ⟨ch, hch, ech⟩ := atI_map (f := headD) (l := fr) (r := r) r0 r1
  simp only [dix_lst, ech, List.set_cons_succ, List.set_cons_zero]
  obtain ⟨hchm, hchf⟩ := hfm ch hch
  obtain ⟨f, ps, rfl⟩ := isFree_mem hchf
  have bs1 := bs.tick n1
  have hw1 : mget (mput mu st (stO n1)) w = some (worldO W l) := by rw [get_put_ne hws]; exact hwo
  have hit1 : mget (mput mu st (stO n1)) it = some (.lst (items.map itemD)) := by rw [get_put_ne hst]; exact hit
  unfold b_law_any_t15
  rw [x_seq, x_asg, x_lc]
  simp only [x_list, x_dget, x_var, x_c, List.getElem?_cons_zero, List.getElem?_cons_succ, hw1, worldO, flkW_heads, hhs]
  refine lc_stood (by simp) hs [] _ (by simp; omega) ?_
  simp only [List.nil_append, List.set_cons_succ, List.set_cons_zero]
  unfold b_law_any_t16
  rw [x_seq, x_asg]
  simp only [x_index, x_dget, x_var, x_c, List.getElem?_cons_zero, List.getElem?_cons_succ, hw1, worldO, flkW_heads, hhs]
  obtain ⟨k, hkk⟩ := List.getElem?_of_mem hchm
  have hkl := (List.getElem?_eq_some_iff.mp hkk).1
  have good : ∀ h ∈ hs, GoodD (headD h) 2 := fun h hh => good_head (hk.good h hh)
  have gl : GoodD (.lst (hs.map headD)) 3 := good_lst (k := 2) fun d hd => by
    obtain ⟨h, hh, rfl⟩ := List.mem_map.mp hd
    exact good h hh
  have gc := good _ hchm
  refine ⟨k, pyd (headD (.fn f ps none)), ⟨by simpa [plain] using gl.p, gc.p, by simpa [pyd] using gl.shaped (by decide), gc.shaped (by decide)⟩, pyds_get.mpr ⟨_, by rw [List.getElem?_map, hkk]; rfl, rfl⟩, SeqAt.eqv_refl _ gc.l, fun m z' hm hz => ?_, ?_⟩
  · obtain ⟨d, hd, rfl⟩ := pyds_get.mp hz
    rw [List.getElem?_map] at hd
    cases e : hs[m]? with
    | none => rw [e] at hd; cases hd
    | some x =>
      rw [e] at hd
      cases hd
      cases e2 : PyData.eqv (pyd (headD x)) (pyd (headD (.fn f ps none))) with
      | false => rfl
      | true => exact absurd (name_inj nd e hkk (eqv_head e2)) (by omega)
  · simp only [List.set_cons_succ, List.set_cons_zero]
    have hik : items[k]? = some (items[k]'(by omega)) := List.getElem?_eq_getElem (by omega)
    have ok := hat k _ _ hkk hik
    cases ei : items[k]'(by omega) with
    | hand H => rw [ei] at ok; exact ok.elim
    | fn F =>
      rw [ei] at ok hik
      simp only [ItemOk] at ok
      obtain ⟨a1, a2, a3, a4, a5⟩ := ok
      refine any17 CH CC R1 R2 R3 R4 bs1 items hs f ps k F _ _ _ _ _ _ _ _ _ _ hit1 hst hit0 hitc (by omega) hik hl fun items' turn alt => ?_
      rcases alt with rfl | ⟨h, m, b1, b2, b3, rfl⟩
      · exact hP _ turn f ps hchm hlen fun k h i e1 e2 => (hat k h i e1 e2).fin
      · refine hP _ turn f ps hchm (by simpa using hlen) fun j h' i e1 e2 => ?_
        by_cases hj : j = k
        · subst hj
          rw [hkk] at e1
          cases e1
          rw [List.getElem?_set_self (by omega)] at e2
          cases e2
          refine ⟨a1, a2, a3, ?_, ?_⟩
          · simp only [WT]
            refine ⟨True.intro, b1, by omega, a4⟩
          · simp only [inn]
            omega
        · rw [List.getElem?_set_ne (Ne.symm hj)] at e2
          exact (hat j h' i e1 e2).fin
end DL
set_option maxHeartbeats 800000
/-! K54p: _law_any: the loop over the items -/
namespace DL
open PySem PySem.Spec PyProof.Rows L2

theorem left_put (W : WD) (l l' : Int) : DO.dic (nput "left" wkeys) (vput "left" (.int l') wkeys [.lst (W.words.map .str), .lst (W.deeds.map .str), .lst (W.heads.map headD), .int l, .int W.few, .int W.deep, .bl W.calm]) = worldO W l' := by simp [nput, vput, worldO]
theorem loop_any3 (CH CC : Addr) (R1 R2 R3 R4 : DR) (j : Nat) {mu0 : Mu} {st it w : Addr} {cells : List Addr} (W : WD) (L : Int) (wo : WOk W) (dk : DOk W j) (o0 o1 o2 o5 o8 : Option D) (Z : DEnds)
    (hst : it ≠ st) (hit0 : it ∉ dom mu0) (hitc : it ∉ cells) (hws : w ≠ st) (hw0 : w ∉ dom mu0) (hwc : w ∉ cells) (hwi : w ≠ it) (hL : L = 1 + 120 / ((W.heads.length : Nat) : Int)) (hc : cells.length = W.heads.length) (h0 : 0 < W.heads.length) (hl : W.heads.length ≤ 40)
    (fr : ∀ n ps b, Head.fn n ps b ∈ W.heads → Free W b)
    (hZ : ∀ (items : List Item) (l : Int) (mu : Mu) o6, items.length = W.heads.length → (∀ (k : Nat) h i, W.heads[k]? = some h → items[k]? = some i → ItemOk W.heads L h i) → Base mu0 mu st cells → mget mu w = some (worldO W l) → mget mu it = some (.lst (items.map itemD)) →
      Z.nx [o0, o1, o2, some (.obj st), some (.int ((W.heads.length : Nat) : Int)), o5, o6, some (.lst (cells.map .obj)), o8, some (.obj w), some (.obj it), none, none, none, none, none, none, none] mu) :
    ∀ (m k : Nat) (items : List Item) (l : Int) (mu : Mu) (o6 : Option D), m + k = W.heads.length → items.length = k → (∀ (k : Nat) h i, W.heads[k]? = some h → items[k]? = some i → ItemOk W.heads L h i) → Base mu0 mu st cells → mget mu w = some (worldO W l) → mget mu it = some (.lst (items.map itemD)) →
      dFor 6 (b_law_any_L3 CH CC R1 R2 R3 R4 (R_item j)) (((List.range W.heads.length).drop k).map fun j => .int ((j : Nat) : Int)) Z [o0, o1, o2, some (.obj st), some (.int ((W.heads.length : Nat) : Int)), o5, o6, some (.lst (cells.map .obj)), o8, some (.obj w), some (.obj it), none, none, none, none, none, none, none] mu
  | 0, k, items, l, mu, o6, hm, h1, h2, bs, hwo, hit => by
    have e : k = W.heads.length := by omega
    subst e
    rw [List.drop_eq_nil_of_le (by simp)]
    exact hZ items l mu o6 h1 h2 bs hwo hit
  | m + 1, k, items, l, mu, o6, hm, h1, h2, bs, hwo, hit => by
    have hlt : k < (List.range W.heads.length).length := by simp; omega
    have hk : k < W.heads.length := by omega
    have hkc : k < cells.length := by omega
    rw [List.drop_eq_getElem_cons hlt, List.map_cons, x_for1]
    have e1 : (List.range W.heads.length)[k] = k := by simp
    rw [e1]
    have ec : atI (cells.map D.obj) ((k : Nat) : Int) = some (.obj cells[k]) := by rw [atI_nat, List.getElem?_map, List.getElem?_eq_getElem hkc]; rfl
    have eh : atI (W.heads.map headD) ((k : Nat) : Int) = some (headD W.heads[k]) := by rw [atI_nat, List.getElem?_map, List.getElem?_eq_getElem hk]; rfl
    have hcm : cells[k] ∈ cells := List.getElem_mem hkc
    have hhm : W.heads[k] ∈ W.heads := List.getElem_mem hk
    have hwo' : mget mu w = some (.dic wkeys [.lst (W.words.map .str), .lst (W.deeds.map .str), .lst (W.heads.map headD), .int l, .int W.few, .int W.deep, .bl W.calm]) := hwo
    unfold b_law_any_L3
    rw [x_seq, x_dput]
    simp only [x_op, x_var, x_c, List.set_cons_succ, List.set_cons_zero, List.getElem?_cons_zero, List.getElem?_cons_succ, i2c_, i2_, hwo', left_put]
    refine ⟨divOk (by omega) (by omega), by simp, ?_⟩
    rw [← hL]
    have bs1 : Base mu0 (mput mu w (worldO W L)) st cells := bs.other hw0 hws hwc
    obtain ⟨n, hn⟩ := bs1.cs _ hcm
    have hw1 : mget (mput mu w (worldO W L)) w = some (worldO W L) := get_put_same hwo
    have hw1' : mget (mput mu w (worldO W L)) w = some (.dic wkeys [.lst (W.words.map .str), .lst (W.deeds.map .str), .lst (W.heads.map headD), .int L, .int W.few, .int W.deep, .bl W.calm]) := hw1
    have hit1 : mget (mput mu w (worldO W L)) it = some (.lst (items.map itemD)) := by rw [get_put_ne (Ne.symm hwi)]; exact hit
    have hpw : cells[k] ≠ w := fun e => hwc (by rw [← e]; exact hcm)
    rw [x_drop, x_app]
    simp only [x_op, x_var, x_c, x_call, x_cons, x_nil, x_dget, List.getElem?_cons_zero, List.getElem?_cons_succ, dix_lst, ec, hw1', flkW_heads, eh]
    refine ⟨⟨_, hit1⟩, cells[k], w, W, n, L, _, W.heads[k], (setG_self hn hw1).symm, ⟨mget_dom hn, mget_dom hw1, hpw⟩, wo, dk, rfl, hhm, fun n ps b e => fr n ps b (by rw [← e]; exact hhm), by rw [hL]; have : 0 ≤ (120 : Int) / ((W.heads.length : Nat) : Int) := Int.ediv_nonneg (by omega) (by omega); omega, fun x n' l' hx => ?_⟩
    obtain ⟨mu2, hmu2⟩ : ∃ mu2, mu2 = setG cells[k] w W n' l' (mput mu w (worldO W L)) := ⟨_, rfl⟩
    have bs2 : Base mu0 mu2 st cells := by
      rw [hmu2]
      exact (bs1.cput hcm n').other hw0 hws hwc
    have gi : GIn cells[k] w (mput mu w (worldO W L)) := ⟨mget_dom hn, mget_dom hw1, hpw⟩
    have hw2 : mget mu2 w = some (worldO W l') := by rw [hmu2]; exact getG_w gi
    have hit2 : mget mu2 it = some (.lst (items.map itemD)) := by
      rw [hmu2]
      unfold setG
      rw [get_put_ne (Ne.symm hwi), get_put_ne (fun e => hitc (by rw [e]; exact hcm))]
      exact hit1
    rw [← hmu2]
    simp only [hit2, List.length_map]
    refine ⟨by omega, ?_⟩
    have hnew : mget (mput mu2 it (.lst (items.map itemD ++ [itemD x]))) it = some (.lst ((items ++ [x]).map itemD)) := by
      rw [get_put_same hit2, List.map_append]
      rfl
    refine loop_any3 CH CC R1 R2 R3 R4 j W L wo dk o0 o1 o2 o5 o8 Z hst hit0 hitc hws hw0 hwc hwi hL hc h0 hl fr hZ m (k + 1) (items ++ [x]) l' _ _ (by omega) (by simp [h1]) (fun i h y e2 e3 => ?_) (bs2.other hit0 hst hitc) (by rw [get_put_ne hwi]; exact hw2) hnew
    by_cases hi : i < items.length
    · rw [List.getElem?_append_left hi] at e3
      exact h2 i h y e2 e3
    · have : i = items.length := by
        have := (List.getElem?_eq_some_iff.mp e3).1
        simp at this
        omega
      rw [List.getElem?_append_right (by omega), this] at e3
      simp at e3
      subst e3
      rw [this, h1, List.getElem?_eq_getElem hk] at e2
      cases e2
      exact hx
end DL
set_option maxHeartbeats 800000
/-! K54q: _law_any: the world -/
namespace DL
open PySem PySem.Spec PyProof.Rows L2

/-- what is asked of the law's programs' users -/
def AnyP (P : PD) (mu0 : Mu) : Prop := ∀ p hs items L turn f ps, GenOk p hs items L turn → Head.fn f ps none ∈ hs → P (.lst [progD p, .str f, .int ((ps.length : Nat) : Int)]) mu0
theorem any11 (CH CC : Addr) (R1 R2 R3 R4 : DR) (j : Nat) {mu0 mu : Mu} {P : PD} {st w : Addr} {cells : List Addr} (bs : Base mu0 mu st cells) (W : WD) (l : Int) (wo : WOk W) (dk : DOk W j) (o0 o1 o2 o5 o6 o8 : Option D)
    (hwo : mget mu w = some (worldO W l)) (hws : w ≠ st) (hw0 : w ∉ dom mu0) (hwc : w ∉ cells) (hk : HeadsOk (W.heads.map Head.name) W.heads) (nd : (W.heads.map Head.name).Nodup) (hl : W.heads.length ≤ 40) (hc : cells.length = W.heads.length) (hP : AnyP P mu0) :
    b_law_any_t11 CH CC R1 R_law_take R3 R4 (R_item j) (endsG mu0 P) [o0, o1, o2, some (.obj st), some (.int ((W.heads.length : Nat) : Int)), o5, o6, some (.lst (cells.map .obj)), o8, some (.obj w), none, none, none, none, none, none, none, none] mu := by
  have h0 : 0 < W.heads.length := by
    obtain ⟨n, ps, r, e⟩ := hk.first
    rw [e]; simp
  unfold b_law_any_t11
  rw [x_seq, x_asg]
  simp only [x_lstM, x_nil, List.length_nil, List.set_cons_succ, List.set_cons_zero]
  refine ⟨by omega, fun it hit => ?_⟩
  unfold b_law_any_t12
  rw [x_seq, x_fori]
  simp only [x_range, x_var, List.getElem?_cons_zero, List.getElem?_cons_succ]
  refine ⟨by omega, ?_⟩
  have hst : it ≠ st := fun e => by
    obtain ⟨n, hn⟩ := bs.stn
    exact hit (by rw [e]; exact mget_dom hn)
  have hit0 : it ∉ dom mu0 := fun e => hit (bs.inc _ e)
  have hitc : it ∉ cells := fun e => by
    obtain ⟨n, hn⟩ := bs.cs _ e
    exact hit (mget_dom hn)
  have hwi : w ≠ it := fun e => hit (by rw [← e]; exact mget_dom hwo)
  have := loop_any3 CH CC R1 R_law_take R3 R4 j (mu0 := mu0) (st := st) (it := it) (w := w) (cells := cells) W (1 + 120 / ((W.heads.length : Nat) : Int)) wo dk o0 o1 o2 o5 o8 { (endsG mu0 P) with nx := b_law_any_t13 CH CC R1 R_law_take R3 R4 (R_item j) (endsG mu0 P) } hst hit0 hitc hws hw0 hwc hwi rfl hc h0 hl (fun n ps b hb => fun y e h hh => by
      subst e
      exact fun q => hk.free n ps y hb (by rw [← q]; exact List.mem_map_of_mem hh)) (fun items l' mu' o6 h1 h2 b2 h3 h4 => ?_) W.heads.length 0 [] l ((it, .lst []) :: mu) o6 rfl rfl (fun k h i e1 e2 => by simp at e2) (bs.push hit) (by rw [mget_next (Ne.symm hwi)]; exact hwo) mget_top
  · simpa using this
  · dsimp only
    rw [← h1]
    refine any13 CH CC R1 R3 R4 (R_item j) b2 items W l' (1 + 120 / ((W.heads.length : Nat) : Int)) W.heads _ _ _ _ _ _ _ _ h4 hst hit0 hitc h3 hws rfl hk nd hl h1 h2 fun items' turn f ps a1 a2 a3 => ?_
    exact hP _ W.heads items' _ turn f ps ⟨hk, nd, a2, a3, rfl, rfl, hl⟩ a1
theorem kmerge2 (a b c d e x y : D) : kmerge ["words", "deeds", "heads", "left", "few"] [a, b, c, d, e] ["deep", "calm"] [x, y] = (wkeys, [a, b, c, d, e, x, y]) := by simp [kmerge, nput, vput]
abbrev w5 : List Str := ["words", "deeds", "heads", "left", "few"]
theorem kmerge3 (a b c d e x y : D) : kmerge w5 [a, b, c, d, e] ["deeds", "few"] [x, y] = (w5, [a, x, c, d, y]) := by simp [kmerge, nput, vput]
theorem any10 (CH CC : Addr) (R1 R2 R3 R4 : DR) (j : Nat) (hj : 40 < j) {mu0 mu : Mu} {P : PD} {st w : Addr} {cells : List Addr} (bs : Base mu0 mu st cells) (words deeds : List Str) (hs : List Head) (l few : Int) (h1 : words.length = 8) (h2 : deeds.length = 8) (h3 : ∀ d ∈ deeds, strGood d) (h4 : 0 < few ∧ few ≤ 8) (o0 o5 o6 o8 : Option D)
    (hwo : mget mu w = some (.dic w5 [.lst (words.map .str), .lst (deeds.map .str), .lst (hs.map headD), .int l, .int few])) (hws : w ≠ st) (hw0 : w ∉ dom mu0) (hwc : w ∉ cells) (hk : HeadsOk (hs.map Head.name) hs) (nd : (hs.map Head.name).Nodup) (hl : hs.length ≤ 40) (hc : cells.length = hs.length) (hP : AnyP P mu0) :
    b_law_any_t10 CH CC R1 R_law_take R3 R4 (R_item j) (endsG mu0 P) [o0, some (.int 40), some (.bl false), some (.obj st), some (.int ((hs.length : Nat) : Int)), o5, o6, some (.lst (cells.map .obj)), o8, some (.obj w), none, none, none, none, none, none, none, none] mu := by
  unfold b_law_any_t10
  rw [x_seq, x_drop]
  simp only [x_upd, x_var, x_disp, x_pairs1, x_pairs0, List.getElem?_cons_zero, List.getElem?_cons_succ]
  refine ⟨⟨_, _, hwo⟩, fun p hp => ?_⟩
  have hpw : p ≠ w := fun e => hp (by rw [e]; exact mget_dom hwo)
  simp only [mget_next hpw, hwo, mget_top, List.map_cons, List.map_nil, kmerge2]
  refine ⟨Ne.symm hpw, by decide, by decide, ?_⟩
  refine any11 CH CC R1 R_law_take R3 R4 j (((bs.push hp).other hw0 hws hwc)) ⟨words, deeds, hs, few, 40, false⟩ l ⟨h1, h2, h3, hk.first, by dsimp only; omega, h4, hk.pars⟩ ⟨⟨40, rfl, hj, by omega⟩, rfl⟩ o0 _ _ o5 o6 o8 ?_ hws hw0 hwc hk nd hl hc hP
  exact get_put_same (by rw [mget_next hpw]; exact hwo)
theorem dcut2 (l : List D) : dcut l none (some 2) = l.take 2 := by
  unfold dcut
  have := HT.sIx_nat (n := l.length) (d := l.length) (k := 2)
  rw [show (2 : Int) = ((2 : Nat) : Int) from rfl, HT.sIx_nat, HT.sIx_none, List.drop_zero, Nat.sub_zero, List.take_eq_take_iff]
  omega
theorem any9 (CH CC : Addr) (R1 R2 R3 R4 : DR) (j : Nat) (hj : 40 < j) {mu0 mu : Mu} {P : PD} {st w : Addr} {cells : List Addr} (bs : Base mu0 mu st cells) (words : List Str) (hs : List Head) (l : Int) (h1 : words.length = 8) (h3 : ∀ d ∈ words, strGood d) (o0 o6 o8 : Option D)
    (hwo : mget mu w = some (.dic w5 [.lst (words.map .str), .lst (words.map .str), .lst (hs.map headD), .int l, .int 8])) (hws : w ≠ st) (hw0 : w ∉ dom mu0) (hwc : w ∉ cells) (hk : HeadsOk (hs.map Head.name) hs) (nd : (hs.map Head.name).Nodup) (hl : hs.length ≤ 40) (hc : cells.length = hs.length) (hP : AnyP P mu0) :
    b_law_any_t9 CH CC R1 R_law_take R3 R4 (R_item j) (endsG mu0 P) [o0, some (.int 40), some (.bl false), some (.obj st), some (.int ((hs.length : Nat) : Int)), some (.lst (words.map .str)), o6, some (.lst (cells.map .obj)), o8, some (.obj w), none, none, none, none, none, none, none, none] mu := by
  obtain ⟨n, hn⟩ := bs.stn
  unfold b_law_any_t9
  rw [x_seq, x_if]
  simp only [x_test, x_op, x_call, x_cons, x_nil, x_var, x_c, List.getElem?_cons_zero, List.getElem?_cons_succ]
  refine take_ok hn (by decide) (by decide) fun r n1 r0 r1 => ?_
  have hw1 : mget (mput mu st (stO n1)) w = some (.dic w5 [.lst (words.map .str), .lst (words.map .str), .lst (hs.map headD), .int l, .int 8]) := by rw [get_put_ne hws]; exact hwo
  simp only [i2_]
  by_cases e : (0 : Int) < r
  · simp only [decide_eq_true e, if_true, x_drop, x_upd, x_var, x_disp, x_pairs1, x_pairs0, x_op, x_sl, x_no, x_part, x_c, List.getElem?_cons_zero, List.getElem?_cons_succ, lv_lst, dcut2, drepL]
    refine ⟨⟨_, _, hw1⟩, by decide, by decide, by simp; omega, fun p hp => ?_⟩
    have hpw : p ≠ w := fun e => hp (by rw [e]; exact mget_dom hw1)
    simp only [mget_next hpw, hw1, mget_top, List.map_cons, List.map_nil, kmerge3]
    refine ⟨Ne.symm hpw, by decide, by decide, ?_⟩
    have e4 : (List.replicate (4 : Int).toNat ((words.map D.str).take 2)).flatten = ((List.replicate 4 (words.take 2)).flatten).map .str := by
      rw [← List.map_take]
      show (List.replicate 4 _).flatten = _
      rw [List.map_flatten, List.map_replicate]
    rw [e4]
    refine any10 CH CC R1 R_law_take R3 R4 j hj (((bs.tick n1).push hp).other hw0 hws hwc) words ((List.replicate 4 (words.take 2)).flatten) hs l 2 h1 ?_ ?_ (by omega) o0 _ o6 o8 ?_ hws hw0 hwc hk nd hl hc hP
    · simp [h1]
    · intro d hd
      obtain ⟨x, hx, hdx⟩ := List.mem_flatten.mp hd
      rw [(List.mem_replicate.mp hx).2] at hdx
      exact h3 d (List.mem_of_mem_take hdx)
    · exact get_put_same (by rw [mget_next hpw]; exact hw1)
  · simp only [decide_eq_false e, Bool.false_eq_true, if_false, x_next]
    exact any10 CH CC R1 R_law_take R3 R4 j hj (bs.tick n1) words words hs l 8 h1 h1 h3 (by omega) o0 _ o6 o8 hw1 hws hw0 hwc hk nd hl hc hP
theorem any8 (CH CC : Addr) (R1 R2 R3 R4 : DR) (j : Nat) (hj : 40 < j) {mu0 mu : Mu} {P : PD} {st q : Addr} {cells : List Addr} (bs : Base mu0 mu st cells) (hq : q ∉ dom mu) (words names : List Str) (h1 : words.length = 8) (h3 : ∀ d ∈ words, strGood d) (h4 : ∀ d ∈ names, strGood d) (nd : names.Nodup) (h0 : 0 < names.length) (hl : names.length ≤ 40) (hc : cells.length = names.length) (o0 o6 : Option D) (hP : AnyP P mu0) :
    b_law_any_t8 CH CC R1 R_law_take R3 R_law_heads (R_item j) (endsG mu0 P) [o0, some (.int 40), some (.bl false), some (.obj st), some (.int ((names.length : Nat) : Int)), some (.lst (words.map .str)), o6, some (.lst (cells.map .obj)), some (.obj q), none, none, none, none, none, none, none, none, none] ((q, .lst (names.map .str)) :: mu) := by
  unfold b_law_any_t8
  rw [x_frz]
  refine ⟨q, _, _, rfl, fun h => hq (bs.inc q h), mget_top, rfl, ?_⟩
  rw [mdel_top hq, x_seq, x_asg]
  simp only [x_disp, x_pairs1, x_pairs0, x_var, x_c, x_call, x_cons, x_nil, List.set_cons_succ, List.set_cons_zero, List.getElem?_cons_zero, List.getElem?_cons_succ]
  refine ⟨cells, names, words, rfl, hc, h0, by omega, h1, h4, h3, bs.cs, fun hs mu1 hk sm w hw => ?_⟩
  have bs1 := bs.stm sm
  have hn : names = hs.map Head.name := hk.nm.symm
  have hln : names.length = hs.length := by rw [hn, List.length_map]
  have hws : w ≠ st := fun e => by
    obtain ⟨n, hn⟩ := bs1.stn
    exact hw (by rw [e]; exact mget_dom hn)
  have hw0 : w ∉ dom mu0 := fun e => hw (bs1.inc _ e)
  have hwc : w ∉ cells := fun e => by
    obtain ⟨n, hn⟩ := bs1.cs _ e
    exact hw (mget_dom hn)
  rw [hn] at hk nd
  rw [hln]
  exact any9 CH CC R1 R_law_take R3 R_law_heads j hj (bs1.push hw) words hs 0 h1 h3 o0 o6 _ mget_top hws hw0 hwc hk nd (by omega) (by omega) hP
end DL
set_option maxHeartbeats 800000
/-! K54r: _law_any: words, cells, names; the whole -/
namespace DL
open PySem PySem.Spec PyProof.Rows L2

theorem nodup_snoc {x : Str} {l : List Str} (h : l.Nodup) (hx : x ∉ l) : (l ++ [x]).Nodup := by
  rw [List.nodup_append]
  exact ⟨h, by simp, fun a ha b hb e => hx (by rw [← List.mem_singleton.mp hb, ← e]; exact ha)⟩
theorem loop_any2 (CH CC : Addr) (R1 R2 R3 R4 : DR) {mu0 : Mu} {st q : Addr} {cells : List Addr} (N : Nat) (hc : cells.length = N) (hl : N ≤ 40) (o0 o1 o2 o3 o4 o5 : Option D) (Z : DEnds)
    (hZ : ∀ (names : List Str) (mu : Mu) o6, names.length = N → (∀ x ∈ names, lowS x) → names.Nodup → Base mu0 mu st cells → q ∉ dom mu → Z.nx [o0, o1, o2, o3, o4, o5, o6, some (.lst (cells.map .obj)), some (.obj q), none, none, none, none, none, none, none, none, none] ((q, .lst (names.map .str)) :: mu)) :
    ∀ (m k : Nat) (names : List Str) (mu : Mu) (o6 : Option D), m + k = N → names.length = k → (∀ x ∈ names, lowS x) → names.Nodup → Base mu0 mu st cells → q ∉ dom mu →
      dFor 6 (b_law_any_L2 CH CC R1 R2 R_law_fresh R3 R4) (((List.range N).drop k).map fun j => .int ((j : Nat) : Int)) Z [o0, o1, o2, o3, o4, o5, o6, some (.lst (cells.map .obj)), some (.obj q), none, none, none, none, none, none, none, none, none] ((q, .lst (names.map .str)) :: mu)
  | 0, k, names, mu, o6, hm, h1, h2, h3, bs, hq => by
    have e : k = N := by omega
    subst e
    rw [List.drop_eq_nil_of_le (by simp)]
    exact hZ names mu o6 h1 h2 h3 bs hq
  | m + 1, k, names, mu, o6, hm, h1, h2, h3, bs, hq => by
    have hlt : k < (List.range N).length := by simp; omega
    have hk : k < N := by omega
    have hkc : k < cells.length := by omega
    rw [List.drop_eq_getElem_cons hlt, List.map_cons, x_for1]
    have e1 : (List.range N)[k] = k := by simp
    rw [e1]
    have ec : atI (cells.map D.obj) ((k : Nat) : Int) = some (.obj cells[k]) := by rw [atI_nat, List.getElem?_map, List.getElem?_eq_getElem hkc]; rfl
    have hcm : cells[k] ∈ cells := List.getElem_mem hkc
    obtain ⟨n, hn⟩ := bs.cs _ hcm
    have hne : q ≠ cells[k] := fun e => hq (by rw [e]; exact mget_dom hn)
    unfold b_law_any_L2
    rw [x_drop, x_app]
    simp only [x_op, x_var, x_c, x_call, x_cons, x_nil, List.set_cons_succ, List.set_cons_zero, List.getElem?_cons_zero, List.getElem?_cons_succ, dix_lst, ec]
    refine ⟨⟨_, mget_top⟩, cells[k], n, _, names, rfl, lv_cell mget_top, by omega, by rw [mget_next hne]; exact hn, (fun a e => by cases e; exact hne), fun x n' hx hlow => ?_⟩
    rw [mput_next hne]
    simp only [mget_top, mput_top, List.length_map]
    refine ⟨by omega, ?_⟩
    have := loop_any2 CH CC R1 R2 R3 R4 N hc hl o0 o1 o2 o3 o4 o5 Z hZ m (k + 1) (names ++ [x]) (mput mu cells[k] (stO n')) (some (.int ((k : Nat) : Int))) (by omega) (by simp [h1]) (fun y hy => by
      rcases List.mem_append.mp hy with z | z
      · exact h2 y z
      · rw [List.mem_singleton.mp z]; exact hlow) (nodup_snoc h3 hx) (bs.cput hcm n') (by rw [dom_mput]; exact hq)
    rw [List.map_append] at this
    exact this
theorem loop_any1 (CH CC : Addr) (R1 R2 R3 R4 : DR) {mu0 : Mu} {st q : Addr} (o0 o1 o2 o4 : Option D) (Z : DEnds)
    (hZ : ∀ (names : List Str) (mu : Mu) o6, names.length = 8 → (∀ x ∈ names, lowS x) → Base mu0 mu st [] → q ∉ dom mu → Z.nx [o0, o1, o2, some (.obj st), o4, some (.obj q), o6, none, none, none, none, none, none, none, none, none, none, none] ((q, .lst (names.map .str)) :: mu)) :
    ∀ (m k : Nat) (names : List Str) (mu : Mu) (o6 : Option D), m + k = 8 → names.length = k → (∀ x ∈ names, lowS x) → Base mu0 mu st [] → q ∉ dom mu →
      dFor 6 (b_law_any_L1 CH CC R1 R2 R_law_fresh R3 R4) (((List.range 8).drop k).map fun j => .int ((j : Nat) : Int)) Z [o0, o1, o2, some (.obj st), o4, some (.obj q), o6, none, none, none, none, none, none, none, none, none, none, none] ((q, .lst (names.map .str)) :: mu)
  | 0, k, names, mu, o6, hm, h1, h2, bs, hq => by
    have e : k = 8 := by omega
    subst e
    rw [List.drop_eq_nil_of_le (by simp)]
    exact hZ names mu o6 h1 h2 bs hq
  | m + 1, k, names, mu, o6, hm, h1, h2, bs, hq => by
    have hlt : k < (List.range 8).length := by simp; omega
    rw [List.drop_eq_getElem_cons hlt, List.map_cons, x_for1]
    obtain ⟨n, hn⟩ := bs.stn
    have hne : q ≠ st := fun e => hq (by rw [e]; exact mget_dom hn)
    unfold b_law_any_L1
    rw [x_drop, x_app]
    simp only [x_op, x_var, x_c, x_call, x_cons, x_nil, List.set_cons_succ, List.set_cons_zero, List.getElem?_cons_zero, List.getElem?_cons_succ]
    refine ⟨⟨_, mget_top⟩, st, n, _, names, rfl, lv_cell mget_top, by omega, by rw [mget_next hne]; exact hn, (fun a e => by cases e; exact hne), fun x n' hx hlow => ?_⟩
    rw [mput_next hne]
    simp only [mget_top, mput_top, List.length_map]
    refine ⟨by omega, ?_⟩
    have := loop_any1 CH CC R1 R2 R3 R4 o0 o1 o2 o4 Z hZ m (k + 1) (names ++ [x]) (mput mu st (stO n')) (some (.int (((List.range 8)[k] : Nat) : Int))) (by omega) (by simp [h1]) (fun y hy => by
      rcases List.mem_append.mp hy with z | z
      · exact h2 y z
      · rw [List.mem_singleton.mp z]; exact hlow) (bs.tick n') (by rw [dom_mput]; exact hq)
    rw [List.map_append] at this
    exact this
/-- [_law_source(script, 1 + k) for k in range(many)] -/
theorem lc_cells {sc : List Int} {mu0 : Mu} {st : Addr} {rho : Rho} (h6 : 6 < rho.length) (r0 : rho[0]? = some (some (.fz sc))) : ∀ (js : List Nat) (cells : List Addr) (mu : Mu) (P : PD), Base mu0 mu st cells → (∀ j ∈ js, j < 100) → cells.length + js.length ≤ 1000 →
    (∀ (cs : List Addr) mu2, Base mu0 mu2 st cs → cs.length = cells.length + js.length → P (.lst (cs.map .obj)) mu2) →
    dLcL 6 dYes (dCall R_law_source (dCons (dVar 0) (dCons (dOp (i2 fun i j => .int (i + j)) (dC (.int 1)) (dVar 6)) dNil))) (js.map fun j => .int ((j : Nat) : Int)) (cells.map .obj) rho mu P
  | [], cells, mu, P, bs, hj, hl, h => h cells mu bs rfl
  | j :: js, cells, mu, P, bs, hj, hl, h => by
    rw [List.map_cons]
    unfold dLcL
    have e0 : (rho.set 6 (some (.int ((j : Nat) : Int))))[0]? = rho[0]? := List.getElem?_set_ne (by decide)
    simp only [x_yes, if_true, x_call, x_cons, x_var, x_nil, x_op, x_c, e0, r0, List.getElem?_set_self h6, i2_]
    simp only [List.length_cons] at hl
    have hj0 := hj j List.mem_cons_self
    refine ⟨sc, 1 + j, by simp, by omega, fun s n hs => ?_⟩
    refine ⟨by simp; omega, ?_⟩
    have := lc_cells h6 r0 js (cells ++ [s]) ((s, stO n) :: mu) P (bs.cell hs) (fun x hx => hj x (List.mem_cons_of_mem _ hx)) (by simp; omega) fun cs mu2 q0 q1 => h cs mu2 q0 (by simp at q1 ⊢; omega)
    rw [List.map_append] at this
    exact this
theorem body_law_any (CH CC : Addr) (j : Nat) (hj : 40 < j) : ∀ mu es P, R_law_any mu es P → b_law_any CH CC R_law_source R_law_take R_law_fresh R_law_heads (R_item j) (endsG mu P) (startD N_law_any es) mu := by
  rintro mu es P ⟨sc, rfl, hP⟩
  unfold b_law_any
  rw [x_seq, x_asg]
  simp only [x_start, x_call, x_cons, x_nil, x_var, x_c, List.map_cons, List.map_nil, List.cons_append, List.nil_append, List.getElem?_cons_zero, List.getElem?_cons_succ, List.length_cons, List.length_nil, Nat.reduceAdd, Nat.reduceSub, List.reduceReplicate, List.set_cons_succ, List.set_cons_zero]
  refine ⟨sc, 0, rfl, by decide, fun st n hst => ?_⟩
  unfold b_law_any_t1
  dsimp only
  rw [x_seq, x_setix]
  simp only [x_op, x_var, x_c, List.getElem?_cons_zero, List.getElem?_cons_succ, dix_obj, sqv_cell mget_top, atI_cons0, i2c_, mget_top, mput_top]
  refine ⟨divOk (by decide) (by decide), ?_⟩
  have ix0 : ixN [D.int n].length 0 = some 0 := rfl
  simp only [ix0, List.set_cons_zero]
  have bs0 : ∀ m, Base mu ((st, stO m) :: mu) st [] := fun m => ⟨(Sub.refl mu).tail, fun a h => List.mem_cons_of_mem _ h, ⟨m, mget_top⟩, fun p hp => (by cases hp), hst, fun p hp => (by cases hp)⟩
  unfold b_law_any_t2
  rw [x_seq, x_asg]
  simp only [x_op, x_var, x_c, x_call, x_cons, x_nil, x_lst, List.getElem?_cons_zero, List.getElem?_cons_succ]
  refine ⟨by decide, take_ok mget_top (by decide) (by decide) fun q n1 c0 c1 => ?_⟩
  rw [mput_top]
  obtain ⟨b7, hb7, eb7⟩ : ∃ b7 : Int, (b7 = 0 ∨ b7 = 1) ∧ b7 = q / 3 := ⟨_, by omega, rfl⟩
  simp only [i2c_]
  rw [← eb7]
  refine ⟨divOk (by decide) (by decide), ?_⟩
  obtain ⟨mo, hmo, emo⟩ : ∃ mo : Int, (mo = 6 ∨ mo = 40) ∧ atI [D.int 6, D.int 40] b7 = some (.int mo) := by
    rcases hb7 with e | e
    · exact ⟨6, .inl rfl, by rw [e]; simp⟩
    · exact ⟨40, .inr rfl, by rw [e]; simp⟩
  simp only [dix_lst, emo]
  refine take_ok mget_top (by omega) (by omega) fun many n2 d0 d1 => ?_
  rw [mput_top]
  simp only [i2_, List.set_cons_succ, List.set_cons_zero]
  obtain ⟨N, hN, hN1, hN2⟩ : ∃ N : Nat, 1 + many = ((N : Nat) : Int) ∧ 0 < N ∧ N ≤ 40 := ⟨(1 + many).toNat, by omega, by omega, by omega⟩
  rw [hN]
  unfold b_law_any_t3
  rw [x_seq, x_asg]
  simp only [x_lstM, x_nil, List.length_nil, List.set_cons_succ, List.set_cons_zero]
  refine ⟨by decide, fun q hq => ?_⟩
  unfold b_law_any_t4
  rw [x_seq, x_fori]
  simp only [x_range, x_c]
  refine ⟨by decide, ?_⟩
  refine loop_any1 CH CC R_law_source R_law_take R_law_heads (R_item j) (mu0 := mu) (st := st) (q := q) _ _ _ _ _ (fun words mu1 o6 w1 w2 bs1 hq1 => ?_) 8 0 [] ((st, stO n2) :: mu) none rfl rfl (fun x hx => by cases hx) (bs0 n2) hq
  dsimp only
  unfold b_law_any_t5
  rw [x_frz]
  refine ⟨q, _, _, rfl, fun h => hq1 (bs1.inc q h), mget_top, rfl, ?_⟩
  rw [mdel_top hq1, x_seq, x_asg, x_lc]
  simp only [x_range, x_var, List.set_cons_succ, List.set_cons_zero, List.getElem?_cons_zero, List.getElem?_cons_succ]
  refine ⟨by omega, ?_⟩
  refine lc_cells (sc := sc) (mu0 := mu) (st := st) (by simp) rfl (List.range (((N : Nat) : Int)).toNat) [] mu1 _ bs1 (fun k hk => by simp at hk; omega) (by simp; omega) fun cells mu2 bs2 hcl => ?_
  have hcl' : cells.length = N := by simpa using hcl
  unfold b_law_any_t6
  rw [x_seq, x_asg]
  simp only [x_lstM, x_nil, List.length_nil, List.set_cons_succ, List.set_cons_zero]
  refine ⟨by decide, fun q2 hq2 => ?_⟩
  unfold b_law_any_t7
  rw [x_seq, x_fori]
  simp only [x_range, x_var, List.getElem?_cons_zero, List.getElem?_cons_succ]
  refine ⟨by omega, ?_⟩
  have l2 := loop_any2 CH CC R_law_source R_law_take R_law_heads (R_item j) (mu0 := mu) (st := st) (q := q2) (cells := cells) N hcl' hN2 (some (.fz sc)) (some (.int 40)) (some (.bl false)) (some (.obj st)) (some (.int ((N : Nat) : Int))) (some (.lst (words.map .str))) { (endsG mu P) with nx := b_law_any_t8 CH CC R_law_source R_law_take R_law_fresh R_law_heads (R_item j) (endsG mu P) } (fun names mu3 o6 k1 k2 k3 bs3 hq3 => ?_) N 0 [] mu2 o6 rfl rfl (fun x hx => by cases hx) (by simp) bs2 hq2
  · simpa using l2
  · dsimp only
    rw [← k1]
    exact any8 CH CC R_law_source R_law_take R_law_fresh (R_item j) j hj bs3 hq3 words names w1 (fun d hd => (w2 d hd).good) (fun d hd => (k2 d hd).good) k3 (by omega) (by omega) (by omega) _ _ hP
end DL
set_option maxHeartbeats 800000
/-! K55a: weights of trees and frames; what holds of a run's state -/
namespace DL
open PySem PySem.Spec PyProof.Rows L2

/-- what a step, an entry, a handler's end weigh; the most that a body weighs -/
structure Wt where
  st : Nat
  en : Nat
  fi : Nat
  b : Nat
mutual
def co (c : Wt) : Tree → Nat
  | .num _ => c.st
  | .var _ => c.st
  | .call _ _ as => c.st + cos c as
  | .op _ a b => 3 * c.st + co c a + co c b
  | .lett _ a b => 2 * c.st + co c a + co c b
  | .iff x a b => 2 * c.st + co c x + co c a + co c b
  | .deed _ a => 2 * c.st + co c a
  | .handle _ a b => 3 * c.st + c.fi + co c a + co c b
  | .go a b => 3 * c.st + co c a + co c b
  | .guard a b => 3 * c.st + 2 * c.en + co c a + co c b
def cos (c : Wt) : List Tree → Nat
  | [] => 0
  | t :: r => co c t + c.st + cos c r
end
def wfirst (c : Wt) : Tree → Nat
  | .op _ _ b => 2 * c.st + co c b
  | .lett _ _ b => c.st + co c b
  | .iff _ a b => c.st + co c a + co c b
  | .handle _ _ b => 2 * c.st + c.fi + co c b
  | .go _ b => 2 * c.st + co c b
  | .guard _ b => 2 * c.st + 2 * c.en + co c b
  | _ => c.st
mutual
def wt (c : Wt) : Frame → Nat
  | .args _ _ as ns _ => c.st + cos c (as.drop (ns.length + 1))
  | .first t _ => wfirst c t
  | .second _ _ => c.st
  | .deed _ => c.st
  | .goes _ => c.st
  | .clause pre _ _ false => 2 * c.st + wts c pre
  | .clause _ _ _ true => 2 * c.st
  | .stands _ _ => c.st + c.fi
  | .cleans _ => c.st + c.en
def wts (c : Wt) : List Frame → Nat
  | [] => 0
  | f :: r => wt c f + wts c r
end
mutual
def FitF (c : Wt) (N : Nat) : Nat → Frame → Prop
  | x, .clause pre _ _ _ => wts c pre + x ≤ N ∧ Fits c N x pre
  | _, _ => True
def Fits (c : Wt) (N : Nat) : Nat → List Frame → Prop
  | _, [] => True
  | x, f :: r => FitF c N (wts c r + x) f ∧ Fits c N x r
end
theorem wts_app (c : Wt) (a b : List Frame) : wts c (a ++ b) = wts c a + wts c b := by
  induction a with
  | nil => simp [wts]
  | cons f a ih => simp only [List.cons_append, wts, ih]; omega
theorem fits_app (c : Wt) (N : Nat) : ∀ (a b : List Frame) (x : Nat), Fits c N x (a ++ b) ↔ Fits c N (wts c b + x) a ∧ Fits c N x b
  | [], b, x => by simp [Fits]
  | f :: a, b, x => by
    simp only [List.cons_append, Fits, fits_app c N a b x, wts_app, Nat.add_assoc, and_assoc]
mutual
theorem fitF_mono (c : Wt) {N N' : Nat} : ∀ (f : Frame) (x x' : Nat), x' + N ≤ x + N' → FitF c N x f → FitF c N' x' f
  | .clause pre _ _ _, x, x', h, q => by
    simp only [FitF] at q ⊢
    exact ⟨by omega, fits_mono c pre x x' h q.2⟩
  | .args _ _ _ _ _, x, x', h, q => by simp only [FitF]
  | .first _ _, x, x', h, q => by simp only [FitF]
  | .second _ _, x, x', h, q => by simp only [FitF]
  | .deed _, x, x', h, q => by simp only [FitF]
  | .goes _, x, x', h, q => by simp only [FitF]
  | .stands _ _, x, x', h, q => by simp only [FitF]
  | .cleans _, x, x', h, q => by simp only [FitF]
theorem fits_mono (c : Wt) {N N' : Nat} : ∀ (k : List Frame) (x x' : Nat), x' + N ≤ x + N' → Fits c N x k → Fits c N' x' k
  | [], x, x', h, q => by simp only [Fits]
  | f :: r, x, x', h, q => by
    simp only [Fits] at q ⊢
    exact ⟨fitF_mono c f _ _ (by omega) q.1, fits_mono c r x x' h q.2⟩
end
abbrev Sm (n : Int) : Prop := n.natAbs ≤ 10 ^ 18
structure ScOk (hs : List Head) (vs : List Str) (bl : Option Str) (sc : Sc) : Prop where
  vars : ∀ x ∈ vs, ∃ n, valueOf sc.known x = some n
  nums : ∀ q ∈ sc.known, Sm q.2
  block : sc.block = bl
  hand : ∀ y, bl = some y → ∃ g, sc.handed = some g ∧ PlainH hs g
structure HandOk (hs : List Head) (c : Wt) (h : Hand) : Prop where
  cl : ∀ q ∈ h.clauses, WT hs true true [q.x, q.s] none q.body ∧ co c q.body ≤ c.b
  fin : WT hs false false [h.x, h.s] none h.fin ∧ co c h.fin ≤ c.fi
structure PW (p : Prog) (hs : List Head) (c : Wt) : Prop where
  fn : ∀ n ps b, Head.fn n ps b ∈ hs → ∃ f, fnNamed p n = some f ∧ f.params = ps ∧ f.block = b ∧ WT hs false true ps b f.body ∧ co c f.body ≤ c.b
  hd : ∀ n, Head.hand n ∈ hs → ∃ h, handNamed p n = some h ∧ HandOk hs c h
/-- the nearest clause is come to over frames that are none of a handle's, and they and b weigh no more than a body -/
def InCl (c : Wt) : Nat → List Frame → Prop
  | _, [] => False
  | b, f :: r => match f with
    | .clause _ _ _ _ => b ≤ c.b
    | .stands _ _ => False
    | _ => InCl c (b + wt c f) r
theorem inCl_mono (c : Wt) : ∀ (k : List Frame) (b b' : Nat), b' ≤ b → InCl c b k → InCl c b' k
  | [], b, b', h, q => q
  | f :: r, b, b', h, q => by
    cases f
    case clause => exact Nat.le_trans h q
    case stands => exact q
    all_goals exact inCl_mono c r _ _ (by omega) q
theorem inCl_app (c : Wt) (k : List Frame) : ∀ (pre : List Frame) (b : Nat), InCl c b pre → InCl c b (pre ++ k)
  | [], b, q => q.elim
  | f :: r, b, q => by
    cases f
    case clause => exact q
    case stands => exact q
    all_goals exact inCl_app c k r _ q
theorem inCl_cut (c : Wt) (h : Hand) (kept : Int) (k : List Frame) : ∀ (pre : List Frame) (b : Nat), InCl c b (pre ++ .stands h kept :: k) → InCl c b pre
  | [], b, q => q
  | f :: r, b, q => by
    cases f
    case clause => exact q
    case stands => exact q
    all_goals exact inCl_cut c h kept k r _ q
theorem inCl_went (c : Wt) (pre : List Frame) (h : Hand) (kept : Int) (w : Bool) (r : List Frame) : ∀ (over : List Frame) (b : Nat), InCl c b (over ++ .clause pre h kept w :: r) → InCl c b (over ++ .clause pre h kept true :: r)
  | [], b, q => q
  | f :: o, b, q => by
    cases f
    case clause => exact q
    case stands => exact q
    all_goals exact inCl_went c pre h kept w r o _ q
theorem inCl_gone (c : Wt) : ∀ (k : List Frame) (b : Nat), InCl c b k → ∃ over pre h kept w r, goneFrom k = some (over, pre, h, kept, r) ∧ k = over ++ .clause pre h kept w :: r ∧ b + wts c over ≤ c.b
  | [], b, q => q.elim
  | f :: k, b, q => by
    by_cases hf : ∃ pre h kk w, f = .clause pre h kk w
    · obtain ⟨pre, h, kk, w, rfl⟩ := hf
      exact ⟨[], pre, h, kk, w, k, rfl, rfl, by
        have q' : b ≤ c.b := q
        simpa [wts] using q'⟩
    · rw [gone_pass (fun a b c d z => hf ⟨a, b, c, d, z⟩)]
      have q' : InCl c (b + wt c f) k := by
        cases f
        case clause => exact absurd ⟨_, _, _, _, rfl⟩ hf
        case stands => exact q.elim
        all_goals exact q
      obtain ⟨over, pre, h, kept, w, r, e1, e2, e3⟩ := inCl_gone c k _ q'
      exact ⟨f :: over, pre, h, kept, w, r, by rw [e1], by rw [e2]; rfl, by simp only [wts]; omega⟩
def isF : Tree → Bool
  | .op _ _ _ => true
  | .lett _ _ _ => true
  | .iff _ _ _ => true
  | .handle _ _ _ => true
  | .go _ _ => true
  | .guard _ _ => true
  | _ => false
mutual
def FrOk (hs : List Head) (c : Wt) : List Frame → Frame → Prop
  | k, .args f h as ns sc => ∃ g hd vs bl, WT hs g hd vs bl (.call f h as) ∧ ScOk hs vs bl sc ∧ ns.length < as.length ∧ (∀ n ∈ ns, Sm n) ∧ (g = true → InCl c (wt c (.args f h as ns sc)) k)
  | k, .first t sc => isF t = true ∧ ∃ g hd vs bl, WT hs g hd vs bl t ∧ ScOk hs vs bl sc ∧ (g = true → InCl c (wfirst c t) k)
  | _, .second _ a => Sm a
  | _, .deed d => strGood d
  | k, .goes a => Sm a ∧ InCl c c.st k
  | _, .clause pre h _ _ => Chn hs c pre ∧ HandOk hs c h
  | _, .stands h kept => HandOk hs c h ∧ Sm kept
  | _, .cleans _ => True
def Chn (hs : List Head) (c : Wt) : List Frame → Prop
  | [] => True
  | f :: r => FrOk hs c r f ∧ Chn hs c r
end
/-- a frame over another rest -/
theorem frOk_to {hs : List Head} {c : Wt} {k k' : List Frame} {f : Frame} (h : ∀ b, InCl c b k → InCl c b k') (q : FrOk hs c k f) : FrOk hs c k' f := by
  cases f <;> simp only [FrOk] at q ⊢
  case args =>
    obtain ⟨g, hd, vs, bl, h1, h2, h3, h4, h5⟩ := q
    exact ⟨g, hd, vs, bl, h1, h2, h3, h4, fun e => h _ (h5 e)⟩
  case first =>
    obtain ⟨h0, g, hd, vs, bl, h1, h2, h5⟩ := q
    exact ⟨h0, g, hd, vs, bl, h1, h2, fun e => h _ (h5 e)⟩
  case goes => exact ⟨q.1, h _ q.2⟩
  all_goals exact q
theorem chn_pre {hs : List Head} {c : Wt} (h : Hand) (kept : Int) (k : List Frame) : ∀ pre : List Frame, Chn hs c (pre ++ .stands h kept :: k) → Chn hs c pre ∧ FrOk hs c k (.stands h kept) ∧ Chn hs c k
  | [], q => by
    simp only [List.nil_append, Chn] at q ⊢
    exact ⟨True.intro, q⟩
  | f :: r, q => by
    simp only [List.cons_append, Chn] at q ⊢
    obtain ⟨a, b⟩ := chn_pre h kept k r q.2
    exact ⟨⟨frOk_to (fun _ => inCl_cut c h kept k r _) q.1, a⟩, b⟩
theorem chn_app {hs : List Head} {c : Wt} {k : List Frame} (hk : Chn hs c k) : ∀ pre : List Frame, Chn hs c pre → Chn hs c (pre ++ k)
  | [], q => hk
  | f :: r, q => by
    simp only [List.cons_append, Chn] at q ⊢
    exact ⟨frOk_to (fun _ => inCl_app c k r _) q.1, chn_app hk r q.2⟩
theorem chn_went {hs : List Head} {c : Wt} (pre : List Frame) (h : Hand) (kept : Int) (w : Bool) (r : List Frame) : ∀ over : List Frame, Chn hs c (over ++ .clause pre h kept w :: r) → Chn hs c (over ++ .clause pre h kept true :: r) ∧ Chn hs c pre ∧ HandOk hs c h ∧ Chn hs c r
  | [], q => by
    simp only [List.nil_append, Chn, FrOk] at q ⊢
    exact ⟨q, q.1.1, q.1.2, q.2⟩
  | f :: o, q => by
    simp only [List.cons_append, Chn] at q ⊢
    obtain ⟨a, b⟩ := chn_went pre h kept w r o q.2
    exact ⟨⟨frOk_to (fun _ => inCl_went c pre h kept w r o _) q.1, a⟩, b⟩
def wc (c : Wt) : Ctl → Nat
  | .look t _ k => co c t + wts c k
  | .tell _ k => wts c k
def CtlOk (hs : List Head) (c : Wt) : Ctl → Prop
  | .look t sc k => (∃ g hd vs bl, WT hs g hd vs bl t ∧ ScOk hs vs bl sc ∧ (g = true → InCl c (co c t) k)) ∧ Chn hs c k
  | .tell n k => Sm n ∧ Chn hs c k
structure Inv (hs : List Head) (c : Wt) (N : Nat) (ctl : Ctl) : Prop where
  ok : CtlOk hs c ctl
  w : wc c ctl ≤ N
  fit : Fits c N 0 ctl.rest
abbrev Wt.B (c : Wt) : Nat := c.b + 3 * c.st + c.fi
/-- what a step hands on -/
inductive Res (hs : List Head) (c : Wt) (N : Nat) (ctl : Ctl) (o : Out) : Prop
  | plain : o.turn = false → o.fin = none → (∀ e ∈ o.ents, isDo e = false ∧ entGood e) → CtlOk hs c o.ctl → wc c o.ctl + c.st + c.en * o.ents.length ≤ wc c ctl → Fits c N 0 o.ctl.rest → Res hs c N ctl o
  | great : o.turn = false → o.ents = [] → o.fin = some .great → Res hs c N ctl o
  | turn : o.turn = true → o.fin = none → o.ents.length ≤ 1 → (∀ e ∈ o.ents, entGood e) → Inv hs c (N + c.B) o.ctl → Res hs c N ctl o
  | asks (d : Str) (n : Int) (k : List Frame) : o.turn = true → o.fin = some (.asks d n) → o.ents = [.deed d n] → strGood d → o.ctl = .tell n k → Inv hs c (N + c.B) o.ctl → Res hs c N ctl o
end DL
set_option maxHeartbeats 800000
/-! K55b: a step is there, and what it hands on is well formed -/
namespace DL
open PySem PySem.Spec PyProof.Rows L2

theorem valueOf_mem : ∀ {k : Known} {x : Str} {n : Int}, valueOf k x = some n → ∃ q ∈ k, q.2 = n
  | [], x, n, h => by cases h
  | (y, m) :: r, x, n, h => by
    unfold valueOf at h
    by_cases e : y = x
    · rw [if_pos e] at h
      cases h
      exact ⟨_, List.mem_cons_self, rfl⟩
    · rw [if_neg e] at h
      obtain ⟨q, h1, h2⟩ := valueOf_mem h
      exact ⟨q, List.mem_cons_of_mem _ h1, h2⟩
theorem valueOf_some : ∀ {k : Known} {x : Str}, x ∈ k.map (·.1) → ∃ n, valueOf k x = some n
  | [], x, h => by cases h
  | (y, m) :: r, x, h => by
    unfold valueOf
    by_cases e : y = x
    · exact ⟨m, if_pos e⟩
    · rw [if_neg e]
      rcases List.mem_cons.mp h with q | q
      · exact absurd q.symm e
      · exact valueOf_some q
theorem wTs_get {hs : List Head} {g hd : Bool} {vs : List Str} {bl : Option Str} : ∀ {as : List Tree} {i : Nat} {a : Tree}, WTs hs g hd vs bl as → as[i]? = some a → WT hs g hd vs bl a
  | [], i, a, h, e => by simp at e
  | t :: r, 0, a, h, e => by
    simp at e
    subst e
    simp only [WTs] at h
    exact h.1
  | t :: r, i + 1, a, h, e => by
    simp at e
    simp only [WTs] at h
    exact wTs_get h.2 e
theorem takenOff_split {d : Str} : ∀ {k pre : List Frame} {h : Hand} {kept : Int} {r : List Frame}, takenOff d k = some (pre, h, kept, r) → k = pre ++ .stands h kept :: r
  | [], _, _, _, _, e => by cases e
  | f :: k, pre, h, kept, r, e => by
    by_cases hf : ∃ hd kk, f = .stands hd kk ∧ clauseFor hd.clauses d ≠ none
    · obtain ⟨hd, kk, rfl, hc⟩ := hf
      cases e2 : clauseFor hd.clauses d with
      | none => exact absurd e2 hc
      | some c =>
        rw [take_hit e2] at e
        cases e
        rfl
    · have h1 := take_pass (seen := []) (r := k) (d := d) (f := f) (fun hd kk e => by
        cases e2 : clauseFor hd.clauses d with
        | none => rfl
        | some c => exact absurd ⟨hd, kk, e, by rw [e2]; intro z; cases z⟩ hf)
      rw [addPre_nil, e] at h1
      cases e3 : takenOff d k with
      | none => rw [e3] at h1; cases h1
      | some q =>
        obtain ⟨q1, q2, q3, q4⟩ := q
        rw [e3] at h1
        simp [addPre] at h1
        obtain ⟨rfl, rfl, rfl, rfl⟩ := h1
        rw [takenOff_split e3]
        rfl
theorem clauseFor_mem {d : Str} : ∀ {cs : List Clause} {q : Clause}, clauseFor cs d = some q → q ∈ cs
  | [], q, e => by cases e
  | c :: r, q, e => by
    unfold clauseFor at e
    by_cases h : c.deed = d
    · rw [if_pos h] at e
      cases e
      exact List.mem_cons_self
    · rw [if_neg h] at e
      exact List.mem_cons_of_mem _ (clauseFor_mem e)
theorem thr_w (c : Wt) : ∀ (k : List Frame), c.en * (thrFs k).length ≤ wts c k
  | [] => by simp [thrFs]
  | f :: r => by
    have ih := thr_w c r
    simp only [thrFs, wts, List.length_append, Nat.mul_add]
    have : c.en * (thrF f).length ≤ wt c f := by
      cases f with
      | cleans n => simp only [thrF, wt, List.length_singleton]; omega
      | clause pre h kept w =>
        cases w with
        | true => simp [thrF]
        | false =>
          have := thr_w c pre
          simp only [thrF, wt]
          omega
      | _ => simp [thrF]
    omega
termination_by k => sizeOf k
section
variable {p : Prog} {hs : List Head} {c : Wt} {N : Nat}
theorem ScOk.two {x s : Str} {a b : Int} (ha : Sm a) (hb : Sm b) : ScOk hs [x, s] none ⟨[(s, a), (x, b)], none, none⟩ where
  vars := fun y hy => valueOf_some (by
    simp at hy ⊢
    rcases hy with h | h
    · exact .inr h
    · exact .inl h)
  nums := fun q hq => by
    simp at hq
    rcases hq with rfl | rfl
    · exact ha
    · exact hb
  block := rfl
  hand := fun y h => by cases h
theorem zip_keys : ∀ (ps : List Str) (ns : List Int), ps.length = ns.length → (ps.zip ns).map (·.1) = ps
  | [], ns, h => by simp
  | p :: ps, [], h => by simp at h
  | p :: ps, n :: ns, h => by
    simp at h
    simp [zip_keys ps ns h]
theorem ScOk.zip {ps : List Str} {ns : List Int} {b hd : Option Str} (hl : ps.length = ns.length) (hn : ∀ n ∈ ns, Sm n) (hh : ∀ y, b = some y → ∃ g, hd = some g ∧ PlainH hs g) : ScOk hs ps b ⟨(ps.zip ns).reverse, b, hd⟩ where
  vars := fun y hy => valueOf_some (by
    rw [List.map_reverse, List.mem_reverse, zip_keys ps ns hl]
    exact hy)
  nums := fun q hq => by
    rw [List.mem_reverse] at hq
    exact hn _ (List.of_mem_zip (a := q.1) (b := q.2) hq).2
  block := rfl
  hand := hh
theorem ScOk.let {vs : List Str} {bl : Option Str} {sc : Sc} (s : ScOk hs vs bl sc) (x : Str) {n : Int} (hn : Sm n) : ScOk hs (vs ++ [x]) bl ⟨(x, n) :: sc.known, sc.block, sc.handed⟩ where
  vars := fun y hy => by
    unfold valueOf
    by_cases e : x = y
    · exact ⟨n, if_pos e⟩
    · rw [if_neg e]
      rcases List.mem_append.mp hy with h | h
      · exact s.vars y h
      · exact absurd (List.mem_singleton.mp h).symm e
  nums := fun q hq => by
    rcases List.mem_cons.mp hq with h | h
    · rw [h]; exact hn
    · exact s.nums q h
  block := s.block
  hand := s.hand
theorem called_ok (P : PW p hs c) {g hd : Bool} {vs : List Str} {bl : Option Str} {f : Str} {h : Option Str} {as : List Tree} {sc : Sc} {ns : List Int} {k : List Frame} {ctl : Ctl} (t : WT hs g hd vs bl (.call f h as)) (s : ScOk hs vs bl sc) (hl : ns.length = as.length) (hn : ∀ n ∈ ns, Sm n) (hk : Chn hs c k) (hw : wts c k ≤ N) (hf : Fits c N 0 k) :
    ∃ o, called p sc f h ns k = some o ∧ Res hs c N ctl o := by
  have fin : ∀ fn : Fn, calleeOf p sc f = some fn → fn.params.length = ns.length → WT hs false true fn.params fn.block fn.body → co c fn.body ≤ c.b → (∀ y, fn.block = some y → ∃ g, handedOf sc h = some g ∧ PlainH hs g) → ∃ o, called p sc f h ns k = some o ∧ Res hs c N ctl o := by
    intro fn e1 e2 e3 e4 e5
    refine ⟨⟨true, [], none, .look fn.body ⟨(fn.params.zip ns).reverse, fn.block, handedOf sc h⟩ k⟩, by simp only [called, e1, e2, if_true], .turn rfl rfl (by simp) (by simp) ⟨⟨⟨_, _, _, _, e3, ScOk.zip e2 hn e5, fun z => by cases z⟩, hk⟩, ?_, ?_⟩⟩
    · show co c fn.body + wts c k ≤ _
      show _ ≤ N + (c.b + 3 * c.st + c.fi)
      omega
    · exact fits_mono c k 0 0 (by omega) hf
  simp only [WT] at t
  obtain ⟨t, ts⟩ := t
  rcases t with ⟨rfl, rfl, h1⟩ | ⟨h1, ps, b, h2, h3, h4, h5, h6⟩
  · obtain ⟨g', e1, x, e2⟩ := s.hand f rfl
    obtain ⟨fn, f1, f2, f3, f4, f5⟩ := P.fn _ _ _ e2
    refine fin fn ?_ (by rw [f2, hl, h1]; rfl) (by rw [f2, f3]; exact f4) f5 (fun y e => by rw [f3] at e; cases e)
    unfold calleeOf
    rw [s.block, if_pos rfl, e1]
    exact f1
  · obtain ⟨fn, f1, f2, f3, f4, f5⟩ := P.fn _ _ _ h2
    refine fin fn ?_ (by rw [f2, hl, h3]) (by rw [f2, f3]; exact f4) f5 (fun y e => ?_)
    · unfold calleeOf
      rw [s.block, if_neg h1]
      exact f1
    · rw [f3] at e
      obtain ⟨z, rfl, hz⟩ := h6 (by rw [e]; intro q; cases q)
      unfold handedOf
      by_cases e2 : some z = sc.block
      · rw [if_pos ⟨(fun q => by cases q), e2⟩]
        exact s.hand z (by rw [← s.block, ← e2])
      · rw [if_neg (fun q => e2 q.2)]
        rcases hz with q | q
        · exact absurd (by rw [s.block, q]) e2
        · exact ⟨z, rfl, q⟩
theorem look_ok (P : PW p hs c) {t : Tree} {sc : Sc} {k : List Frame} (i : Inv hs c N (.look t sc k)) : ∃ o, begunTree p t sc k = some o ∧ Res hs c N (.look t sc k) o := by
  obtain ⟨⟨⟨g, hd, vs, bl, ht, s, hg⟩, hk⟩, hw, hf⟩ := i
  simp only [Ctl.rest] at hf
  simp only [wc] at hw
  have no : ∀ e ∈ ([] : List Ent), isDo e = false ∧ entGood e := fun e he => by cases he
  have push : ∀ (a : Tree) (f : Frame), (g = true → InCl c (co c a) (f :: k)) → WT hs g hd vs bl a → FrOk hs c k f → co c a + wt c f + c.st ≤ co c t → FitF c N (wts c k + 0) f → Res hs c N (.look t sc k) ⟨false, [], none, .look a sc (f :: k)⟩ := by
    intro a f h1 h2 h3 h4 h5
    refine .plain rfl rfl no ⟨⟨g, hd, vs, bl, h2, s, h1⟩, ?_⟩ ?_ ?_
    · simp only [Chn]; exact ⟨h3, hk⟩
    · simp only [wc, wts, List.length_nil]
      omega
    · simp only [Ctl.rest, Fits]
      exact ⟨h5, hf⟩
  cases t with
  | num n =>
    refine ⟨_, rfl, .plain rfl rfl no ⟨by simpa only [WT] using ht, hk⟩ ?_ hf⟩
    simp only [wc, co, List.length_nil]
    omega
  | var x =>
    simp only [WT] at ht
    obtain ⟨n, hn⟩ := s.vars x ht
    obtain ⟨q, hq, e⟩ := valueOf_mem hn
    refine ⟨⟨false, [], none, .tell n k⟩, by simp only [begunTree, hn], .plain rfl rfl no ⟨by rw [← e]; exact s.nums q hq, hk⟩ ?_ hf⟩
    simp only [wc, co, List.length_nil]
    omega
  | call f h as =>
    cases as with
    | nil => exact called_ok P ht s rfl (fun n hn => by cases hn) hk (by omega) hf
    | cons a as =>
      have ht' := ht
      simp only [WT, WTs] at ht'
      refine ⟨_, rfl, push a _ (fun e => inCl_mono c k _ _ ?_ (hg e)) ht'.2.1 ?_ ?_ ?_⟩
      · simp only [wt, co, cos, List.length_nil, List.drop_succ_cons, List.drop_zero, Nat.zero_add]; omega
      · simp only [FrOk]
        refine ⟨g, hd, vs, bl, ht, s, by simp, (fun n hn => nomatch hn), fun e => inCl_mono c k _ _ ?_ (hg e)⟩
        simp only [wt, co, cos, List.length_nil, List.drop_succ_cons, List.drop_zero, Nat.zero_add]; omega
      · simp only [wt, co, cos, List.length_nil, List.drop_succ_cons, List.drop_zero, Nat.zero_add]; omega
      · simp only [FitF]
  | op sg a b =>
    have ht' := ht
    simp only [WT] at ht'
    refine ⟨_, rfl, push a _ (fun e => inCl_mono c k _ _ ?_ (hg e)) ht'.1 ?_ ?_ ?_⟩
    · simp only [wt, wfirst, co]; omega
    · simp only [FrOk]
      exact ⟨rfl, g, hd, vs, bl, ht, s, fun e => inCl_mono c k _ _ (by simp only [wfirst, co]; omega) (hg e)⟩
    · simp only [wt, wfirst, co]; omega
    · simp only [FitF]
  | lett x a b =>
    have ht' := ht
    simp only [WT] at ht'
    refine ⟨_, rfl, push a _ (fun e => inCl_mono c k _ _ ?_ (hg e)) ht'.1 ?_ ?_ ?_⟩
    · simp only [wt, wfirst, co]; omega
    · simp only [FrOk]
      exact ⟨rfl, g, hd, vs, bl, ht, s, fun e => inCl_mono c k _ _ (by simp only [wfirst, co]; omega) (hg e)⟩
    · simp only [wt, wfirst, co]; omega
    · simp only [FitF]
  | iff x a b =>
    have ht' := ht
    simp only [WT] at ht'
    refine ⟨_, rfl, push x _ (fun e => inCl_mono c k _ _ ?_ (hg e)) ht'.1 ?_ ?_ ?_⟩
    · simp only [wt, wfirst, co]; omega
    · simp only [FrOk]
      exact ⟨rfl, g, hd, vs, bl, ht, s, fun e => inCl_mono c k _ _ (by simp only [wfirst, co]; omega) (hg e)⟩
    · simp only [wt, wfirst, co]; omega
    · simp only [FitF]
  | deed d a =>
    have ht' := ht
    simp only [WT] at ht'
    refine ⟨_, rfl, push a _ (fun e => inCl_mono c k _ _ ?_ (hg e)) ht'.2 ?_ ?_ ?_⟩
    · simp only [wt, wfirst, co]; omega
    · simp only [FrOk]
      exact ht'.1
    · simp only [wt, wfirst, co]; omega
    · simp only [FitF]
  | handle x a b =>
    have ht' := ht
    simp only [WT] at ht'
    refine ⟨_, rfl, push a _ (fun e => inCl_mono c k _ _ ?_ (hg e)) ht'.2.2.1 ?_ ?_ ?_⟩
    · simp only [wt, wfirst, co]; omega
    · simp only [FrOk]
      exact ⟨rfl, g, hd, vs, bl, ht, s, fun e => inCl_mono c k _ _ (by simp only [wfirst, co]; omega) (hg e)⟩
    · simp only [wt, wfirst, co]; omega
    · simp only [FitF]
  | go a b =>
    have ht' := ht
    simp only [WT] at ht'
    refine ⟨_, rfl, push a _ (fun e => inCl_mono c k _ _ ?_ (hg e)) ht'.2.1 ?_ ?_ ?_⟩
    · simp only [wt, wfirst, co]; omega
    · simp only [FrOk]
      exact ⟨rfl, g, hd, vs, bl, ht, s, fun e => inCl_mono c k _ _ (by simp only [wfirst, co]; omega) (hg e)⟩
    · simp only [wt, wfirst, co]; omega
    · simp only [FitF]
  | guard a b =>
    have ht' := ht
    simp only [WT] at ht'
    refine ⟨_, rfl, push a _ (fun e => inCl_mono c k _ _ ?_ (hg e)) ht'.1 ?_ ?_ ?_⟩
    · simp only [wt, wfirst, co]; omega
    · simp only [FrOk]
      exact ⟨rfl, g, hd, vs, bl, ht, s, fun e => inCl_mono c k _ _ (by simp only [wfirst, co]; omega) (hg e)⟩
    · simp only [wt, wfirst, co]; omega
    · simp only [FitF]
/-- a number told to the first part's frame -/
theorem first_ok (P : PW p hs c) {t : Tree} {sc : Sc} {n : Int} {k : List Frame} (i : Inv hs c N (.tell n (.first t sc :: k))) : ∃ o, toldTree p t sc n k = some o ∧ Res hs c N (.tell n (.first t sc :: k)) o := by
  obtain ⟨⟨hn, hk⟩, hw, hf⟩ := i
  simp only [Chn, FrOk] at hk
  obtain ⟨⟨h0, g, hd, vs, bl, ht, s, hg⟩, hk⟩ := hk
  simp only [Ctl.rest, Fits] at hf
  obtain ⟨-, hf⟩ := hf
  have no : ∀ e ∈ ([] : List Ent), isDo e = false ∧ entGood e := fun e he => by cases he
  have push : ∀ (a : Tree) (g' : Bool) (f : Frame) (es : List Ent), (∀ e ∈ es, isDo e = false ∧ entGood e) → (g' = true → InCl c (co c a) (f :: k)) → WT hs g' hd vs bl a → FrOk hs c k f → co c a + wt c f + c.st + c.en * es.length ≤ wfirst c t → FitF c N (wts c k + 0) f → Res hs c N (.tell n (.first t sc :: k)) ⟨false, es, none, .look a sc (f :: k)⟩ := by
    intro a g' f es h0 h1 h2 h3 h4 h5
    refine .plain rfl rfl h0 ⟨⟨g', hd, vs, bl, h2, s, h1⟩, ?_⟩ ?_ ?_
    · simp only [Chn]; exact ⟨h3, hk⟩
    · simp only [wc, wts, wt]
      omega
    · simp only [Ctl.rest, Fits]
      exact ⟨h5, hf⟩
  have jump : ∀ (a : Tree) (vs' : List Str) (sc' : Sc), ScOk hs vs' bl sc' → (g = true → InCl c (co c a) k) → WT hs g hd vs' bl a → co c a + c.st ≤ wfirst c t → Res hs c N (.tell n (.first t sc :: k)) ⟨false, [], none, .look a sc' k⟩ := by
    intro a vs' sc' s' h1 h2 h4
    refine .plain rfl rfl no ⟨⟨g, hd, vs', bl, h2, s', h1⟩, hk⟩ ?_ ?_
    · simp only [wc, wts, wt, List.length_nil]
      omega
    · exact hf
  cases t with
  | num _ => cases h0
  | var _ => cases h0
  | call _ _ _ => cases h0
  | deed _ _ => cases h0
  | op sg a b =>
    have ht' := ht
    simp only [WT] at ht'
    refine ⟨_, rfl, push b g _ [] no (fun e => inCl_mono c k _ _ ?_ (hg e)) ht'.2 ?_ ?_ ?_⟩
    · simp only [wt, wfirst, co]; omega
    · simp only [FrOk]
      exact hn
    · simp only [wt, wfirst, co, List.length_nil]; omega
    · simp only [FitF]
  | lett x a b =>
    have ht' := ht
    simp only [WT] at ht'
    refine ⟨_, rfl, jump b _ _ (s.let x hn) (fun e => inCl_mono c k _ _ ?_ (hg e)) ht'.2 ?_⟩
    · simp only [wfirst, co]; omega
    · simp only [wfirst, co]; omega
  | iff x a b =>
    have ht' := ht
    simp only [WT] at ht'
    by_cases e : n ≠ 0
    · refine ⟨⟨false, [], none, .look a sc k⟩, by simp only [toldTree, if_pos e], jump a _ _ s (fun e => inCl_mono c k _ _ ?_ (hg e)) ht'.2.1 ?_⟩
      · simp only [wfirst, co]; omega
      · simp only [wfirst, co]; omega
    · refine ⟨⟨false, [], none, .look b sc k⟩, by simp only [toldTree, if_neg e], jump b _ _ s (fun e => inCl_mono c k _ _ ?_ (hg e)) ht'.2.2 ?_⟩
      · simp only [wfirst, co]; omega
      · simp only [wfirst, co]; omega
  | handle x a b =>
    have ht' := ht
    simp only [WT] at ht'
    obtain ⟨hh, e1, e2⟩ := P.hd _ ht'.2.1
    refine ⟨⟨false, [], none, .look b sc (.stands hh n :: k)⟩, by simp only [toldTree, e1], push b false _ [] no (fun e => by cases e) ht'.2.2.2 ?_ ?_ ?_⟩
    · simp only [FrOk]
      exact ⟨e2, hn⟩
    · simp only [wt, wfirst, co, List.length_nil]; omega
    · simp only [FitF]
  | go a b =>
    have ht' := ht
    simp only [WT] at ht'
    refine ⟨_, rfl, push b g _ [] no (fun e => inCl_mono c k _ _ ?_ (hg e)) ht'.2.2 ?_ ?_ ?_⟩
    · simp only [wt, wfirst, co]; omega
    · simp only [FrOk]
      exact ⟨hn, inCl_mono c k _ _ (by simp only [wfirst]; omega) (hg ht'.1)⟩
    · simp only [wt, wfirst, co, List.length_nil]; omega
    · simp only [FitF]
  | guard a b =>
    have ht' := ht
    simp only [WT] at ht'
    refine ⟨_, rfl, push b g _ [.guard n] (fun e he => by rw [List.mem_singleton.mp he]; exact ⟨rfl, True.intro⟩) (fun e => inCl_mono c k _ _ ?_ (hg e)) ht'.2 ?_ ?_ ?_⟩
    · simp only [wt, wfirst, co]; omega
    · simp only [FrOk]
    · simp only [wt, wfirst, co, List.length_singleton]; omega
    · simp only [FitF]
theorem reckoned_great (n : Int) (h : ¬ n.natAbs > great.natAbs) : Sm n := by
  have : great.natAbs = 10 ^ 18 := by decide
  rw [this] at h
  exact Nat.le_of_not_lt h
theorem step_ok (P : PW p hs c) {ctl : Ctl} (i : Inv hs c N ctl) : (∃ n, ctl = .tell n []) ∨ ∃ o, step p ctl = some o ∧ Res hs c N ctl o := by
  cases ctl with
  | look t sc k => exact .inr (look_ok P i)
  | tell n k =>
    cases k with
    | nil => exact .inl ⟨n, rfl⟩
    | cons f k =>
      right
      cases f with
      | first t sc => exact first_ok P i
      | args f h as ns sc =>
        obtain ⟨⟨hn, hk⟩, hw, hf⟩ := i
        simp only [Chn, FrOk] at hk
        obtain ⟨⟨g, hd, vs, bl, ht, s, hl, hns, hg⟩, hk⟩ := hk
        simp only [Ctl.rest, Fits] at hf
        obtain ⟨-, hf⟩ := hf
        simp only [wc, wts, wt] at hw
        have hns' : ∀ m ∈ ns ++ [n], Sm m := fun m hm => by
          rcases List.mem_append.mp hm with q | q
          · exact hns m q
          · rw [List.mem_singleton.mp q]; exact hn
        simp only [step, told, toldArg]
        cases e : as[ns.length + 1]? with
        | none =>
          have hl2 : ns.length + 1 = as.length := by
            have := List.getElem?_eq_none_iff.mp e
            omega
          simp only [if_pos hl2]
          exact called_ok P ht s (by simpa using hl2) hns' hk (by omega) hf
        | some a =>
          have hlt := (List.getElem?_eq_some_iff.mp e).1
          have hdrop : as.drop (ns.length + 1) = a :: as.drop (ns.length + 1 + 1) := by
            rw [List.drop_eq_getElem_cons hlt, (List.getElem?_eq_some_iff.mp e).2]
          have hwt : wt c (.args f h as ns sc) = c.st + (co c a + c.st + cos c (as.drop (ns.length + 1 + 1))) := by
            simp only [wt, hdrop, cos]
          have hwt2 : wt c (.args f h as (ns ++ [n]) sc) = c.st + cos c (as.drop (ns.length + 1 + 1)) := by
            simp only [wt, List.length_append, List.length_singleton]
          have ht' := ht
          simp only [WT] at ht'
          rw [hwt] at hg
          refine ⟨_, rfl, .plain rfl rfl (fun e he => by cases he) ⟨⟨g, hd, vs, bl, wTs_get ht'.2 e, s, fun e => ?_⟩, ?_⟩ ?_ ?_⟩
          · show InCl c (co c a + wt c (.args f h as (ns ++ [n]) sc)) k
            rw [hwt2]
            exact inCl_mono c k _ _ (by omega) (hg e)
          · simp only [Chn, FrOk]
            refine ⟨⟨g, hd, vs, bl, ht, s, by simp; omega, hns', fun e => ?_⟩, hk⟩
            rw [hwt2]
            exact inCl_mono c k _ _ (by omega) (hg e)
          · simp only [wc, wts, hwt, hwt2, List.length_nil]
            omega
          · simp only [Ctl.rest, Fits, FitF]
            exact ⟨True.intro, hf⟩
      | second sg a =>
        obtain ⟨⟨hn, hk⟩, hw, hf⟩ := i
        simp only [Chn, FrOk] at hk
        simp only [Ctl.rest, Fits] at hf
        have hg : great.natAbs = 10 ^ 18 := by decide
        simp only [step, told, toldSecond]
        have h1 : a.natAbs ≤ great.natAbs ∧ n.natAbs ≤ great.natAbs := by rw [hg]; exact ⟨hk.1, hn⟩
        rw [if_pos h1]
        refine ⟨_, rfl, ?_⟩
        by_cases e : (reckoned sg a n).natAbs > great.natAbs
        · rw [if_pos e]
          exact .great rfl rfl rfl
        · rw [if_neg e]
          refine .plain rfl rfl (fun e he => by cases he) ⟨reckoned_great _ e, hk.2⟩ ?_ hf.2
          simp only [wc, wts, wt, List.length_nil]
          omega
      | deed d =>
        obtain ⟨⟨hn, hk⟩, hw, hf⟩ := i
        simp only [Chn, FrOk] at hk
        simp only [Ctl.rest, Fits] at hf
        simp only [wc, wts, wt] at hw
        simp only [step, told, asked]
        cases e : takenOff d k with
        | none => 
          refine ⟨_, rfl, .asks d n k rfl rfl rfl hk.1 rfl ⟨⟨hn, hk.2⟩, ?_, ?_⟩⟩
          · show wts c k ≤ N + (c.b + 3 * c.st + c.fi)
            omega
          · exact fits_mono c k 0 0 (by omega) hf.2
        | some q =>
          obtain ⟨pre, h, kept, r⟩ := q
          have hc := takenOff_clause e
          cases e2 : clauseFor h.clauses d with
          | none => rw [e2] at hc; cases hc
          | some q =>
            have e3 := takenOff_split e
            rw [e3] at hk hf hw
            obtain ⟨k1, k2, k3⟩ := chn_pre h kept r pre hk.2
            simp only [FrOk] at k2
            obtain ⟨k2, k4⟩ := k2
            obtain ⟨b1, b2⟩ := k2.cl q (clauseFor_mem e2)
            rw [wts_app] at hw
            simp only [wts, wt] at hw
            have hf2 := (fits_app c N pre _ 0).mp hf.2
            simp only [wts, wt, Fits] at hf2
            dsimp only
            rw [e2]
            refine ⟨_, rfl, .turn rfl rfl (by simp) (fun e he => by rw [List.mem_singleton.mp he]; exact hk.1) ⟨⟨⟨true, true, _, none, b1, ScOk.two k4 hn, fun _ => b2⟩, ?_⟩, ?_, ?_⟩⟩
            · simp only [Chn, FrOk]
              exact ⟨⟨k1, k2⟩, k3⟩
            · simp only [wc, wts, wt]
              show _ ≤ N + (c.b + 3 * c.st + c.fi)
              omega
            · simp only [Ctl.rest, Fits, FitF]
              refine ⟨⟨?_, ?_⟩, ?_⟩
              · show _ ≤ N + (c.b + 3 * c.st + c.fi)
                omega
              · exact fits_mono c pre _ _ (by omega) hf2.1
              · exact fits_mono c r _ _ (by omega) hf2.2.2
      | goes a =>
        obtain ⟨⟨hn, hk⟩, hw, hf⟩ := i
        simp only [Chn, FrOk] at hk
        obtain ⟨⟨ha, hi⟩, hk⟩ := hk
        simp only [Ctl.rest, Fits] at hf
        simp only [wc, wts, wt] at hw
        obtain ⟨over, pre, h, kept, w, r, e1, e2, e3⟩ := inCl_gone c k _ hi
        subst e2
        obtain ⟨q1, q2, q3, q4⟩ := chn_went pre h kept w r over hk
        simp only [step, told, toldGo, e1]
        have hf2 := (fits_app c N over _ 0).mp hf.2
        simp only [Fits, FitF] at hf2
        obtain ⟨f1, ⟨f2, f3⟩, f4⟩ := hf2
        refine ⟨_, rfl, .turn rfl rfl (by simp) (fun e he => by cases he) ⟨⟨ha, ?_⟩, ?_, ?_⟩⟩
        · refine chn_app ?_ pre q2
          simp only [Chn, FrOk]
          exact ⟨⟨q3, hn⟩, q1⟩
        · simp only [wc, wts_app, wts, wt]
          show _ ≤ N + (c.b + 3 * c.st + c.fi)
          omega
        · simp only [Ctl.rest]
          rw [fits_app]
          simp only [Fits, FitF]
          rw [fits_app]
          simp only [Fits, FitF, wts, wt, wts_app]
          refine ⟨fits_mono c pre _ _ ?_ f3, True.intro, fits_mono c over _ _ ?_ f1, ⟨?_, fits_mono c pre _ _ (by omega) f3⟩, fits_mono c r _ _ (by omega) f4⟩
          · show _ ≤ _ + (N + (c.b + 3 * c.st + c.fi))
            omega
          · have : 2 * c.st ≤ wt c (.clause pre h kept w) := by cases w <;> simp only [wt] <;> omega
            simp only [wts]
            omega
          · show _ ≤ N + (c.b + 3 * c.st + c.fi)
            omega
      | clause pre h kept w =>
        obtain ⟨⟨hn, hk⟩, hw, hf⟩ := i
        simp only [Chn, FrOk] at hk
        simp only [Ctl.rest, Fits] at hf
        refine ⟨_, rfl, .plain rfl rfl ?_ ⟨hn, hk.2⟩ ?_ hf.2⟩
        · intro e he
          cases w with
          | true => cases he
          | false =>
            simp at he
            obtain ⟨m, _, rfl⟩ := he
            exact ⟨rfl, True.intro⟩
        · cases w with
          | true =>
            simp only [wc, wts, wt, if_true, List.length_nil]
            omega
          | false =>
            have := thr_w c pre
            simp only [wc, wts, wt, Bool.false_eq_true, if_false, List.length_map]
            omega
      | stands h kept =>
        obtain ⟨⟨hn, hk⟩, hw, hf⟩ := i
        simp only [Chn, FrOk] at hk
        simp only [Ctl.rest, Fits] at hf
        refine ⟨_, rfl, .plain rfl rfl (fun e he => by cases he) ⟨⟨false, false, _, none, hk.1.1.fin.1, ScOk.two hk.1.2 hn, fun z => by cases z⟩, hk.2⟩ ?_ hf.2⟩
        have := hk.1.1.fin.2
        simp only [wc, wts, wt, List.length_nil]
        omega
      | cleans m =>
        obtain ⟨⟨hn, hk⟩, hw, hf⟩ := i
        simp only [Chn, FrOk] at hk
        simp only [Ctl.rest, Fits] at hf
        refine ⟨_, rfl, .plain rfl rfl (fun e he => by rw [List.mem_singleton.mp he]; exact ⟨rfl, True.intro⟩) ⟨hn, hk.2⟩ ?_ hf.2⟩
        simp only [wc, wts, wt, List.length_singleton]
        omega
end
end DL
set_option maxHeartbeats 800000
/-! K55c: each run comes to an end within the sizes -/
namespace DL
open PySem PySem.Spec PyProof.Rows L2

mutual
theorem wF_wt (c : Wt) (h : c.st = 1) : ∀ f : Frame, wF f ≤ wt c f
  | .args _ _ _ _ _ => by simp only [wF, wt]; omega
  | .first t _ => by cases t <;> simp only [wF, wt, wfirst] <;> omega
  | .second _ _ => by simp only [wF, wt]; omega
  | .deed _ => by simp only [wF, wt]; omega
  | .goes _ => by simp only [wF, wt]; omega
  | .stands _ _ => by simp only [wF, wt]; omega
  | .cleans _ => by simp only [wF, wt]; omega
  | .clause pre _ _ false => by
    have := wFs_wts c h pre
    simp only [wF, wt]
    omega
  | .clause pre _ _ true => by simp only [wF, wt]; omega
theorem wFs_wts (c : Wt) (h : c.st = 1) : ∀ k : List Frame, wFs k ≤ wts c k
  | [] => by simp only [wFs, wts]; omega
  | f :: r => by
    have := wF_wt c h f
    have := wFs_wts c h r
    simp only [wFs, wts]
    omega
end
theorem gone_split : ∀ {k over pre : List Frame} {h : Hand} {kept : Int} {r : List Frame}, goneFrom k = some (over, pre, h, kept, r) → ∃ w, k = over ++ .clause pre h kept w :: r
  | [], _, _, _, _, _, e => by cases e
  | f :: k, over, pre, h, kept, r, e => by
    by_cases hf : ∃ pre hd kk w, f = .clause pre hd kk w
    · obtain ⟨pre', hd', kk', w', rfl⟩ := hf
      simp only [goneFrom] at e
      cases e
      exact ⟨w', rfl⟩
    · rw [gone_pass (fun a b c d z => hf ⟨a, b, c, d, z⟩)] at e
      cases e2 : goneFrom k with
      | none => rw [e2] at e; cases e
      | some q =>
        obtain ⟨q1, q2, q3, q4, q5⟩ := q
        rw [e2] at e
        cases e
        obtain ⟨w, e3⟩ := gone_split e2
        exact ⟨w, by rw [e3]; rfl⟩
/-- how long the record may be behind u turns -/
def Lg (B : Nat) : Nat → Nat
  | 0 => B
  | u + 1 => Lg B u + 1 + (u + 2) * B
theorem lg_mono (B : Nat) : ∀ {u v : Nat}, u ≤ v → Lg B u ≤ Lg B v
  | u, 0, h => by
    obtain rfl : u = 0 := by omega
    exact Nat.le_refl _
  | u, v + 1, h => by
    by_cases e : u = v + 1
    · rw [e]; exact Nat.le_refl _
    · have := lg_mono B (u := u) (v := v) (by omega)
      have : Lg B (v + 1) = Lg B v + 1 + (v + 2) * B := rfl
      omega
theorem lg_40 (B : Nat) : Lg B 40 = 861 * B + 40 := by
  simp only [Lg]
  omega
structure Lim (c1 c2 : Wt) : Prop where
  s1 : c1.st = 1
  e1 : c1.en = 0
  s2 : c2.st = 0
  e2 : c2.en = 1
  b1 : 41 * c1.B ≤ 10000000
  b2 : 861 * c2.B + 41 ≤ 10000000
structure St (hs : List Head) (c1 c2 : Wt) (cs : CS) (ctl : Ctl) : Prop where
  i1 : Inv hs c1 ((cs.used + 1) * c1.B) ctl
  i2 : Inv hs c2 ((cs.used + 1) * c2.B) ctl
  lg : cs.log.length + wc c2 ctl ≤ Lg c2.B cs.used
  gd : ∀ e ∈ cs.log, entGood e
theorem le41 {B u : Nat} (hu : u ≤ 40) : (u + 1) * B ≤ 41 * B := Nat.mul_le_mul_right B (by omega)
section
variable {p : Prog} {hs : List Head} {c1 c2 : Wt} {T : Nat}
theorem St.sz (L : Lim c1 c2) {cs : CS} {ctl : Ctl} (s : St hs c1 c2 cs ctl) (hu : cs.used ≤ 40) : ctl.sz := by
  cases ctl with
  | look t sc k => exact True.intro
  | tell n k =>
    obtain ⟨ok, w, fit⟩ := s.i1
    have h1 := wFs_wts c1 L.s1 k
    have hb := L.b1
    have hm := le41 (B := c1.B) hu
    simp only [wc] at w
    refine ⟨by omega, ?_⟩
    cases k with
    | nil => exact True.intro
    | cons f k =>
      cases f
      case args f h as ns sc =>
        obtain ⟨-, hk⟩ := ok
        simp only [Chn, FrOk, WT] at hk
        obtain ⟨⟨g, hd, vs, bl, ⟨ht, _⟩, _, hl, _⟩, _⟩ := hk
        show ns.length ≤ 10000000
        rcases ht with ⟨_, _, q⟩ | ⟨_, _, _, _, _, q, _⟩ <;> omega
      case goes a =>
        intro over pre h kept r e
        obtain ⟨w', e2⟩ := gone_split e
        simp only [Ctl.rest, Fits] at fit
        rw [e2] at fit
        have f2 := (fits_app c1 _ over _ 0).mp fit.2
        simp only [Fits, FitF] at f2
        have := wFs_len pre
        have := wFs_wts c1 L.s1 pre
        omega
      all_goals exact True.intro
/-- what a run's end keeps -/
structure FinOk (hs : List Head) (c1 c2 : Wt) (T : Nat) (F : Fin) : Prop where
  good : FinGood F
  used : F.used ≤ T
  st : isAsks F.fin = true → ∀ a, Sm a → St hs c1 c2 ⟨F.used, F.log, none⟩ (.tell a F.rest)
theorem St.len (L : Lim c1 c2) {cs : CS} {ctl : Ctl} (s : St hs c1 c2 cs ctl) (hu : cs.used ≤ 40) : cs.log.length + wc c2 ctl + 1 ≤ 10000000 := by
  have := s.lg
  have h := lg_mono c2.B hu
  rw [lg_40] at h
  have := L.b2
  omega
theorem Res.sz {c : Wt} {N : Nat} {ctl : Ctl} {o : Out} (he : c.en = 1) (r : Res hs c N ctl o) : o.ents.length ≤ wc c ctl + 1 := by
  cases r with
  | plain a1 a2 a3 a4 a5 a6 =>
    rw [he] at a5
    omega
  | great a1 a2 a3 => rw [a2]; simp
  | turn a1 a2 a3 => omega
  | asks d n k a1 a2 a3 => rw [a3]; simp
theorem mul_next {u B : Nat} : (u + 1) * B + B = (u + 1 + 1) * B := by rw [Nat.succ_mul (u + 1)]
theorem runs_one (L : Lim c1 c2) (P1 : PW p hs c1) (P2 : PW p hs c2) (hT : T ≤ 40) {cs : CS} {ctl : Ctl} (hf : cs.fin = none) (hu : cs.used ≤ T) (s : St hs c1 c2 cs ctl)
    (ihw : ∀ cs' ctl', cs'.used = cs.used → wc c1 ctl' < wc c1 ctl → cs'.fin = none → St hs c1 c2 cs' ctl' → ∃ n F, Runs p T n cs' ctl' F ∧ FinOk hs c1 c2 T F)
    (ihm : ∀ cs' ctl', cs'.used = cs.used + 1 → cs.used < T → cs'.fin = none → St hs c1 c2 cs' ctl' → ∃ n F, Runs p T n cs' ctl' F ∧ FinOk hs c1 c2 T F) : ∃ n F, Runs p T n cs ctl F ∧ FinOk hs c1 c2 T F := by
  have sz := s.sz L (by omega)
  have len := s.len L (by omega)
  rcases step_ok P1 s.i1 with ⟨n, rfl⟩ | ⟨o, ho, r1⟩
  · exact ⟨0, _, .done hf, ⟨⟨s.gd, True.intro, by dsimp only; omega⟩, hu, fun q => by cases q⟩⟩
  rcases step_ok P2 s.i2 with ⟨n, rfl⟩ | ⟨o', ho', r2⟩
  · cases ho
  rw [ho] at ho'
  cases ho'
  have l2 : cs.log.length + o.ents.length ≤ 10000000 := by
    have := r2.sz L.e2
    omega
  have spent : o.turn = true → T ≤ cs.used → ∃ n F, Runs p T n cs ctl F ∧ FinOk hs c1 c2 T F := by
    intro h1 h2
    have e : after T cs o = ({ cs with fin := some .spent }, none) := by rw [after_turn h1, if_pos h2]
    refine ⟨0, _, .fin (e := .spent) hf ho sz l2 (by rw [e]), ?_⟩
    rw [e]
    exact ⟨⟨s.gd, True.intro, by dsimp only; omega⟩, hu, fun q => by cases q⟩
  have app : ∀ {es : List Ent}, (∀ e ∈ es, entGood e) → ∀ e ∈ cs.log ++ es, entGood e := fun h e he => by
    rcases List.mem_append.mp he with q | q
    · exact s.gd e q
    · exact h e q
  cases r1 with
  | great a1 a2 a3 =>
    have e : after T cs o = ({ used := cs.used, log := cs.log ++ o.ents, fin := o.fin }, some o.ctl) := after_no a1
    refine ⟨0, _, .fin (e := .great) hf ho sz l2 (by rw [e]; exact a3), ?_⟩
    rw [e, a2]
    refine ⟨⟨?_, True.intro, ?_⟩, hu, fun q => by cases q⟩
    · simpa using s.gd
    · simp; omega
  | plain a1 a2 a3 a4 a5 a6 =>
    cases r2 with
    | great b1 b2 b3 => rw [a2] at b3; cases b3
    | turn b1 => rw [a1] at b1; cases b1
    | asks d n k b1 => rw [a1] at b1; cases b1
    | plain b1 b2 b3 b4 b5 b6 =>
      have e : after T cs o = ({ used := cs.used, log := cs.log ++ o.ents, fin := o.fin }, some o.ctl) := after_no a1
      have hlg := s.lg
      rw [L.e2, L.s2] at b5
      rw [L.s1] at a5
      obtain ⟨n, F, h1, h2⟩ := ihw { used := cs.used, log := cs.log ++ o.ents, fin := o.fin } o.ctl rfl (by omega) a2 ⟨⟨a4, by have := s.i1.w; dsimp only; omega, a6⟩, ⟨b4, by have := s.i2.w; dsimp only; omega, b6⟩, by simp; omega, app fun e he => (a3 e he).2⟩
      exact ⟨n + 1, F, .next hf ho sz l2 (by rw [e]; exact a2) (by rw [e]) (by rw [e]; exact h1), h2⟩
  | turn a1 a2 a3 a4 a5 =>
    cases r2 with
    | great b1 => rw [a1] at b1; cases b1
    | plain b1 => rw [a1] at b1; cases b1
    | asks d n k b1 b2 => rw [a2] at b2; cases b2
    | turn b1 b2 b3 b4 b5 =>
      by_cases hT : T ≤ cs.used
      · exact spent a1 hT
      have e : after T cs o = ({ used := cs.used + 1, log := cs.log ++ o.ents, fin := o.fin }, some o.ctl) := by rw [after_turn a1, if_neg hT]
      have hlg := s.lg
      rw [mul_next] at a5 b5
      obtain ⟨n, F, h1, h2⟩ := ihm { used := cs.used + 1, log := cs.log ++ o.ents, fin := o.fin } o.ctl rfl (by omega) a2 ⟨a5, b5, by
        have : Lg c2.B (cs.used + 1) = Lg c2.B cs.used + 1 + (cs.used + 1 + 1) * c2.B := rfl
        have := b5.w
        simp
        omega, app a4⟩
      exact ⟨n + 1, F, .next hf ho sz l2 (by rw [e]; exact a2) (by rw [e]) (by rw [e]; exact h1), h2⟩
  | asks d n k a1 a2 a3 a4 a5 a6 =>
    cases r2 with
    | great b1 => rw [a1] at b1; cases b1
    | plain b1 => rw [a1] at b1; cases b1
    | turn b1 b2 => rw [a2] at b2; cases b2
    | asks d' n' k' b1 b2 b3 b4 b5 b6 =>
      by_cases hT : T ≤ cs.used
      · exact spent a1 hT
      have e : after T cs o = ({ used := cs.used + 1, log := cs.log ++ o.ents, fin := o.fin }, some o.ctl) := by rw [after_turn a1, if_neg hT]
      have hlg := s.lg
      rw [mul_next] at a6 b6
      rw [a5] at a6 b6
      refine ⟨0, _, .fin (e := .asks d n) hf ho sz l2 (by rw [e]; exact a2), ?_⟩
      rw [e]
      have gd : ∀ e ∈ cs.log ++ o.ents, entGood e := app fun e he => by
        rw [a3] at he
        rw [List.mem_singleton.mp he]
        exact a4
      refine ⟨⟨gd, a4, by simp; omega⟩, by dsimp only; omega, fun _ a ha => ?_⟩
      dsimp only [orest]
      rw [a5]
      have w1 := a6.w
      have w2 := b6.w
      simp only [wc] at w1 w2
      refine ⟨⟨⟨ha, a6.ok.2⟩, w1, a6.fit⟩, ⟨⟨ha, b6.ok.2⟩, w2, b6.fit⟩, ?_, gd⟩
      have : Lg c2.B (cs.used + 1) = Lg c2.B cs.used + 1 + (cs.used + 1 + 1) * c2.B := rfl
      simp [a3, wc, Ctl.rest]
      omega
theorem runs_ex (L : Lim c1 c2) (P1 : PW p hs c1) (P2 : PW p hs c2) (hT : T ≤ 40) : ∀ (m w : Nat) (cs : CS) (ctl : Ctl), T - cs.used ≤ m → wc c1 ctl ≤ w → cs.fin = none → cs.used ≤ T → St hs c1 c2 cs ctl → ∃ n F, Runs p T n cs ctl F ∧ FinOk hs c1 c2 T F := by
  intro m
  induction m with
  | zero => 
    intro w
    induction w with
    | zero =>
      intro cs ctl hm hw hf hu s
      exact runs_one L P1 P2 hT hf hu s (fun _ _ _ _ => by omega) (fun _ _ _ _ => by omega)
    | succ w ihw =>
      intro cs ctl hm hw hf hu s
      exact runs_one L P1 P2 hT hf hu s (fun cs' ctl' h1 h2 h3 h4 => ihw cs' ctl' (by omega) (by omega) h3 (by omega) h4) (fun _ _ _ _ => by omega)
  | succ m ihm =>
    intro w
    induction w with
    | zero =>
      intro cs ctl hm hw hf hu s
      exact runs_one L P1 P2 hT hf hu s (fun _ _ _ _ => by omega) (fun cs' ctl' h1 h2 h3 h4 => ihm _ cs' ctl' (by omega) (Nat.le_refl _) h3 (by omega) h4)
    | succ w ihw =>
      intro cs ctl hm hw hf hu s
      exact runs_one L P1 P2 hT hf hu s (fun cs' ctl' h1 h2 h3 h4 => ihw cs' ctl' (by omega) (by omega) h3 (by omega) h4) (fun cs' ctl' h1 h2 h3 h4 => ihm _ cs' ctl' (by omega) (Nat.le_refl _) h3 (by omega) h4)
theorem goOn_ex (L : Lim c1 c2) (P1 : PW p hs c1) (P2 : PW p hs c2) (hT : T ≤ 40) : ∀ (as : List Int) (F : Fin), (∀ a ∈ as, Sm a) → FinOk hs c1 c2 T F → ∃ R, GoOn p T as F R ∧ FinOk hs c1 c2 T R
  | [], F, ha, hF => ⟨F, rfl, hF⟩
  | a :: as, F, ha, hF => by
    by_cases h : isAsks F.fin = true
    · obtain ⟨n, F', h1, h2⟩ := runs_ex L P1 P2 hT _ _ _ _ (Nat.le_refl _) (Nat.le_refl _) rfl hF.used (hF.st h a (ha a List.mem_cons_self))
      obtain ⟨R, h3, h4⟩ := goOn_ex L P1 P2 hT as F' (fun x hx => ha x (List.mem_cons_of_mem _ hx)) h2
      refine ⟨R, ?_, h4⟩
      unfold GoOn
      rw [if_pos h]
      exact ⟨n, F', h1, h3⟩
    · refine ⟨F, ?_, hF⟩
      unfold GoOn
      rw [if_neg h]
theorem begins_ex (L : Lim c1 c2) (P1 : PW p hs c1) (P2 : PW p hs c2) (hT : T ≤ 40) {f : Str} {ps : List Str} {ns : List Int} (hf : Head.fn f ps none ∈ hs) (hl : ns.length = ps.length) (hn : ∀ n ∈ ns, Sm n) : ∃ F, Begins p T f ns F ∧ FinOk hs c1 c2 T F := by
  obtain ⟨fn, e1, e2, e3, e4, e5⟩ := P1.fn _ _ _ hf
  obtain ⟨fn', e1', _, _, _, e5'⟩ := P2.fn _ _ _ hf
  rw [e1] at e1'
  cases e1'
  have sc : ScOk hs ps none ⟨(fn.params.zip ns).reverse, none, none⟩ := by
    rw [e2]
    exact ScOk.zip (b := none) (hd := none) (by omega) hn fun y h => by cases h
  have B1 : c1.b ≤ c1.B := by show _ ≤ c1.b + 3 * c1.st + c1.fi; omega
  have B2 : c2.b ≤ c2.B := by show _ ≤ c2.b + 3 * c2.st + c2.fi; omega
  obtain ⟨n, F, h1, h2⟩ := runs_ex L P1 P2 hT _ _ cs0 (.look fn.body ⟨(fn.params.zip ns).reverse, none, none⟩ []) (Nat.le_refl _) (Nat.le_refl _) rfl (Nat.zero_le _) ⟨⟨⟨⟨_, _, _, _, e4, sc, fun z => by cases z⟩, by simp only [Chn]⟩, by simp only [wc, wts]; omega, by simp only [Ctl.rest, Fits]⟩, ⟨⟨⟨_, _, _, _, e4, sc, fun z => by cases z⟩, by simp only [Chn]⟩, by simp only [wc, wts]; omega, by simp only [Ctl.rest, Fits]⟩, by simp only [wc, wts, Lg, List.length_nil]; omega, fun e he => by cases he⟩
  exact ⟨F, ⟨⟨fn, n, e1, e3, by rw [e2, hl], h1⟩⟩, h2⟩
end
end DL
set_option maxHeartbeats 800000
/-! K55d: two runs with different bounds -/
namespace DL
open PySem PySem.Spec PyProof.Rows L2

abbrev dos (es : List Ent) : Nat := (es.filter isDo).length
theorem dos_app (a b : List Ent) : dos (a ++ b) = dos a + dos b := by simp [dos, List.filter_append]
theorem dos_clean (ns : List Int) : dos (ns.map Ent.clean) = 0 := by
  induction ns with
  | nil => rfl
  | cons n ns ih => simpa [dos, List.filter_cons, isDo] using ih
theorem called_dos {p : Prog} {sc : Sc} {f : Str} {h : Option Str} {ns : List Int} {k : List Frame} {o : Out} (e : called p sc f h ns k = some o) : dos o.ents ≤ o.turn.toNat ∧ o.fin ≠ some .spent := by
  unfold called at e
  split at e
  · split at e <;> cases e
    exact ⟨by simp [dos], by simp⟩
  · cases e
theorem step_dos {p : Prog} {c : Ctl} {o : Out} (h : step p c = some o) : dos o.ents ≤ o.turn.toNat ∧ o.fin ≠ some .spent := by
  have d0 : dos [] ≤ (false).toNat := by simp [dos]
  cases c with
  | look t sc k =>
    simp only [step] at h
    unfold begunTree at h
    split at h
    · cases h; exact ⟨d0, by simp⟩
    · split at h <;> cases h; exact ⟨d0, by simp⟩
    · exact called_dos h
    all_goals (cases h; exact ⟨d0, by simp⟩)
  | tell n k =>
    simp only [step] at h
    cases k with
    | nil => cases h
    | cons f k =>
      cases f with
      | args f hh as ns sc =>
        simp only [told, toldArg] at h
        split at h
        · cases h; exact ⟨d0, by simp⟩
        · split at h
          · exact called_dos h
          · cases h
      | second s a =>
        simp only [told, toldSecond] at h
        split at h <;> cases h
        refine ⟨d0, ?_⟩
        dsimp only
        split <;> simp
      | deed d =>
        simp only [told, asked] at h
        split at h
        · cases h; exact ⟨Nat.le_refl _, by simp⟩
        · split at h
          · cases h; exact ⟨Nat.le_refl _, by simp⟩
          · cases h
      | goes a =>
        simp only [told, toldGo] at h
        split at h <;> cases h
        exact ⟨by simp [dos], by simp⟩
      | clause pre hd kept went =>
        simp only [told, toldClause] at h
        cases h
        refine ⟨?_, by simp⟩
        dsimp only
        split
        · exact d0
        · rw [dos_clean]; exact Nat.zero_le _
      | stands hd kept =>
        simp only [told] at h
        cases h
        exact ⟨d0, by simp⟩
      | cleans m =>
        simp only [told] at h
        cases h
        exact ⟨by simp [dos, isDo], by simp⟩
      | first t sc =>
        simp only [told, toldTree] at h
        split at h
        all_goals first
          | (cases h; exact ⟨d0, by simp⟩)
          | (cases h; exact ⟨by simp [dos, isDo], by simp⟩)
          | (cases h; done)
          | (split at h <;> cases h; exact ⟨d0, by simp⟩)
/-- what a run's end keeps, whatever the program -/
structure Facts (T : Nat) (u : Nat) (log : List Ent) (F : Fin) : Prop where
  used : F.used ≤ T
  sp : F.fin = .spent → F.used = T
  up : u ≤ F.used
  dos : dos F.log ≤ F.used
  pre : log <+: F.log
theorem after_facts {p : Prog} {T : Nat} {cs : CS} {c : Ctl} {o : Out} (h : step p c = some o) (hu : cs.used ≤ T) (hd : dos cs.log ≤ cs.used) : (after T cs o).1.used ≤ T ∧ cs.used ≤ (after T cs o).1.used ∧ dos (after T cs o).1.log ≤ (after T cs o).1.used ∧ cs.log <+: (after T cs o).1.log ∧ ((after T cs o).1.fin = some .spent → (after T cs o).1.used = T) := by
  obtain ⟨h1, h2⟩ := step_dos h
  unfold after
  by_cases e : o.turn = true ∧ T ≤ cs.used
  · rw [if_pos e]
    exact ⟨hu, Nat.le_refl _, hd, List.prefix_refl _, fun _ => Nat.le_antisymm hu e.2⟩
  · rw [if_neg e]
    dsimp only
    refine ⟨?_, by omega, by rw [dos_app]; omega, List.prefix_append _ _, fun z => absurd z h2⟩
    cases ht : o.turn with
    | false => simpa using hu
    | true =>
      have : ¬ T ≤ cs.used := fun z => e ⟨ht, z⟩
      simp
      omega
theorem runs_facts {p : Prog} {T n : Nat} {cs : CS} {c : Ctl} {F : Fin} (h : Runs p T n cs c F) : cs.used ≤ T → dos cs.log ≤ cs.used → Facts T cs.used cs.log F := by
  induction h with
  | done h1 => exact fun hu hd => ⟨hu, (fun z => by cases z), Nat.le_refl _, hd, List.prefix_refl _⟩
  | fin h1 h2 h3 h4 h5 =>
    intro hu hd
    obtain ⟨a, b, c, d, e⟩ := after_facts h2 hu hd
    exact ⟨a, fun z => e (by rw [h5]; exact congrArg some z), b, c, d⟩
  | next h1 h2 h3 h4 h5 h6 h7 ih =>
    intro hu hd
    obtain ⟨a, b, c, d, e⟩ := after_facts h2 hu hd
    obtain ⟨q1, q2, q3, q4, q5⟩ := ih a c
    exact ⟨q1, q2, Nat.le_trans b q3, q4, List.IsPrefix.trans d q5⟩
/-- the run with the smaller bound, and that with the greater one -/
def Lk (T1 T2 : Nat) (F1 F2 : Fin) : Prop := (F1 = F2 ∧ (F1.fin ≠ .spent ∨ T1 = T2)) ∨ (T1 < T2 ∧ F1.fin = .spent ∧ F1.used = T1 ∧ T1 < F2.used ∧ F1.log <+: F2.log)
theorem lock_runs {p : Prog} {T1 T2 n1 : Nat} {cs : CS} {c : Ctl} {F1 : Fin} (hT : T1 ≤ T2) (h : Runs p T1 n1 cs c F1) : ∀ {n2 : Nat} {F2 : Fin}, Runs p T2 n2 cs c F2 → cs.used ≤ T1 → dos cs.log ≤ cs.used → Lk T1 T2 F1 F2 := by
  induction h with
  | done h1 =>
    intro n2 F2 k hu hd
    cases k with
    | done => exact .inl ⟨rfl, .inl (by simp)⟩
    | fin k1 k2 => cases k2
    | next k1 k2 => cases k2
  | fin h1 h2 h3 h4 h5 =>
    rename_i cs c o e
    intro n2 F2 k hu hd
    by_cases ht : o.turn = true ∧ T1 ≤ cs.used
    · have e1 : after T1 cs o = ({ cs with fin := some .spent }, none) := by unfold after; rw [if_pos ht]
      rw [e1] at h5 ⊢
      cases h5
      by_cases ht2 : T2 ≤ cs.used
      · have e2 : after T2 cs o = ({ cs with fin := some .spent }, none) := by unfold after; rw [if_pos ⟨ht.1, ht2⟩]
        cases k with
        | done k1 => cases h2
        | fin k1 k2 k3 k4 k5 =>
          rw [h2] at k2
          cases k2
          rw [e2] at k5 ⊢
          cases k5
          exact .inl ⟨rfl, .inr (by omega)⟩
        | next k1 k2 k3 k4 k5 k6 k7 =>
          rw [h2] at k2
          cases k2
          rw [e2] at k5
          cases k5
      · have e2 : after T2 cs o = ({ used := cs.used + 1, log := cs.log ++ o.ents, fin := o.fin }, some o.ctl) := by rw [after_turn ht.1, if_neg ht2]
        right
        refine ⟨by omega, rfl, by dsimp only; omega, ?_⟩
        cases k with
        | done k1 => cases h2
        | fin k1 k2 k3 k4 k5 =>
          rw [h2] at k2
          cases k2
          rw [e2]
          exact ⟨by dsimp only; omega, List.prefix_append _ _⟩
        | next k1 k2 k3 k4 k5 k6 k7 =>
          rw [h2] at k2
          cases k2
          obtain ⟨a, b, d, f, _⟩ := after_facts h2 (show cs.used ≤ T2 by omega) hd
          have q := runs_facts k7 a d
          rw [e2] at q
          exact ⟨by have := q.up; dsimp only at this; omega, List.IsPrefix.trans (List.prefix_append _ _) q.pre⟩
    · have e1 : after T1 cs o = ({ used := cs.used + o.turn.toNat, log := cs.log ++ o.ents, fin := o.fin }, some o.ctl) := by unfold after; rw [if_neg ht]
      have e2 : after T2 cs o = ({ used := cs.used + o.turn.toNat, log := cs.log ++ o.ents, fin := o.fin }, some o.ctl) := by unfold after; rw [if_neg (fun z => ht ⟨z.1, by omega⟩)]
      have hs := (step_dos h2).2
      cases k with
      | done k1 => cases h2
      | fin k1 k2 k3 k4 k5 =>
        rw [h2] at k2
        cases k2
        rw [e1] at h5 ⊢
        rw [e2] at k5 ⊢
        dsimp only at h5 k5
        rw [h5] at k5 hs
        cases k5
        exact .inl ⟨rfl, .inl fun z => hs (congrArg some z)⟩
      | next k1 k2 k3 k4 k5 k6 k7 =>
        rw [h2] at k2
        cases k2
        rw [e1] at h5
        rw [e2] at k5
        dsimp only at h5 k5
        rw [h5] at k5
        cases k5
  | next h1 h2 h3 h4 h5 h6 h7 ih =>
    rename_i cs c c' o n F
    intro n2 F2 k hu hd
    have ht : ¬ (o.turn = true ∧ T1 ≤ cs.used) := fun z => by
      have e1 : after T1 cs o = ({ cs with fin := some .spent }, none) := by unfold after; rw [if_pos z]
      rw [e1] at h6
      cases h6
    have e1 : after T1 cs o = ({ used := cs.used + o.turn.toNat, log := cs.log ++ o.ents, fin := o.fin }, some o.ctl) := by unfold after; rw [if_neg ht]
    have e2 : after T2 cs o = ({ used := cs.used + o.turn.toNat, log := cs.log ++ o.ents, fin := o.fin }, some o.ctl) := by unfold after; rw [if_neg (fun z => ht ⟨z.1, by omega⟩)]
    obtain ⟨a, b, d, f, _⟩ := after_facts h2 hu hd
    cases k with
    | done k1 => cases h2
    | fin k1 k2 k3 k4 k5 =>
      rw [h2] at k2
      cases k2
      rw [e2] at k5
      rw [e1] at h5
      dsimp only at h5 k5
      rw [h5] at k5
      cases k5
    | next k1 k2 k3 k4 k5 k6 k7 =>
      rw [h2] at k2
      cases k2
      rw [e2, ← e1] at k6 k7
      rw [h6] at k6
      cases k6
      exact ih k7 a d
theorem goOn_facts {p : Prog} {T : Nat} : ∀ {as : List Int} {F R : Fin}, GoOn p T as F R → F.used ≤ T → (F.fin = .spent → F.used = T) → dos F.log ≤ F.used → Facts T F.used F.log R
  | [], F, R, h, h1, h2, h3 => by
    cases h
    exact ⟨h1, h2, Nat.le_refl _, h3, List.prefix_refl _⟩
  | a :: as, F, R, h, h1, h2, h3 => by
    unfold GoOn at h
    by_cases e : isAsks F.fin = true
    · rw [if_pos e] at h
      obtain ⟨n, F', k1, k2⟩ := h
      obtain ⟨a, b, c, d, f⟩ := runs_facts k1 h1 h3
      obtain ⟨a', b', c', d', f'⟩ := goOn_facts k2 a b d
      exact ⟨a', b', Nat.le_trans c c', d', List.IsPrefix.trans f f'⟩
    · rw [if_neg e] at h
      cases h
      exact ⟨h1, h2, Nat.le_refl _, h3, List.prefix_refl _⟩
theorem lock_go {p : Prog} {T1 T2 : Nat} (hT : T1 ≤ T2) : ∀ {as : List Int} {F R1 R2 : Fin}, GoOn p T1 as F R1 → GoOn p T2 as F R2 → F.used ≤ T1 → dos F.log ≤ F.used → (F.fin ≠ .spent ∨ T1 = T2) → Lk T1 T2 R1 R2
  | [], F, R1, R2, h, k, h1, h2, h3 => by
    cases h
    cases k
    exact .inl ⟨rfl, h3⟩
  | a :: as, F, R1, R2, h, k, h1, h2, h3 => by
    unfold GoOn at h k
    by_cases e : isAsks F.fin = true
    · rw [if_pos e] at h k
      obtain ⟨n, F1, a1, a2⟩ := h
      obtain ⟨m, F2, b1, b2⟩ := k
      have f1 := runs_facts a1 h1 h2
      have f2 := runs_facts b1 (Nat.le_trans h1 hT) h2
      rcases lock_runs hT a1 b1 h1 h2 with ⟨rfl, q⟩ | ⟨q1, q2, q3, q4, q5⟩
      · exact lock_go hT a2 b2 f1.used f1.dos q
      · have e1 : R1 = F1 := by
          cases as with
          | nil => exact a2
          | cons x as =>
            unfold GoOn at a2
            rw [q2] at a2
            exact a2
        have g := goOn_facts b2 f2.used f2.sp f2.dos
        subst e1
        exact .inr ⟨q1, q2, q3, by have := g.up; omega, List.IsPrefix.trans q5 g.pre⟩
    · rw [if_neg e] at h k
      cases h
      cases k
      exact .inl ⟨rfl, h3⟩
/-- a whole run -/
def Whole (p : Prog) (T : Nat) (f : Str) (ns as : List Int) (R : Fin) : Prop := ∃ F, Begins p T f ns F ∧ GoOn p T as F R
theorem whole_facts {p : Prog} {T : Nat} {f : Str} {ns as : List Int} {R : Fin} (h : Whole p T f ns as R) : Facts T 0 [] R := by
  obtain ⟨F, ⟨fn, n, e1, e2, e3, hR⟩, hG⟩ := h
  have a := runs_facts hR (Nat.zero_le _) (Nat.le_refl _)
  have b := goOn_facts hG a.used a.sp a.dos
  exact ⟨b.used, b.sp, Nat.zero_le _, b.dos, List.nil_prefix⟩
theorem whole_lock {p : Prog} {T1 T2 : Nat} {f : Str} {ns as : List Int} {R1 R2 : Fin} (hT : T1 ≤ T2) (h : Whole p T1 f ns as R1) (k : Whole p T2 f ns as R2) : Lk T1 T2 R1 R2 := by
  obtain ⟨F1, ⟨fn, n, e1, e2, e3, hR⟩, hG⟩ := h
  obtain ⟨F2, ⟨fn', n', e1', e2', e3', hR'⟩, hG'⟩ := k
  rw [e1] at e1'
  cases e1'
  have a := runs_facts hR (Nat.zero_le _) (Nat.le_refl _)
  have b := runs_facts hR' (Nat.zero_le _) (Nat.le_refl _)
  rcases lock_runs hT hR hR' (Nat.zero_le _) (Nat.le_refl _) with ⟨rfl, q⟩ | ⟨q1, q2, q3, q4, q5⟩
  · exact lock_go hT hG hG' a.used a.dos q
  · have e1 : R1 = F1 := by
      cases as with
      | nil => exact hG
      | cons x as =>
        unfold GoOn at hG
        rw [q2] at hG
        exact hG
    have g := goOn_facts hG' b.used b.sp b.dos
    subst e1
    exact .inr ⟨q1, q2, q3, by have := g.up; omega, List.IsPrefix.trans q5 g.pre⟩
theorem spent_of {e : End} : isSpent e = true ↔ e = .spent := by cases e <;> simp [isSpent]
theorem cutAt_of {T : Nat} {R O : Fin} (h1 : O.fin = .spent) (h2 : O.used = T) (h3 : O.log <+: R.log) (h4 : dos O.log ≤ O.used) : CutAt R T O := ⟨h1, h2, List.prefix_iff_eq_take.mp h3, by rw [← h2]; exact h4⟩
theorem cut_ok {p : Prog} {T0 T : Nat} {f : Str} {ns as : List Int} {R O : Fin} (h : Whole p T0 f ns as R) (k : Whole p T f ns as O) : CutOk 2 R T O := by
  have fh := whole_facts h
  have fk := whole_facts k
  by_cases hT : T0 ≤ T
  · rcases whole_lock hT h k with ⟨rfl, q⟩ | ⟨q1, q2, q3, q4, q5⟩
    · refine .inl ⟨Nat.le_trans fh.used hT, ?_, rfl⟩
      by_cases e : R.fin = .spent
      · rcases q with q | q
        · exact absurd e q
        · exact .inr (by rw [fh.sp e, q])
      · left
        cases e2 : isSpent R.fin with
        | false => rfl
        | true => exact absurd (spent_of.mp e2) e
    · refine .inr (.inl ⟨by rw [q2]; rfl, by omega, .inr (.inr ⟨by omega, cutAt_of q2 rfl q5 fh.dos⟩)⟩)
  · rcases whole_lock (by omega) k h with ⟨rfl, q⟩ | ⟨q1, q2, q3, q4, q5⟩
    · refine .inl ⟨fk.used, ?_, rfl⟩
      rcases q with q | q
      · left
        cases e2 : isSpent O.fin with
        | false => rfl
        | true => exact absurd (spent_of.mp e2) q
      · omega
    · exact .inr (.inr ⟨q4, cutAt_of q2 q3 q5 fk.dos⟩)
end DL
set_option maxHeartbeats 800000
/-! K55e: the law's programs are well formed, and their bodies weigh little -/
namespace DL
open PySem PySem.Spec PyProof.Rows L2

mutual
theorem co_le (c : Wt) (hs : List Head) {K : Nat} : ∀ (t : Tree) {g hd : Bool} {vs : List Str} {bl : Option Str}, 16 * c.st + 2 * c.en ≤ K → (hd = true → (∃ n, Head.hand n ∈ hs) → 16 * c.st + 2 * c.en + c.fi ≤ K) → WT hs g hd vs bl t → co c t ≤ K * inn t + c.st
  | .num _, _, _, _, _, hK, hh, h => by simp only [co, inn]; omega
  | .var _, _, _, _, _, hK, hh, h => by simp only [co, inn]; omega
  | .call f h as, _, _, _, _, hK, hh, ht => by
    simp only [WT] at ht
    have q := cos_le c hs as hK hh ht.2
    have hl : as.length ≤ 8 := by
      rcases ht.1 with ⟨_, _, q⟩ | ⟨_, _, _, _, _, q, _⟩ <;> omega
    simp only [co, inn, Nat.mul_add, Nat.mul_one]
    have : as.length * (2 * c.st) ≤ 8 * (2 * c.st) := Nat.mul_le_mul_right _ hl
    omega
  | .op _ a b, _, _, _, _, hK, hh, ht => by
    simp only [WT] at ht
    have q1 := co_le c hs a hK hh ht.1
    have q2 := co_le c hs b hK hh ht.2
    simp only [co, inn, Nat.mul_add, Nat.mul_one]
    omega
  | .lett _ a b, _, _, _, _, hK, hh, ht => by
    simp only [WT] at ht
    have q1 := co_le c hs a hK hh ht.1
    have q2 := co_le c hs b hK hh ht.2
    simp only [co, inn, Nat.mul_add, Nat.mul_one]
    omega
  | .iff x a b, _, _, _, _, hK, hh, ht => by
    simp only [WT] at ht
    have q0 := co_le c hs x hK hh ht.1
    have q1 := co_le c hs a hK hh ht.2.1
    have q2 := co_le c hs b hK hh ht.2.2
    simp only [co, inn, Nat.mul_add, Nat.mul_one]
    omega
  | .deed _ a, _, _, _, _, hK, hh, ht => by
    simp only [WT] at ht
    have q1 := co_le c hs a hK hh ht.2
    simp only [co, inn, Nat.mul_add, Nat.mul_one]
    omega
  | .handle x a b, _, _, _, _, hK, hh, ht => by
    simp only [WT] at ht
    have q1 := co_le c hs a hK hh ht.2.2.1
    have q2 := co_le c hs b hK hh ht.2.2.2
    have q3 := hh ht.1 ⟨x, ht.2.1⟩
    simp only [co, inn, Nat.mul_add, Nat.mul_one]
    omega
  | .go a b, _, _, _, _, hK, hh, ht => by
    simp only [WT] at ht
    have q1 := co_le c hs a hK hh ht.2.1
    have q2 := co_le c hs b hK hh ht.2.2
    simp only [co, inn, Nat.mul_add, Nat.mul_one]
    omega
  | .guard a b, _, _, _, _, hK, hh, ht => by
    simp only [WT] at ht
    have q1 := co_le c hs a hK hh ht.1
    have q2 := co_le c hs b hK hh ht.2
    simp only [co, inn, Nat.mul_add, Nat.mul_one]
    omega
theorem cos_le (c : Wt) (hs : List Head) {K : Nat} : ∀ (ts : List Tree) {g hd : Bool} {vs : List Str} {bl : Option Str}, 16 * c.st + 2 * c.en ≤ K → (hd = true → (∃ n, Head.hand n ∈ hs) → 16 * c.st + 2 * c.en + c.fi ≤ K) → WTs hs g hd vs bl ts → cos c ts ≤ K * inns ts + ts.length * (2 * c.st)
  | [], _, _, _, _, hK, hh, h => by simp only [cos, inns]; omega
  | t :: r, _, _, _, _, hK, hh, h => by
    simp only [WTs] at h
    have q1 := co_le c hs t hK hh h.1
    have q2 := cos_le c hs r hK hh h.2
    simp only [cos, inns, Nat.mul_add, List.length_cons, Nat.add_mul, Nat.one_mul]
    omega
end
theorem itemNamed_mem : ∀ {p : Prog} {it : Item}, (p.map Item.name).Nodup → it ∈ p → itemNamed p it.name = some it
  | [], it, nd, h => by cases h
  | i :: p, it, nd, h => by
    rw [List.map_cons] at nd
    have nd' := List.nodup_cons.mp nd
    unfold itemNamed
    by_cases e : i.name = it.name
    · rw [if_pos e]
      rcases List.mem_cons.mp h with q | q
      · rw [q]
      · exact absurd (by rw [e]; exact List.mem_map_of_mem q) nd'.1
    · rw [if_neg e]
      rcases List.mem_cons.mp h with q | q
      · exact absurd (by rw [q]) e
      · exact itemNamed_mem nd'.2 q
abbrev W1 : Wt := ⟨1, 0, 977, 64610⟩
abbrev W2 : Wt := ⟨0, 1, 122, 8060⟩
theorem lim12 : Lim W1 W2 := ⟨rfl, rfl, rfl, rfl, by decide, by decide⟩
section
variable {p : Prog} {hs : List Head} {items : List Item} {L : Int} {turn : Nat}
theorem itemFin_name {h : Head} {it : Item} (q : ItemFin hs L h it) : it.name = h.name := by
  cases h <;> cases it <;> simp only [ItemFin] at q
  · exact q.1
  · exact q.1
theorem GenOk.find (g : GenOk p hs items L turn) {h : Head} (hm : h ∈ hs) : ∃ it, itemNamed p h.name = some it ∧ ItemFin hs L h it := by
  obtain ⟨k, hk⟩ := List.getElem?_of_mem hm
  have hlt := (List.getElem?_eq_some_iff.mp hk).1
  have hi : items[k]? = some (items[k]'(by rw [g.len]; exact hlt)) := List.getElem?_eq_getElem _
  have q := g.at_ k _ _ hk hi
  have hmem := List.mem_of_getElem? hi
  have names : items.map Item.name = hs.map Head.name := by
    apply List.ext_getElem?
    intro j
    rw [List.getElem?_map, List.getElem?_map]
    by_cases hj : j < hs.length
    · have e1 : hs[j]? = some hs[j] := List.getElem?_eq_getElem hj
      have e2 : items[j]? = some (items[j]'(by rw [g.len]; exact hj)) := List.getElem?_eq_getElem _
      rw [e1, e2]
      exact congrArg some (itemFin_name (g.at_ j _ _ e1 e2))
    · rw [List.getElem?_eq_none (by rw [g.len]; omega), List.getElem?_eq_none (by omega)]
      rfl
  have perm : p.Perm items := by
    rw [g.eq]
    exact List.perm_append_comm.trans (by rw [List.take_append_drop])
  refine ⟨_, ?_, q⟩
  rw [← itemFin_name q]
  refine itemNamed_mem ?_ (perm.mem_iff.mpr hmem)
  rw [(perm.map Item.name).nodup_iff, names]
  exact g.names
theorem GenOk.lle (g : GenOk p hs items L turn) : 1 ≤ L ∧ L ≤ 121 ∧ ((∃ n, Head.hand n ∈ hs) → L ≤ 61) := by
  have h := g.le
  obtain ⟨n, ps, r, e⟩ := g.heads.first
  have h1 : 1 ≤ hs.length := by rw [e]; simp
  have h40 := g.many
  have h2 : (120 : Int) / ((hs.length : Nat) : Int) ≤ 120 := Int.ediv_le_self _ (by omega)
  have h0 : 0 ≤ (120 : Int) / ((hs.length : Nat) : Int) := Int.ediv_nonneg (by omega) (by omega)
  refine ⟨by omega, by omega, ?_⟩
  rintro ⟨m, hm⟩
  have h3 : 2 ≤ hs.length := by
    rw [e] at hm ⊢
    rcases List.mem_cons.mp hm with q | q
    · cases q
    · have : 0 < r.length := List.length_pos_of_mem q
      simp
      omega
  have h4 : (120 : Int) / ((hs.length : Nat) : Int) ≤ 120 / 2 := by
    have : (120 : Int) / ((hs.length : Nat) : Int) * 2 ≤ 120 := by
      have a := Int.ediv_mul_le (120 : Int) (b := ((hs.length : Nat) : Int)) (by omega)
      have b : (120 : Int) / ((hs.length : Nat) : Int) * 2 ≤ (120 : Int) / ((hs.length : Nat) : Int) * ((hs.length : Nat) : Int) := Int.mul_le_mul_of_nonneg_left (by omega) h0
      omega
    omega
  omega
theorem GenOk.co (g : GenOk p hs items L turn) (c : Wt) (hc : c = W1 ∨ c = W2) {t : Tree} {gg : Bool} {vs : List Str} {bl : Option Str} (ht : WT hs gg true vs bl t) (hi : (inn t : Int) ≤ L + 4) : co c t ≤ c.b := by
  obtain ⟨l1, l2, l3⟩ := g.lle
  by_cases e : ∃ n, Head.hand n ∈ hs
  · have l4 := l3 e
    have hi' : inn t ≤ 65 := by omega
    have q := co_le c hs (K := 16 * c.st + 2 * c.en + c.fi) t (by omega) (fun _ _ => Nat.le_refl _) ht
    have q2 : (16 * c.st + 2 * c.en + c.fi) * inn t ≤ (16 * c.st + 2 * c.en + c.fi) * 65 := Nat.mul_le_mul_left _ hi'
    rcases hc with rfl | rfl <;> simp at q q2 ⊢ <;> omega
  · have hi' : inn t ≤ 125 := by omega
    have q := co_le c hs (K := 16 * c.st + 2 * c.en) t (by omega) (fun _ z => absurd z e) ht
    have q2 : (16 * c.st + 2 * c.en) * inn t ≤ (16 * c.st + 2 * c.en) * 125 := Nat.mul_le_mul_left _ hi'
    rcases hc with rfl | rfl <;> simp at q q2 ⊢ <;> omega
theorem GenOk.pw (g : GenOk p hs items L turn) (c : Wt) (hc : c = W1 ∨ c = W2) : PW p hs c where
  fn := fun n ps b hm => by
    obtain ⟨it, e, q⟩ := g.find hm
    cases it with
    | hand h => exact q.elim
    | fn F =>
      simp only [ItemFin] at q
      obtain ⟨q1, q2, q3, q4, q5⟩ := q
      refine ⟨F, ?_, q2, q3, q4, g.co c hc q4 (by omega)⟩
      simp only [Head.name] at e
      unfold fnNamed
      rw [e]
  hd := fun n hm => by
    obtain ⟨it, e, q⟩ := g.find hm
    cases it with
    | fn h => exact q.elim
    | hand H =>
      simp only [ItemFin] at q
      obtain ⟨q1, q2, q3, q4⟩ := q
      have l := g.lle.2.2 ⟨n, hm⟩
      refine ⟨H, ?_, ⟨fun x hx => ⟨(q2 x hx).1, g.co c hc (q2 x hx).1 (q2 x hx).2⟩, q3, ?_⟩⟩
      · simp only [Head.name] at e
        unfold handNamed
        rw [e]
      · have hi' : inn H.fin ≤ 61 := by omega
        have r := co_le c hs (K := 16 * c.st + 2 * c.en) H.fin (by omega) (fun z => by cases z) q3
        have r2 : (16 * c.st + 2 * c.en) * inn H.fin ≤ (16 * c.st + 2 * c.en) * 61 := Nat.mul_le_mul_left _ hi'
        rcases hc with rfl | rfl <;> simp at r r2 ⊢ <;> omega
/-- the whole runs of the law's programs are there -/
theorem GenOk.whole (g : GenOk p hs items L turn) {f : Str} {ps : List Str} (hf : Head.fn f ps none ∈ hs) {ns as : List Int} (hl : ns.length = ps.length) (hn : ∀ x ∈ ns, Sm x) (ha : ∀ x ∈ as, Sm x) {T : Nat} (hT : T ≤ 40) : ∃ R, Whole p T f ns as R ∧ FinGood R := by
  have P1 := g.pw W1 (.inl rfl)
  have P2 := g.pw W2 (.inr rfl)
  obtain ⟨F, h1, h2⟩ := begins_ex lim12 P1 P2 hT hf hl hn
  obtain ⟨R, h3, h4⟩ := goOn_ex lim12 P1 P2 hT as F ha h2
  exact ⟨R, ⟨F, h1, h3⟩, h4.good⟩
end
end DL
set_option maxHeartbeats 800000
/-! K55f: law -/
namespace DL
open PySem PySem.Spec PyProof.Rows L2

def R_law : DR := fun mu ds P => ∃ (sc : List Int), ds = [.fz sc] ∧ P (.bl true) mu
theorem run_ok {p : Prog} {T : Nat} {f : Str} {ns as : List Int} {R : Fin} {mu : Mu} {Q : PD} (h : Whole p T f ns as R) (k : Q (resD R) mu) : R_run mu [progD p, .str f, .lst (ns.map .int), .lst (as.map .int), .int ((T : Nat) : Int)] Q := by
  obtain ⟨F, h1, h2⟩ := h
  exact ⟨p, T, f, ns, as, F, R, rfl, h1, h2, k⟩
theorem loop_law (CH CC : Addr) (Z : DEnds) (mu : Mu) (p : Prog) (f : Str) (ns as : List Int) (T0 : Nat) (R : Fin) (o0 o3 o6 o7 : Option D) (hR : Whole p T0 f ns as R) (gR : FinGood R) (ex : ∀ T, T ≤ 40 → ∃ O, Whole p T f ns as O ∧ FinGood O)
    (hZ : ∀ o9, Z.nx [o0, some (progD p), some (.str f), o3, some (.lst (ns.map .int)), some (.lst (as.map .int)), o6, o7, some (resD R), o9] mu) :
    ∀ (ts : List Nat) (o9 : Option D), (∀ t ∈ ts, t ≤ 40) → dFor 9 (b_law_L1 CH CC R_law_any R_law_input R_law_take R_run R_law_right (R_law_cut 2)) (ts.map fun t => .int ((t : Nat) : Int)) Z [o0, some (progD p), some (.str f), o3, some (.lst (ns.map .int)), some (.lst (as.map .int)), o6, o7, some (resD R), o9] mu
  | [], o9, h => hZ o9
  | t :: ts, o9, h => by
    rw [List.map_cons, x_for1]
    unfold b_law_L1
    rw [x_if]
    obtain ⟨O, hO, gO⟩ := ex t (h t List.mem_cons_self)
    simp only [x_not, x_test, x_call, x_cons, x_nil, x_var, x_cb, List.set_cons_succ, List.set_cons_zero, List.getElem?_cons_zero, List.getElem?_cons_succ, drList, sqv_lst]
    refine run_ok hO ⟨R, t, O, rfl, gR, gO, cut_ok hR hO, ?_⟩
    simp only [Bool.not_true, Bool.false_eq_true, if_false, x_next]
    exact loop_law CH CC Z mu p f ns as T0 R o0 o3 o6 o7 hR gR ex hZ ts _ fun x hx => h x (List.mem_cons_of_mem _ hx)
theorem body_law (CH CC : Addr) : ∀ mu es P, R_law mu es P → b_law CH CC R_law_any R_law_input R_law_take R_run R_law_right (R_law_cut 2) (endsG mu P) (startD N_law es) mu := by
  rintro mu es P ⟨sc, rfl, hP⟩
  unfold b_law
  rw [x_seq, x_unl]
  simp only [x_start, x_call, x_cons, x_nil, x_var, x_c, List.map_cons, List.map_nil, List.cons_append, List.nil_append, List.getElem?_cons_zero, List.getElem?_cons_succ, List.length_cons, List.length_nil, Nat.reduceAdd, Nat.reduceSub, List.reduceReplicate]
  refine ⟨sc, rfl, fun p hs items L turn f ps g hf => ?_⟩
  simp only [lv_lst]
  refine ⟨rfl, ?_⟩
  simp only [setAll, List.set_cons_succ, List.set_cons_zero]
  unfold b_law_t1
  (try dsimp only)
  rw [x_seq, x_unl]
  simp only [x_call, x_cons, x_nil, x_var, x_c, List.getElem?_cons_zero, List.getElem?_cons_succ]
  have hps := g.heads.pars _ _ _ hf
  refine ⟨sc, ps.length, rfl, hps, fun ns as s n h1 h2 h3 h4 hs' => ?_⟩
  simp only [lv_lst]
  refine ⟨rfl, ?_⟩
  simp only [setAll, List.set_cons_succ, List.set_cons_zero]
  have ex : ∀ T, T ≤ 40 → ∃ O, Whole p T f ns as O ∧ FinGood O := fun T hT => g.whole hf h3 h1 h2 hT
  unfold b_law_t2
  (try dsimp only)
  rw [x_seq, x_asg]
  simp only [x_call, x_cons, x_nil, x_var, x_c, List.getElem?_cons_zero, List.getElem?_cons_succ]
  refine take_ok mget_top (by decide) (by decide) fun r n1 r0 r1 => ?_
  rw [mput_top]
  obtain ⟨T0, rfl⟩ : ∃ T0 : Nat, r = ((T0 : Nat) : Int) := ⟨r.toNat, by omega⟩
  obtain ⟨R, hR, gR⟩ := ex T0 (by omega)
  have fR := whole_facts hR
  have hu := fR.used
  unfold b_law_t3
  (try dsimp only)
  rw [x_seq, x_asg]
  simp only [x_call, x_cons, x_nil, x_var, x_cb, x_c, List.set_cons_succ, List.set_cons_zero, List.getElem?_cons_zero, List.getElem?_cons_succ, drList, sqv_lst]
  refine run_ok hR ?_
  unfold b_law_t4
  (try dsimp only)
  rw [x_seq, x_if]
  have e0 : ∀ a b c : D, atI [a, b, c] 0 = some a := fun _ _ _ => rfl
  have e1 : ∀ a b c : D, atI [a, b, c] 1 = some b := fun _ _ _ => rfl
  have e2 : ∀ a b c : D, atI [a, b, c] 2 = some c := fun _ _ _ => rfl
  have hres : resD R = .tup [endD R.fin, .lst (R.log.map entD), .int R.used] := rfl
  simp only [x_or, x_not, x_test, x_op, x_call, x_cons, x_nil, x_var, x_c, List.set_cons_succ, List.set_cons_zero, List.getElem?_cons_zero, List.getElem?_cons_succ, hres, dix_tup, e0, e1, e2]
  refine ⟨R, rfl, gR, ?_⟩
  have c3 : decide (((T0 : Nat) : Int) < ((R.used : Nat) : Int)) = false := decide_eq_false (by omega)
  simp only [Bool.not_true, Bool.false_eq_true, if_false, i2_, c3, x_next]
  unfold b_law_t5
  rw [x_seq, x_fori]
  simp only [x_list, x_lst, x_op, x_call, x_cons, x_nil, x_var, x_cb, x_c, List.set_cons_succ, List.set_cons_zero, List.getElem?_cons_zero, List.getElem?_cons_succ, dix_tup, e2, i2_, drMax]
  refine take_ok mget_top (by decide) (by decide) fun r n2 q0 q1 => ?_
  rw [mput_top]
  obtain ⟨t1, rfl⟩ : ∃ t1 : Nat, r = ((t1 : Nat) : Int) := ⟨r.toNat, by omega⟩
  refine ⟨by simp, ?_⟩
  have e3 : (if ((R.used : Nat) : Int) - 1 > 0 then ((R.used : Nat) : Int) - 1 else 0) = ((R.used - 1 : Nat) : Int) := by split <;> omega
  rw [e3]
  have := loop_law CH CC { (endsG mu P) with nx := b_law_t6 CH CC R_law_any R_law_input R_law_take R_run R_law_right (R_law_cut 2) (endsG mu P) } ((s, stO n2) :: mu) p f ns as T0 R (some (.fz sc)) (some (.int ((ps.length : Nat) : Int))) (some (.obj s)) (some (.int ((T0 : Nat) : Int))) hR gR ex (fun o9 => ?_) [t1, R.used, R.used - 1] none (fun t ht => by simp at ht; omega)
  · exact this
  · dsimp only
    unfold b_law_t6
    simp only [x_ret, x_c]
    exact ⟨mu, (Sub.refl mu).tail, hP⟩
end DL
set_option maxHeartbeats 2000000
/-! K56a: printed by gen56.py: the promises joined, level by level -/
namespace DL
open PySem PySem.Spec PyProof.Rows L2

/-- a def of the module and how its arguments bind -/
structure DefB (K : PySem.W.Frag) (mg : Str → Option Value) (x : Str) (st : Stmt) (ps : List Str) : Prop where
  ex : ∃ f fd, C8.Def K mg x st f fd ∧ Binds K fd ps []
structure MetB (K : PySem.W.Frag) (C : Addr) (m qual : Str) (st : Stmt) (ps : List Str) : Prop where
  ex : ∃ f fd, Meth K C m f ∧ C8.Fun K m qual st f fd ∧ Binds K fd ps []
structure MakB (K : PySem.W.Frag) (mg : Str → Option Value) (x : Str) (C : Addr) (qual : Str) (st : Stmt) (ps : List Str) : Prop where
  ex : ∃ f fd, Mk K C f ∧ mg x = some (.ref C) ∧ C8.Fun K "__init__" qual st f fd ∧ Binds K fd ps []
theorem fn_mk8 {K : PySem.W.Frag} {x qual : Str} {st : Stmt} {f : Addr} {oc : Value} {od an : Option Addr} {osl : Array (Option Value)} {kV doc pm cdv ct : Value} {ps : List Str} (l : K.lookup f = some ⟨oc, od, .func (PySem.W.fnOf x qual (C8.fnArgs st) (C8.fnBody st) (C8.fnScope st) .none kV doc pm an cdv ct), osl⟩) (c : PySem.W.codeIn K cdv qual = true)
    (h : ∀ (kV doc pm : Value) (an : Option Addr) (cdv ct : Value) (us : List Value), us.length = ps.length → bindArgs (PySem.W.fnOf x qual (C8.fnArgs st) (C8.fnBody st) (C8.fnScope st) .none kV doc pm an cdv ct) ⟨us, []⟩ = pure (ps.zip us)) : ∃ fd, C8.Fun K x qual st f fd ∧ Binds K fd ps [] := by
  have F : C8.Fun K x qual st f (PySem.W.fnOf x qual (C8.fnArgs st) (C8.fnBody st) (C8.fnScope st) .none kV doc pm an cdv ct) := ⟨⟨oc, od, .none, kV, doc, pm, an, cdv, ct, osl, rfl, l, c⟩⟩
  exact ⟨_, F, F.binds rfl h⟩

theorem ba_item_named : ∀ (kV doc pm : Value) (an : Option Addr) (cdv ct : Value) (us : List Value), us.length = P_item_named.length → bindArgs (PySem.W.fnOf "item_named" "item_named" (C8.fnArgs st_item_named) (C8.fnBody st_item_named) (C8.fnScope st_item_named) .none kV doc pm an cdv ct) ⟨us, []⟩ = pure (P_item_named.zip us) := fun _ _ _ _ _ _ us hl => match us, hl with | [_, _], _ => rfl
theorem ba_function_named : ∀ (kV doc pm : Value) (an : Option Addr) (cdv ct : Value) (us : List Value), us.length = P_function_named.length → bindArgs (PySem.W.fnOf "function_named" "function_named" (C8.fnArgs st_function_named) (C8.fnBody st_function_named) (C8.fnScope st_function_named) .none kV doc pm an cdv ct) ⟨us, []⟩ = pure (P_function_named.zip us) := fun _ _ _ _ _ _ us hl => match us, hl with | [_, _], _ => rfl
theorem ba_handler_named : ∀ (kV doc pm : Value) (an : Option Addr) (cdv ct : Value) (us : List Value), us.length = P_handler_named.length → bindArgs (PySem.W.fnOf "handler_named" "handler_named" (C8.fnArgs st_handler_named) (C8.fnBody st_handler_named) (C8.fnScope st_handler_named) .none kV doc pm an cdv ct) ⟨us, []⟩ = pure (P_handler_named.zip us) := fun _ _ _ _ _ _ us hl => match us, hl with | [_, _], _ => rfl
theorem ba_clause_for : ∀ (kV doc pm : Value) (an : Option Addr) (cdv ct : Value) (us : List Value), us.length = P_clause_for.length → bindArgs (PySem.W.fnOf "clause_for" "clause_for" (C8.fnArgs st_clause_for) (C8.fnBody st_clause_for) (C8.fnScope st_clause_for) .none kV doc pm an cdv ct) ⟨us, []⟩ = pure (P_clause_for.zip us) := fun _ _ _ _ _ _ us hl => match us, hl with | [_, _], _ => rfl
theorem ba_taken_off : ∀ (kV doc pm : Value) (an : Option Addr) (cdv ct : Value) (us : List Value), us.length = P_taken_off.length → bindArgs (PySem.W.fnOf "taken_off" "taken_off" (C8.fnArgs st_taken_off) (C8.fnBody st_taken_off) (C8.fnScope st_taken_off) .none kV doc pm an cdv ct) ⟨us, []⟩ = pure (P_taken_off.zip us) := fun _ _ _ _ _ _ us hl => match us, hl with | [_, _], _ => rfl
theorem ba_piled : ∀ (kV doc pm : Value) (an : Option Addr) (cdv ct : Value) (us : List Value), us.length = P_piled.length → bindArgs (PySem.W.fnOf "piled" "piled" (C8.fnArgs st_piled) (C8.fnBody st_piled) (C8.fnScope st_piled) .none kV doc pm an cdv ct) ⟨us, []⟩ = pure (P_piled.zip us) := fun _ _ _ _ _ _ us hl => match us, hl with | [_, _], _ => rfl
theorem ba_put_on : ∀ (kV doc pm : Value) (an : Option Addr) (cdv ct : Value) (us : List Value), us.length = P_put_on.length → bindArgs (PySem.W.fnOf "put_on" "put_on" (C8.fnArgs st_put_on) (C8.fnBody st_put_on) (C8.fnScope st_put_on) .none kV doc pm an cdv ct) ⟨us, []⟩ = pure (P_put_on.zip us) := fun _ _ _ _ _ _ us hl => match us, hl with | [_, _, _], _ => rfl
theorem ba_gone_from : ∀ (kV doc pm : Value) (an : Option Addr) (cdv ct : Value) (us : List Value), us.length = P_gone_from.length → bindArgs (PySem.W.fnOf "gone_from" "gone_from" (C8.fnArgs st_gone_from) (C8.fnBody st_gone_from) (C8.fnScope st_gone_from) .none kV doc pm an cdv ct) ⟨us, []⟩ = pure (P_gone_from.zip us) := fun _ _ _ _ _ _ us hl => match us, hl with | [_], _ => rfl
theorem ba_thrown : ∀ (kV doc pm : Value) (an : Option Addr) (cdv ct : Value) (us : List Value), us.length = P_thrown.length → bindArgs (PySem.W.fnOf "thrown" "thrown" (C8.fnArgs st_thrown) (C8.fnBody st_thrown) (C8.fnScope st_thrown) .none kV doc pm an cdv ct) ⟨us, []⟩ = pure (P_thrown.zip us) := fun _ _ _ _ _ _ us hl => match us, hl with | [_], _ => rfl
theorem ba_halt : ∀ (kV doc pm : Value) (an : Option Addr) (cdv ct : Value) (us : List Value), us.length = P_halt.length → bindArgs (PySem.W.fnOf "__init__" "Halt.__init__" (C8.fnArgs st_halt) (C8.fnBody st_halt) (C8.fnScope st_halt) .none kV doc pm an cdv ct) ⟨us, []⟩ = pure (P_halt.zip us) := fun _ _ _ _ _ _ us hl => match us, hl with | [_, _, _, _, _], _ => rfl
theorem ba_course : ∀ (kV doc pm : Value) (an : Option Addr) (cdv ct : Value) (us : List Value), us.length = P_course.length → bindArgs (PySem.W.fnOf "__init__" "Course.__init__" (C8.fnArgs st_course) (C8.fnBody st_course) (C8.fnScope st_course) .none kV doc pm an cdv ct) ⟨us, []⟩ = pure (P_course.zip us) := fun _ _ _ _ _ _ us hl => match us, hl with | [_, _, _, _, _], _ => rfl
theorem ba_take_turn : ∀ (kV doc pm : Value) (an : Option Addr) (cdv ct : Value) (us : List Value), us.length = P_take_turn.length → bindArgs (PySem.W.fnOf "take_turn" "Course.take_turn" (C8.fnArgs st_take_turn) (C8.fnBody st_take_turn) (C8.fnScope st_take_turn) .none kV doc pm an cdv ct) ⟨us, []⟩ = pure (P_take_turn.zip us) := fun _ _ _ _ _ _ us hl => match us, hl with | [_], _ => rfl
theorem ba_value_of : ∀ (kV doc pm : Value) (an : Option Addr) (cdv ct : Value) (us : List Value), us.length = P_value_of.length → bindArgs (PySem.W.fnOf "value_of" "value_of" (C8.fnArgs st_value_of) (C8.fnBody st_value_of) (C8.fnScope st_value_of) .none kV doc pm an cdv ct) ⟨us, []⟩ = pure (P_value_of.zip us) := fun _ _ _ _ _ _ us hl => match us, hl with | [_, _], _ => rfl
theorem ba_reckoned : ∀ (kV doc pm : Value) (an : Option Addr) (cdv ct : Value) (us : List Value), us.length = P_reckoned.length → bindArgs (PySem.W.fnOf "reckoned" "reckoned" (C8.fnArgs st_reckoned) (C8.fnBody st_reckoned) (C8.fnScope st_reckoned) .none kV doc pm an cdv ct) ⟨us, []⟩ = pure (P_reckoned.zip us) := fun _ _ _ _ _ _ us hl => match us, hl with | [_, _, _], _ => rfl
theorem ba_called : ∀ (kV doc pm : Value) (an : Option Addr) (cdv ct : Value) (us : List Value), us.length = P_called.length → bindArgs (PySem.W.fnOf "called" "called" (C8.fnArgs st_called) (C8.fnBody st_called) (C8.fnScope st_called) .none kV doc pm an cdv ct) ⟨us, []⟩ = pure (P_called.zip us) := fun _ _ _ _ _ _ us hl => match us, hl with | [_, _, _, _, _], _ => rfl
theorem ba_asked : ∀ (kV doc pm : Value) (an : Option Addr) (cdv ct : Value) (us : List Value), us.length = P_asked.length → bindArgs (PySem.W.fnOf "asked" "asked" (C8.fnArgs st_asked) (C8.fnBody st_asked) (C8.fnScope st_asked) .none kV doc pm an cdv ct) ⟨us, []⟩ = pure (P_asked.zip us) := fun _ _ _ _ _ _ us hl => match us, hl with | [_, _, _, _], _ => rfl
theorem ba_begun_tree : ∀ (kV doc pm : Value) (an : Option Addr) (cdv ct : Value) (us : List Value), us.length = P_begun_tree.length → bindArgs (PySem.W.fnOf "begun_tree" "begun_tree" (C8.fnArgs st_begun_tree) (C8.fnBody st_begun_tree) (C8.fnScope st_begun_tree) .none kV doc pm an cdv ct) ⟨us, []⟩ = pure (P_begun_tree.zip us) := fun _ _ _ _ _ _ us hl => match us, hl with | [_, _, _, _], _ => rfl
theorem ba_told_tree : ∀ (kV doc pm : Value) (an : Option Addr) (cdv ct : Value) (us : List Value), us.length = P_told_tree.length → bindArgs (PySem.W.fnOf "told_tree" "told_tree" (C8.fnArgs st_told_tree) (C8.fnBody st_told_tree) (C8.fnScope st_told_tree) .none kV doc pm an cdv ct) ⟨us, []⟩ = pure (P_told_tree.zip us) := fun _ _ _ _ _ _ us hl => match us, hl with | [_, _, _, _], _ => rfl
theorem ba_told_arg : ∀ (kV doc pm : Value) (an : Option Addr) (cdv ct : Value) (us : List Value), us.length = P_told_arg.length → bindArgs (PySem.W.fnOf "told_arg" "told_arg" (C8.fnArgs st_told_arg) (C8.fnBody st_told_arg) (C8.fnScope st_told_arg) .none kV doc pm an cdv ct) ⟨us, []⟩ = pure (P_told_arg.zip us) := fun _ _ _ _ _ _ us hl => match us, hl with | [_, _, _, _], _ => rfl
theorem ba_told_second : ∀ (kV doc pm : Value) (an : Option Addr) (cdv ct : Value) (us : List Value), us.length = P_told_second.length → bindArgs (PySem.W.fnOf "told_second" "told_second" (C8.fnArgs st_told_second) (C8.fnBody st_told_second) (C8.fnScope st_told_second) .none kV doc pm an cdv ct) ⟨us, []⟩ = pure (P_told_second.zip us) := fun _ _ _ _ _ _ us hl => match us, hl with | [_, _, _, _], _ => rfl
theorem ba_told_go : ∀ (kV doc pm : Value) (an : Option Addr) (cdv ct : Value) (us : List Value), us.length = P_told_go.length → bindArgs (PySem.W.fnOf "told_go" "told_go" (C8.fnArgs st_told_go) (C8.fnBody st_told_go) (C8.fnScope st_told_go) .none kV doc pm an cdv ct) ⟨us, []⟩ = pure (P_told_go.zip us) := fun _ _ _ _ _ _ us hl => match us, hl with | [_, _, _, _], _ => rfl
theorem ba_told_clause : ∀ (kV doc pm : Value) (an : Option Addr) (cdv ct : Value) (us : List Value), us.length = P_told_clause.length → bindArgs (PySem.W.fnOf "told_clause" "told_clause" (C8.fnArgs st_told_clause) (C8.fnBody st_told_clause) (C8.fnScope st_told_clause) .none kV doc pm an cdv ct) ⟨us, []⟩ = pure (P_told_clause.zip us) := fun _ _ _ _ _ _ us hl => match us, hl with | [_, _, _, _], _ => rfl
theorem ba_told : ∀ (kV doc pm : Value) (an : Option Addr) (cdv ct : Value) (us : List Value), us.length = P_told.length → bindArgs (PySem.W.fnOf "told" "told" (C8.fnArgs st_told) (C8.fnBody st_told) (C8.fnScope st_told) .none kV doc pm an cdv ct) ⟨us, []⟩ = pure (P_told.zip us) := fun _ _ _ _ _ _ us hl => match us, hl with | [_, _, _], _ => rfl
theorem ba_to_end : ∀ (kV doc pm : Value) (an : Option Addr) (cdv ct : Value) (us : List Value), us.length = P_to_end.length → bindArgs (PySem.W.fnOf "to_end" "to_end" (C8.fnArgs st_to_end) (C8.fnBody st_to_end) (C8.fnScope st_to_end) .none kV doc pm an cdv ct) ⟨us, []⟩ = pure (P_to_end.zip us) := fun _ _ _ _ _ _ us hl => match us, hl with | [_, _], _ => rfl
theorem ba_begun : ∀ (kV doc pm : Value) (an : Option Addr) (cdv ct : Value) (us : List Value), us.length = P_begun.length → bindArgs (PySem.W.fnOf "begun" "begun" (C8.fnArgs st_begun) (C8.fnBody st_begun) (C8.fnScope st_begun) .none kV doc pm an cdv ct) ⟨us, []⟩ = pure (P_begun.zip us) := fun _ _ _ _ _ _ us hl => match us, hl with | [_, _, _, _], _ => rfl
theorem ba_gone_on : ∀ (kV doc pm : Value) (an : Option Addr) (cdv ct : Value) (us : List Value), us.length = P_gone_on.length → bindArgs (PySem.W.fnOf "gone_on" "gone_on" (C8.fnArgs st_gone_on) (C8.fnBody st_gone_on) (C8.fnScope st_gone_on) .none kV doc pm an cdv ct) ⟨us, []⟩ = pure (P_gone_on.zip us) := fun _ _ _ _ _ _ us hl => match us, hl with | [_, _], _ => rfl
theorem ba_run : ∀ (kV doc pm : Value) (an : Option Addr) (cdv ct : Value) (us : List Value), us.length = P_run.length → bindArgs (PySem.W.fnOf "run" "run" (C8.fnArgs st_run) (C8.fnBody st_run) (C8.fnScope st_run) .none kV doc pm an cdv ct) ⟨us, []⟩ = pure (P_run.zip us) := fun _ _ _ _ _ _ us hl => match us, hl with | [_, _, _, _, _], _ => rfl
theorem ba_law_take : ∀ (kV doc pm : Value) (an : Option Addr) (cdv ct : Value) (us : List Value), us.length = P_law_take.length → bindArgs (PySem.W.fnOf "_law_take" "_law_take" (C8.fnArgs st_law_take) (C8.fnBody st_law_take) (C8.fnScope st_law_take) .none kV doc pm an cdv ct) ⟨us, []⟩ = pure (P_law_take.zip us) := fun _ _ _ _ _ _ us hl => match us, hl with | [_, _], _ => rfl
theorem ba_law_source : ∀ (kV doc pm : Value) (an : Option Addr) (cdv ct : Value) (us : List Value), us.length = P_law_source.length → bindArgs (PySem.W.fnOf "_law_source" "_law_source" (C8.fnArgs st_law_source) (C8.fnBody st_law_source) (C8.fnScope st_law_source) .none kV doc pm an cdv ct) ⟨us, []⟩ = pure (P_law_source.zip us) := fun _ _ _ _ _ _ us hl => match us, hl with | [_, _], _ => rfl
theorem ba_law_fresh : ∀ (kV doc pm : Value) (an : Option Addr) (cdv ct : Value) (us : List Value), us.length = P_law_fresh.length → bindArgs (PySem.W.fnOf "_law_fresh" "_law_fresh" (C8.fnArgs st_law_fresh) (C8.fnBody st_law_fresh) (C8.fnScope st_law_fresh) .none kV doc pm an cdv ct) ⟨us, []⟩ = pure (P_law_fresh.zip us) := fun _ _ _ _ _ _ us hl => match us, hl with | [_, _], _ => rfl
theorem ba_law_heads : ∀ (kV doc pm : Value) (an : Option Addr) (cdv ct : Value) (us : List Value), us.length = P_law_heads.length → bindArgs (PySem.W.fnOf "_law_heads" "_law_heads" (C8.fnArgs st_law_heads) (C8.fnBody st_law_heads) (C8.fnScope st_law_heads) .none kV doc pm an cdv ct) ⟨us, []⟩ = pure (P_law_heads.zip us) := fun _ _ _ _ _ _ us hl => match us, hl with | [_, _, _], _ => rfl
theorem ba_law_number_by : ∀ (kV doc pm : Value) (an : Option Addr) (cdv ct : Value) (us : List Value), us.length = P_law_number_by.length → bindArgs (PySem.W.fnOf "_law_number_by" "_law_number_by" (C8.fnArgs st_law_number_by) (C8.fnBody st_law_number_by) (C8.fnScope st_law_number_by) .none kV doc pm an cdv ct) ⟨us, []⟩ = pure (P_law_number_by.zip us) := fun _ _ _ _ _ _ us hl => match us, hl with | [_], _ => rfl
theorem ba_law_leaf : ∀ (kV doc pm : Value) (an : Option Addr) (cdv ct : Value) (us : List Value), us.length = P_law_leaf.length → bindArgs (PySem.W.fnOf "_law_leaf" "_law_leaf" (C8.fnArgs st_law_leaf) (C8.fnBody st_law_leaf) (C8.fnScope st_law_leaf) .none kV doc pm an cdv ct) ⟨us, []⟩ = pure (P_law_leaf.zip us) := fun _ _ _ _ _ _ us hl => match us, hl with | [_, _], _ => rfl
theorem ba_law_call_by : ∀ (kV doc pm : Value) (an : Option Addr) (cdv ct : Value) (us : List Value), us.length = P_law_call_by.length → bindArgs (PySem.W.fnOf "_law_call_by" "_law_call_by" (C8.fnArgs st_law_call_by) (C8.fnBody st_law_call_by) (C8.fnScope st_law_call_by) .none kV doc pm an cdv ct) ⟨us, []⟩ = pure (P_law_call_by.zip us) := fun _ _ _ _ _ _ us hl => match us, hl with | [_, _, _, _, _], _ => rfl
theorem ba_law_tree : ∀ (kV doc pm : Value) (an : Option Addr) (cdv ct : Value) (us : List Value), us.length = P_law_tree.length → bindArgs (PySem.W.fnOf "_law_tree" "_law_tree" (C8.fnArgs st_law_tree) (C8.fnBody st_law_tree) (C8.fnScope st_law_tree) .none kV doc pm an cdv ct) ⟨us, []⟩ = pure (P_law_tree.zip us) := fun _ _ _ _ _ _ us hl => match us, hl with | [_, _, _, _, _], _ => rfl
theorem ba_law_clause_by : ∀ (kV doc pm : Value) (an : Option Addr) (cdv ct : Value) (us : List Value), us.length = P_law_clause_by.length → bindArgs (PySem.W.fnOf "_law_clause_by" "_law_clause_by" (C8.fnArgs st_law_clause_by) (C8.fnBody st_law_clause_by) (C8.fnScope st_law_clause_by) .none kV doc pm an cdv ct) ⟨us, []⟩ = pure (P_law_clause_by.zip us) := fun _ _ _ _ _ _ us hl => match us, hl with | [_, _, _, _], _ => rfl
theorem ba_law_item : ∀ (kV doc pm : Value) (an : Option Addr) (cdv ct : Value) (us : List Value), us.length = P_law_item.length → bindArgs (PySem.W.fnOf "_law_item" "_law_item" (C8.fnArgs st_law_item) (C8.fnBody st_law_item) (C8.fnScope st_law_item) .none kV doc pm an cdv ct) ⟨us, []⟩ = pure (P_law_item.zip us) := fun _ _ _ _ _ _ us hl => match us, hl with | [_, _, _], _ => rfl
theorem ba_law_any : ∀ (kV doc pm : Value) (an : Option Addr) (cdv ct : Value) (us : List Value), us.length = P_law_any.length → bindArgs (PySem.W.fnOf "_law_any" "_law_any" (C8.fnArgs st_law_any) (C8.fnBody st_law_any) (C8.fnScope st_law_any) .none kV doc pm an cdv ct) ⟨us, []⟩ = pure (P_law_any.zip us) := fun _ _ _ _ _ _ us hl => match us, hl with | [_, _, _], _ => rfl
theorem ba_law_value_by : ∀ (kV doc pm : Value) (an : Option Addr) (cdv ct : Value) (us : List Value), us.length = P_law_value_by.length → bindArgs (PySem.W.fnOf "_law_value_by" "_law_value_by" (C8.fnArgs st_law_value_by) (C8.fnBody st_law_value_by) (C8.fnScope st_law_value_by) .none kV doc pm an cdv ct) ⟨us, []⟩ = pure (P_law_value_by.zip us) := fun _ _ _ _ _ _ us hl => match us, hl with | [_], _ => rfl
theorem ba_law_input : ∀ (kV doc pm : Value) (an : Option Addr) (cdv ct : Value) (us : List Value), us.length = P_law_input.length → bindArgs (PySem.W.fnOf "_law_input" "_law_input" (C8.fnArgs st_law_input) (C8.fnBody st_law_input) (C8.fnScope st_law_input) .none kV doc pm an cdv ct) ⟨us, []⟩ = pure (P_law_input.zip us) := fun _ _ _ _ _ _ us hl => match us, hl with | [_, _], _ => rfl
theorem ba_law_right : ∀ (kV doc pm : Value) (an : Option Addr) (cdv ct : Value) (us : List Value), us.length = P_law_right.length → bindArgs (PySem.W.fnOf "_law_right" "_law_right" (C8.fnArgs st_law_right) (C8.fnBody st_law_right) (C8.fnScope st_law_right) .none kV doc pm an cdv ct) ⟨us, []⟩ = pure (P_law_right.zip us) := fun _ _ _ _ _ _ us hl => match us, hl with | [_, _, _, _], _ => rfl
theorem ba_law_cut : ∀ (kV doc pm : Value) (an : Option Addr) (cdv ct : Value) (us : List Value), us.length = P_law_cut.length → bindArgs (PySem.W.fnOf "_law_cut" "_law_cut" (C8.fnArgs st_law_cut) (C8.fnBody st_law_cut) (C8.fnScope st_law_cut) .none kV doc pm an cdv ct) ⟨us, []⟩ = pure (P_law_cut.zip us) := fun _ _ _ _ _ _ us hl => match us, hl with | [_, _, _], _ => rfl
theorem ba_law : ∀ (kV doc pm : Value) (an : Option Addr) (cdv ct : Value) (us : List Value), us.length = P_law.length → bindArgs (PySem.W.fnOf "law" "law" (C8.fnArgs st_law) (C8.fnBody st_law) (C8.fnScope st_law) .none kV doc pm an cdv ct) ⟨us, []⟩ = pure (P_law.zip us) := fun _ _ _ _ _ _ us hl => match us, hl with | [_], _ => rfl
theorem ln_item_named (CH CC : Addr) : ∀ mu ds P, R_item_named mu ds P → ds.length = P_item_named.length := by
  rintro mu es P ⟨p, x, rfl, h⟩
  rfl
theorem ln_function_named (CH CC : Addr) : ∀ mu ds P, R_function_named mu ds P → ds.length = P_function_named.length := by
  rintro mu es P ⟨p, x, rfl, h⟩
  rfl
theorem ln_handler_named (CH CC : Addr) : ∀ mu ds P, R_handler_named mu ds P → ds.length = P_handler_named.length := by
  rintro mu es P ⟨p, x, rfl, h⟩
  rfl
theorem ln_clause_for (CH CC : Addr) : ∀ mu ds P, R_clause_for mu ds P → ds.length = P_clause_for.length := by
  rintro mu es P ⟨hd, x, rfl, h⟩
  rfl
theorem ln_taken_off (CH CC : Addr) : ∀ mu ds P, R_taken_off mu ds P → ds.length = P_taken_off.length := by
  rintro mu es P ⟨k, d, rfl, hk, h⟩
  rfl
theorem ln_piled (CH CC : Addr) : ∀ mu ds P, R_piled mu ds P → ds.length = P_piled.length := by
  rintro mu es P ⟨fs, r, rfl, h⟩
  rfl
theorem ln_put_on (CH CC : Addr) : ∀ mu ds P, R_put_on mu ds P → ds.length = P_put_on.length := by
  rintro mu es P ⟨pre, h, k0, k, r, rfl, hl, hP⟩
  rfl
theorem ln_gone_from (CH CC : Addr) : ∀ mu ds P, R_gone_from mu ds P → ds.length = P_gone_from.length := by
  rintro mu es P ⟨k, over, pre, h, kept, r, rfl, hg, hk, hP⟩
  rfl
theorem ln_thrown (CH CC : Addr) : ∀ mu ds P, R_thrown mu ds P → ds.length = P_thrown.length := by
  rintro mu es P ⟨pre, h, kept, rfl, hw, hP⟩
  rfl
theorem ln_halt (CH CC : Addr) : ∀ mu ds P, R_halt CH mu ds P → ds.length = P_halt.length := by
  rintro mu es P ⟨h, mu1, e, rc, u, w, ents, rfl, rfl, hs, hP⟩
  rfl
theorem ln_course (CH CC : Addr) : ∀ mu ds P, R_course CC mu ds P → ds.length = P_course.length := by
  rintro mu es P ⟨h, mu1, p, T, u, rc, ents, rfl, rfl, hs, hP⟩
  rfl
theorem ln_take_turn (CH CC : Addr) : ∀ mu ds P, R_take_turn CC mu ds P → ds.length = P_take_turn.length := by
  rintro mu es P ⟨p, T, c, r, cs, mu0, rfl, i, rfl, h⟩
  rfl
theorem ln_value_of (CH CC : Addr) : ∀ mu ds P, R_value_of mu ds P → ds.length = P_value_of.length := by
  rintro mu es P ⟨k, x, n, rfl, hv, hP⟩
  rfl
theorem ln_reckoned (CH CC : Addr) : ∀ mu ds P, R_reckoned mu ds P → ds.length = P_reckoned.length := by
  rintro mu es P ⟨s, a, b, rfl, ha, hP⟩
  rfl
theorem ln_called (CH CC : Addr) : ∀ mu ds P, R_called CC mu ds P → ds.length = P_called.length := by
  rintro mu es P ⟨p, T, c, r, cs, mu0, sc, f, h, as, ns, k, rfl, rfl, ⟨i, nf, out, ho, hs, hP⟩⟩
  rfl
theorem ln_asked (CH CC : Addr) : ∀ mu ds P, R_asked CC mu ds P → ds.length = P_asked.length := by
  rintro mu es P ⟨p, T, c, r, cs, mu0, d, n, k, rfl, rfl, hk, ⟨i, nf, out, ho, hs, hP⟩⟩
  rfl
theorem ln_begun_tree (CH CC : Addr) : ∀ mu ds P, R_begun_tree CC mu ds P → ds.length = P_begun_tree.length := by
  rintro mu es P ⟨p, T, c, r, cs, mu0, t, sc, k, rfl, rfl, g⟩
  rfl
theorem ln_told_tree (CH CC : Addr) : ∀ mu ds P, R_told_tree CC mu ds P → ds.length = P_told_tree.length := by
  rintro mu es P ⟨p, T, c, r, cs, mu0, t, sc, n, k, rfl, rfl, g⟩
  rfl
theorem ln_told_arg (CH CC : Addr) : ∀ mu ds P, R_told_arg CC mu ds P → ds.length = P_told_arg.length := by
  rintro mu es P ⟨p, T, c, r, cs, mu0, f, h, as, ns, sc, n, k, rfl, rfl, hn, g⟩
  rfl
theorem ln_told_second (CH CC : Addr) : ∀ mu ds P, R_told_second CC mu ds P → ds.length = P_told_second.length := by
  rintro mu es P ⟨p, T, c, r, cs, mu0, s, a, n, k, rfl, rfl, g⟩
  rfl
theorem ln_told_go (CH CC : Addr) : ∀ mu ds P, R_told_go CC mu ds P → ds.length = P_told_go.length := by
  rintro mu es P ⟨p, T, c, r, cs, mu0, a, n, k, rfl, rfl, ⟨hk, hw⟩, ⟨i, nf, out, ho, hs, hP⟩⟩
  rfl
theorem ln_told_clause (CH CC : Addr) : ∀ mu ds P, R_told_clause CC mu ds P → ds.length = P_told_clause.length := by
  rintro mu es P ⟨p, T, c, r, cs, mu0, pre, h, kept, went, n, k, rfl, rfl, hw, g⟩
  rfl
theorem ln_told (CH CC : Addr) : ∀ mu ds P, R_told CC mu ds P → ds.length = P_told.length := by
  rintro mu es P ⟨p, T, c, r, cs, mu0, n, k, rfl, rfl, ⟨hz, hz2⟩, g⟩
  rfl
theorem ln_to_end (CH CC : Addr) : ∀ mu ds P, R_to_end CH CC mu ds P → ds.length = P_to_end.length := by
  rintro mu es P ⟨p, T, c, r, cs, mu0, ctl, F, n, rfl, i, rfl, hR, hP⟩
  rfl
theorem ln_begun (CH CC : Addr) : ∀ mu ds P, R_begun CH mu ds P → ds.length = P_begun.length := by
  rintro mu es P ⟨p, T, f, ns, F, rfl, ⟨fn, n, hf, hb, hl, hR⟩, hP⟩
  rfl
theorem ln_gone_on (CH CC : Addr) : ∀ mu ds P, R_gone_on CH mu ds P → ds.length = P_gone_on.length := by
  rintro mu es P ⟨p, T, F, a, F', n, rfl, hA, hR, hP⟩
  rfl
theorem ln_run (CH CC : Addr) : ∀ mu ds P, R_run mu ds P → ds.length = P_run.length := by
  rintro mu es P ⟨p, T, f, ns, as, F, R, rfl, hB, hG, hP⟩
  rfl
theorem ln_law_take (CH CC : Addr) : ∀ mu ds P, R_law_take mu ds P → ds.length = P_law_take.length := by
  rintro mu es P ⟨s, n, m, rfl, hs, h1, h2, hP⟩
  rfl
theorem ln_law_source (CH CC : Addr) : ∀ mu ds P, R_law_source mu ds P → ds.length = P_law_source.length := by
  rintro mu es P ⟨sc, k, rfl, hk, hP⟩
  rfl
theorem ln_law_fresh (CH CC : Addr) : ∀ mu ds P, R_law_fresh mu ds P → ds.length = P_law_fresh.length := by
  rintro mu es P ⟨s, n, tk, taken, rfl, ht, hl, hs, hne, hP⟩
  rfl
theorem ln_law_heads (CH CC : Addr) : ∀ mu ds P, R_law_heads mu ds P → ds.length = P_law_heads.length := by
  rintro mu es P ⟨cells, names, words, rfl, hl, hp, hn, hw, gn, gw, hst, hP⟩
  rfl
theorem ln_law_number_by (CH CC : Addr) : ∀ mu ds P, R_law_number_by mu ds P → ds.length = P_law_number_by.length := by
  rintro mu es P ⟨s, n, rfl, hs, hP⟩
  rfl
theorem ln_law_leaf (CH CC : Addr) : ∀ mu ds P, R_law_leaf mu ds P → ds.length = P_law_leaf.length := by
  rintro mu es P ⟨s, n, vs, rfl, hs, hl, hP⟩
  rfl
theorem ln_law_call_by (CH CC : Addr) (j : Nat) : ∀ mu ds P, R_callby j mu ds P → ds.length = P_law_call_by.length := by
  rintro mu es P ⟨s, w, W, n, l, mu0, d, vs, g, hd, bl, rfl, i, wo, rfl, hj, hv, fr, hP⟩
  rfl
theorem ln_law_tree (CH CC : Addr) (j : Nat) : ∀ mu ds P, R_tree (j + 1) mu ds P → ds.length = P_law_tree.length := by
  rintro mu es P ⟨s, w, W, n, l, mu0, d, vs, g, hd, bl, rfl, i, wo, rfl, hj, hv, fr, hP⟩
  rfl
theorem ln_law_clause_by (CH CC : Addr) (j : Nat) : ∀ mu ds P, R_clauseby j mu ds P → ds.length = P_law_clause_by.length := by
  rintro mu es P ⟨s, w, W, n, l, mu0, x, sv, rfl, i, wo, dk, rfl, hP⟩
  rfl
theorem ln_law_item (CH CC : Addr) (j : Nat) : ∀ mu ds P, R_item j mu ds P → ds.length = P_law_item.length := by
  rintro mu es P ⟨s, w, W, n, l, mu0, h, rfl, i, wo, dk, rfl, hm, fr, hl, hP⟩
  rfl
theorem ln_law_any (CH CC : Addr) : ∀ mu ds P, R_law_any mu ds P → ds.length = P_law_any.length := by
  rintro mu es P ⟨sc, rfl, hP⟩
  rfl
theorem ln_law_value_by (CH CC : Addr) : ∀ mu ds P, R_law_value_by mu ds P → ds.length = P_law_value_by.length := by
  rintro mu es P ⟨s, n, rfl, hs, hP⟩
  rfl
theorem ln_law_input (CH CC : Addr) : ∀ mu ds P, R_law_input mu ds P → ds.length = P_law_input.length := by
  rintro mu es P ⟨sc, many, rfl, hm, hP⟩
  rfl
theorem ln_law_right (CH CC : Addr) : ∀ mu ds P, R_law_right mu ds P → ds.length = P_law_right.length := by
  rintro mu es P ⟨R, rfl, hR, hP⟩
  rfl
theorem ln_law_cut (CH CC : Addr) (j : Nat) : ∀ mu ds P, R_law_cut (j + 1) mu ds P → ds.length = P_law_cut.length := by
  rintro mu es P ⟨R, T, O, rfl, gR, gO, hC, hP⟩
  rfl
theorem ln_law (CH CC : Addr) : ∀ mu ds P, R_law mu ds P → ds.length = P_law.length := by
  rintro mu es P ⟨sc, rfl, hP⟩
  rfl
structure TopF (K : PySem.W.Frag) (mg : Str → Option Value) (CH CC : Addr) (gr : Value) : Prop where
  T : Txt K mg CH CC gr
  f_item_named : DefB K mg "item_named" st_item_named P_item_named
  f_function_named : DefB K mg "function_named" st_function_named P_function_named
  f_handler_named : DefB K mg "handler_named" st_handler_named P_handler_named
  f_clause_for : DefB K mg "clause_for" st_clause_for P_clause_for
  f_taken_off : DefB K mg "taken_off" st_taken_off P_taken_off
  f_piled : DefB K mg "piled" st_piled P_piled
  f_put_on : DefB K mg "put_on" st_put_on P_put_on
  f_gone_from : DefB K mg "gone_from" st_gone_from P_gone_from
  f_thrown : DefB K mg "thrown" st_thrown P_thrown
  f_halt : MakB K mg "Halt" CH "Halt.__init__" st_halt P_halt
  f_course : MakB K mg "Course" CC "Course.__init__" st_course P_course
  f_take_turn : MetB K CC "take_turn" "Course.take_turn" st_take_turn P_take_turn
  f_value_of : DefB K mg "value_of" st_value_of P_value_of
  f_reckoned : DefB K mg "reckoned" st_reckoned P_reckoned
  f_called : DefB K mg "called" st_called P_called
  f_asked : DefB K mg "asked" st_asked P_asked
  f_begun_tree : DefB K mg "begun_tree" st_begun_tree P_begun_tree
  f_told_tree : DefB K mg "told_tree" st_told_tree P_told_tree
  f_told_arg : DefB K mg "told_arg" st_told_arg P_told_arg
  f_told_second : DefB K mg "told_second" st_told_second P_told_second
  f_told_go : DefB K mg "told_go" st_told_go P_told_go
  f_told_clause : DefB K mg "told_clause" st_told_clause P_told_clause
  f_told : DefB K mg "told" st_told P_told
  f_to_end : DefB K mg "to_end" st_to_end P_to_end
  f_begun : DefB K mg "begun" st_begun P_begun
  f_gone_on : DefB K mg "gone_on" st_gone_on P_gone_on
  f_run : DefB K mg "run" st_run P_run
  f_law_take : DefB K mg "_law_take" st_law_take P_law_take
  f_law_source : DefB K mg "_law_source" st_law_source P_law_source
  f_law_fresh : DefB K mg "_law_fresh" st_law_fresh P_law_fresh
  f_law_heads : DefB K mg "_law_heads" st_law_heads P_law_heads
  f_law_number_by : DefB K mg "_law_number_by" st_law_number_by P_law_number_by
  f_law_leaf : DefB K mg "_law_leaf" st_law_leaf P_law_leaf
  f_law_call_by : DefB K mg "_law_call_by" st_law_call_by P_law_call_by
  f_law_tree : DefB K mg "_law_tree" st_law_tree P_law_tree
  f_law_clause_by : DefB K mg "_law_clause_by" st_law_clause_by P_law_clause_by
  f_law_item : DefB K mg "_law_item" st_law_item P_law_item
  f_law_any : DefB K mg "_law_any" st_law_any P_law_any
  f_law_value_by : DefB K mg "_law_value_by" st_law_value_by P_law_value_by
  f_law_input : DefB K mg "_law_input" st_law_input P_law_input
  f_law_right : DefB K mg "_law_right" st_law_right P_law_right
  f_law_cut : DefB K mg "_law_cut" st_law_cut P_law_cut
  f_law : DefB K mg "law" st_law P_law
section
variable {Pr : Program} {w : World} {K : PySem.W.Frag} {mg : Str → Option Value} {base : Heap} {CH CC : Addr} {gr : Value}
theorem k_item_named (X : TopF K mg CH CC gr) : C8.Cal Pr w K mg base 1 "item_named" (spD (R_item_named)) [] := by
  obtain ⟨f, fd, F, b⟩ := X.f_item_named.ex
  exact calG F b sc_item_named (ln_item_named CH CC) (fun cdv A outer s H E hr => der_item_named X.T  cdv A outer s H E hr) (body_item_named CH CC)
theorem k_function_named (X : TopF K mg CH CC gr) : C8.Cal Pr w K mg base 2 "function_named" (spD (R_function_named)) [] := by
  obtain ⟨f, fd, F, b⟩ := X.f_function_named.ex
  exact calG F b sc_function_named (ln_function_named CH CC) (fun cdv A outer s H E hr => der_function_named X.T (k_item_named X) (by decide) cdv A outer s H E hr) (body_function_named CH CC)
theorem k_handler_named (X : TopF K mg CH CC gr) : C8.Cal Pr w K mg base 2 "handler_named" (spD (R_handler_named)) [] := by
  obtain ⟨f, fd, F, b⟩ := X.f_handler_named.ex
  exact calG F b sc_handler_named (ln_handler_named CH CC) (fun cdv A outer s H E hr => der_handler_named X.T (k_item_named X) (by decide) cdv A outer s H E hr) (body_handler_named CH CC)
theorem k_clause_for (X : TopF K mg CH CC gr) : C8.Cal Pr w K mg base 1 "clause_for" (spD (R_clause_for)) [] := by
  obtain ⟨f, fd, F, b⟩ := X.f_clause_for.ex
  exact calG F b sc_clause_for (ln_clause_for CH CC) (fun cdv A outer s H E hr => der_clause_for X.T  cdv A outer s H E hr) (body_clause_for CH CC)
theorem k_taken_off (X : TopF K mg CH CC gr) : C8.Cal Pr w K mg base 2 "taken_off" (spD (R_taken_off)) [] := by
  obtain ⟨f, fd, F, b⟩ := X.f_taken_off.ex
  exact calG F b sc_taken_off (ln_taken_off CH CC) (fun cdv A outer s H E hr => der_taken_off X.T (k_clause_for X) (by decide) cdv A outer s H E hr) (body_taken_off CH CC)
theorem k_piled (X : TopF K mg CH CC gr) : C8.Cal Pr w K mg base 1 "piled" (spD (R_piled)) [] := by
  obtain ⟨f, fd, F, b⟩ := X.f_piled.ex
  exact calG F b sc_piled (ln_piled CH CC) (fun cdv A outer s H E hr => der_piled X.T  cdv A outer s H E hr) (body_piled CH CC)
theorem k_put_on (X : TopF K mg CH CC gr) : C8.Cal Pr w K mg base 2 "put_on" (spD (R_put_on)) [] := by
  obtain ⟨f, fd, F, b⟩ := X.f_put_on.ex
  exact calG F b sc_put_on (ln_put_on CH CC) (fun cdv A outer s H E hr => der_put_on X.T (k_piled X) (by decide) cdv A outer s H E hr) (body_put_on CH CC)
theorem k_gone_from (X : TopF K mg CH CC gr) : C8.Cal Pr w K mg base 2 "gone_from" (spD (R_gone_from)) [] := by
  obtain ⟨f, fd, F, b⟩ := X.f_gone_from.ex
  exact calG F b sc_gone_from (ln_gone_from CH CC) (fun cdv A outer s H E hr => der_gone_from X.T (k_piled X) (by decide) cdv A outer s H E hr) (body_gone_from CH CC)
theorem k_thrown (X : TopF K mg CH CC gr) : C8.Cal Pr w K mg base 1 "thrown" (spD (R_thrown)) [] := by
  obtain ⟨f, fd, F, b⟩ := X.f_thrown.ex
  exact calG F b sc_thrown (ln_thrown CH CC) (fun cdv A outer s H E hr => der_thrown X.T  cdv A outer s H E hr) (body_thrown CH CC)
theorem k_halt (X : TopF K mg CH CC gr) : C8.Mak Pr w K mg base 1 "Halt" CH (spD (R_halt CH)) [] := by
  obtain ⟨f, fd, M, hm, F, b⟩ := X.f_halt.ex
  exact makG M hm F b sc_halt (ln_halt CH CC) (fun cdv A outer s H E hr => der_halt X.T cdv A outer s H E hr) (body_halt CH CC)
theorem k_course (X : TopF K mg CH CC gr) : C8.Mak Pr w K mg base 1 "Course" CC (spD (R_course CC)) [] := by
  obtain ⟨f, fd, M, hm, F, b⟩ := X.f_course.ex
  exact makG M hm F b sc_course (ln_course CH CC) (fun cdv A outer s H E hr => der_course X.T cdv A outer s H E hr) (body_course CH CC)
theorem k_take_turn (X : TopF K mg CH CC gr) : C8.Met Pr w K mg base 1 CC "take_turn" (spD (R_take_turn CC)) [] := by
  obtain ⟨f, fd, me, F, b⟩ := X.f_take_turn.ex
  exact metG X.T.c_CC me F b sc_take_turn (ln_take_turn CH CC) (fun cdv A outer s H E hr => der_take_turn X.T cdv A outer s H E hr) (body_take_turn CH CC)
theorem k_value_of (X : TopF K mg CH CC gr) : C8.Cal Pr w K mg base 1 "value_of" (spD (R_value_of)) [] := by
  obtain ⟨f, fd, F, b⟩ := X.f_value_of.ex
  exact calG F b sc_value_of (ln_value_of CH CC) (fun cdv A outer s H E hr => der_value_of X.T  cdv A outer s H E hr) (body_value_of CH CC)
theorem k_reckoned (X : TopF K mg CH CC gr) : C8.Cal Pr w K mg base 1 "reckoned" (spD (R_reckoned)) [] := by
  obtain ⟨f, fd, F, b⟩ := X.f_reckoned.ex
  exact calG F b sc_reckoned (ln_reckoned CH CC) (fun cdv A outer s H E hr => der_reckoned X.T  cdv A outer s H E hr) (body_reckoned CH CC)
theorem k_called (X : TopF K mg CH CC gr) : C8.Cal Pr w K mg base 3 "called" (spD (R_called CC)) [] := by
  obtain ⟨f, fd, F, b⟩ := X.f_called.ex
  exact calG F b sc_called (ln_called CH CC) (fun cdv A outer s H E hr => der_called X.T (k_take_turn X) (by decide) (k_function_named X) (by decide) cdv A outer s H E hr) (body_called CH CC)
theorem k_asked (X : TopF K mg CH CC gr) : C8.Cal Pr w K mg base 3 "asked" (spD (R_asked CC)) [] := by
  obtain ⟨f, fd, F, b⟩ := X.f_asked.ex
  exact calG F b sc_asked (ln_asked CH CC) (fun cdv A outer s H E hr => der_asked X.T (k_take_turn X) (by decide) (k_taken_off X) (by decide) (k_clause_for X) (by decide) cdv A outer s H E hr) (body_asked CH CC)
theorem k_begun_tree (X : TopF K mg CH CC gr) : C8.Cal Pr w K mg base 4 "begun_tree" (spD (R_begun_tree CC)) [] := by
  obtain ⟨f, fd, F, b⟩ := X.f_begun_tree.ex
  exact calG F b sc_begun_tree (ln_begun_tree CH CC) (fun cdv A outer s H E hr => der_begun_tree X.T (k_value_of X) (by decide) (k_called X) (by decide) cdv A outer s H E hr) (body_begun_tree CH CC)
theorem k_told_tree (X : TopF K mg CH CC gr) : C8.Cal Pr w K mg base 3 "told_tree" (spD (R_told_tree CC)) [] := by
  obtain ⟨f, fd, F, b⟩ := X.f_told_tree.ex
  exact calG F b sc_told_tree (ln_told_tree CH CC) (fun cdv A outer s H E hr => der_told_tree X.T (k_handler_named X) (by decide) cdv A outer s H E hr) (body_told_tree CH CC)
theorem k_told_arg (X : TopF K mg CH CC gr) : C8.Cal Pr w K mg base 4 "told_arg" (spD (R_told_arg CC)) [] := by
  obtain ⟨f, fd, F, b⟩ := X.f_told_arg.ex
  exact calG F b sc_told_arg (ln_told_arg CH CC) (fun cdv A outer s H E hr => der_told_arg X.T (k_called X) (by decide) cdv A outer s H E hr) (body_told_arg CH CC)
theorem k_told_second (X : TopF K mg CH CC gr) : C8.Cal Pr w K mg base 2 "told_second" (spD (R_told_second CC)) [] := by
  obtain ⟨f, fd, F, b⟩ := X.f_told_second.ex
  exact calG F b sc_told_second (ln_told_second CH CC) (fun cdv A outer s H E hr => der_told_second X.T (k_reckoned X) (by decide) cdv A outer s H E hr) (body_told_second CH CC)
theorem k_told_go (X : TopF K mg CH CC gr) : C8.Cal Pr w K mg base 3 "told_go" (spD (R_told_go CC)) [] := by
  obtain ⟨f, fd, F, b⟩ := X.f_told_go.ex
  exact calG F b sc_told_go (ln_told_go CH CC) (fun cdv A outer s H E hr => der_told_go X.T (k_take_turn X) (by decide) (k_gone_from X) (by decide) (k_put_on X) (by decide) cdv A outer s H E hr) (body_told_go CH CC)
theorem k_told_clause (X : TopF K mg CH CC gr) : C8.Cal Pr w K mg base 2 "told_clause" (spD (R_told_clause CC)) [] := by
  obtain ⟨f, fd, F, b⟩ := X.f_told_clause.ex
  exact calG F b sc_told_clause (ln_told_clause CH CC) (fun cdv A outer s H E hr => der_told_clause X.T (k_thrown X) (by decide) cdv A outer s H E hr) (body_told_clause CH CC)
theorem k_told (X : TopF K mg CH CC gr) : C8.Cal Pr w K mg base 5 "told" (spD (R_told CC)) [] := by
  obtain ⟨f, fd, F, b⟩ := X.f_told.ex
  exact calG F b sc_told (ln_told CH CC) (fun cdv A outer s H E hr => der_told X.T (k_told_arg X) (by decide) (k_told_second X) (by decide) (k_asked X) (by decide) (k_told_go X) (by decide) (k_told_clause X) (by decide) (k_told_tree X) (by decide) cdv A outer s H E hr) (body_told CH CC)
theorem k_to_end (X : TopF K mg CH CC gr) : C8.Cal Pr w K mg base 6 "to_end" (spD (R_to_end CH CC)) [] := by
  obtain ⟨f, fd, F, b⟩ := X.f_to_end.ex
  exact calG F b sc_to_end (ln_to_end CH CC) (fun cdv A outer s H E hr => der_to_end X.T (k_begun_tree X) (by decide) (k_told X) (by decide) (k_halt X) (by decide) cdv A outer s H E hr) (body_to_end CH CC)
theorem k_begun (X : TopF K mg CH CC gr) : C8.Cal Pr w K mg base 7 "begun" (spD (R_begun CH)) [] := by
  obtain ⟨f, fd, F, b⟩ := X.f_begun.ex
  exact calG F b sc_begun (ln_begun CH CC) (fun cdv A outer s H E hr => der_begun X.T (k_function_named X) (by decide) (k_to_end X) (by decide) (k_course X) (by decide) cdv A outer s H E hr) (body_begun CH CC)
theorem k_gone_on (X : TopF K mg CH CC gr) : C8.Cal Pr w K mg base 7 "gone_on" (spD (R_gone_on CH)) [] := by
  obtain ⟨f, fd, F, b⟩ := X.f_gone_on.ex
  exact calG F b sc_gone_on (ln_gone_on CH CC) (fun cdv A outer s H E hr => der_gone_on X.T (k_to_end X) (by decide) (k_course X) (by decide) cdv A outer s H E hr) (body_gone_on CH CC)
theorem k_run (X : TopF K mg CH CC gr) : C8.Cal Pr w K mg base 8 "run" (spD (R_run)) [] := by
  obtain ⟨f, fd, F, b⟩ := X.f_run.ex
  exact calG F b sc_run (ln_run CH CC) (fun cdv A outer s H E hr => der_run X.T (k_begun X) (by decide) (k_gone_on X) (by decide) cdv A outer s H E hr) (body_run CH CC)
theorem k_law_take (X : TopF K mg CH CC gr) : C8.Cal Pr w K mg base 1 "_law_take" (spD (R_law_take)) [] := by
  obtain ⟨f, fd, F, b⟩ := X.f_law_take.ex
  exact calG F b sc_law_take (ln_law_take CH CC) (fun cdv A outer s H E hr => der_law_take X.T  cdv A outer s H E hr) (body_law_take CH CC)
theorem k_law_source (X : TopF K mg CH CC gr) : C8.Cal Pr w K mg base 1 "_law_source" (spD (R_law_source)) [] := by
  obtain ⟨f, fd, F, b⟩ := X.f_law_source.ex
  exact calG F b sc_law_source (ln_law_source CH CC) (fun cdv A outer s H E hr => der_law_source X.T  cdv A outer s H E hr) (body_law_source CH CC)
theorem k_law_fresh (X : TopF K mg CH CC gr) : C8.Cal Pr w K mg base 2 "_law_fresh" (spD (R_law_fresh)) [] := by
  obtain ⟨f, fd, F, b⟩ := X.f_law_fresh.ex
  exact calG F b sc_law_fresh (ln_law_fresh CH CC) (fun cdv A outer s H E hr => der_law_fresh X.T (k_law_take X) (by decide) cdv A outer s H E hr) (body_law_fresh CH CC)
theorem k_law_heads (X : TopF K mg CH CC gr) : C8.Cal Pr w K mg base 3 "_law_heads" (spD (R_law_heads)) [] := by
  obtain ⟨f, fd, F, b⟩ := X.f_law_heads.ex
  exact calG F b sc_law_heads (ln_law_heads CH CC) (fun cdv A outer s H E hr => der_law_heads X.T (k_law_take X) (by decide) (k_law_fresh X) (by decide) cdv A outer s H E hr) (body_law_heads CH CC)
theorem k_law_number_by (X : TopF K mg CH CC gr) : C8.Cal Pr w K mg base 2 "_law_number_by" (spD (R_law_number_by)) [] := by
  obtain ⟨f, fd, F, b⟩ := X.f_law_number_by.ex
  exact calG F b sc_law_number_by (ln_law_number_by CH CC) (fun cdv A outer s H E hr => der_law_number_by X.T (k_law_take X) (by decide) cdv A outer s H E hr) (body_law_number_by CH CC)
theorem k_law_leaf (X : TopF K mg CH CC gr) : C8.Cal Pr w K mg base 3 "_law_leaf" (spD (R_law_leaf)) [] := by
  obtain ⟨f, fd, F, b⟩ := X.f_law_leaf.ex
  exact calG F b sc_law_leaf (ln_law_leaf CH CC) (fun cdv A outer s H E hr => der_law_leaf X.T (k_law_take X) (by decide) (k_law_number_by X) (by decide) cdv A outer s H E hr) (body_law_leaf CH CC)
theorem k_law_value_by (X : TopF K mg CH CC gr) : C8.Cal Pr w K mg base 2 "_law_value_by" (spD (R_law_value_by)) [] := by
  obtain ⟨f, fd, F, b⟩ := X.f_law_value_by.ex
  exact calG F b sc_law_value_by (ln_law_value_by CH CC) (fun cdv A outer s H E hr => der_law_value_by X.T (k_law_take X) (by decide) cdv A outer s H E hr) (body_law_value_by CH CC)
theorem k_law_input (X : TopF K mg CH CC gr) : C8.Cal Pr w K mg base 3 "_law_input" (spD (R_law_input)) [] := by
  obtain ⟨f, fd, F, b⟩ := X.f_law_input.ex
  exact calG F b sc_law_input (ln_law_input CH CC) (fun cdv A outer s H E hr => der_law_input X.T (k_law_source X) (by decide) (k_law_value_by X) (by decide) (k_law_take X) (by decide) cdv A outer s H E hr) (body_law_input CH CC)
theorem k_law_right (X : TopF K mg CH CC gr) : C8.Cal Pr w K mg base 1 "_law_right" (spD (R_law_right)) [] := by
  obtain ⟨f, fd, F, b⟩ := X.f_law_right.ex
  exact calG F b sc_law_right (ln_law_right CH CC) (fun cdv A outer s H E hr => der_law_right X.T  cdv A outer s H E hr) (body_law_right CH CC)
/-- never called with this -/
theorem never {x : Str} {st : Stmt} {N ps : List Str} (B : DefB K mg x st ps) (S : FnScope N ps (C8.fnScope st)) {R : DR} (h : ∀ mu ds P, R mu ds P → False) : C8.Cal Pr w K mg base 1 x (spD R) [] := by
  obtain ⟨f, fd, F, b⟩ := B.ex
  have z : ∀ vs H Q E, spD R vs H Q E → False := by
    rintro vs H Q E ⟨M0, mu, es, P, ok, rs, hr, k⟩
    exact h _ _ _ hr
  exact C8.cal0 F b .nil S (fun vs H Q E q => (z vs H Q E q).elim) fun cdv A outer s H vs Q E hr q => (z vs H Q E q).elim
theorem k_tree (X : TopF K mg CH CC gr) : ∀ j : Nat, ∃ l, l ≤ 2 * j + 4 ∧ C8.Cal Pr w K mg base l "_law_tree" (spD (R_tree j)) []
  | 0 => ⟨1, by omega, never X.f_law_tree sc_law_tree fun mu ds P h => by
      obtain ⟨s, ww, W, n, l, mu0, d, vs, g, hd, bl, h1, h2, h3, h4, h5, h6⟩ := h
      omega⟩
  | j + 1 => by
    obtain ⟨l, hl, c⟩ := k_tree X j
    have cb : C8.Cal Pr w K mg base (2 * j + 4 + 1) "_law_call_by" (spD (R_callby j)) [] := by
      obtain ⟨f, fd, F, b⟩ := X.f_law_call_by.ex
      exact calG F b sc_law_call_by (ln_law_call_by CH CC j) (fun cdv A outer s H E hr => der_law_call_by X.T (k_law_take X) (by omega) c hl cdv A outer s H E hr) (body_law_call_by CH CC j)
    refine ⟨2 * j + 4 + 2, by omega, ?_⟩
    obtain ⟨f, fd, F, b⟩ := X.f_law_tree.ex
    exact calG F b sc_law_tree (ln_law_tree CH CC j) (fun cdv A outer s H E hr => der_law_tree X.T (k_law_take X) (by omega) (k_law_leaf X) (by omega) cb (Nat.le_refl _) c (by omega) cdv A outer s H E hr) (body_law_tree CH CC j)
theorem k_law_cut (X : TopF K mg CH CC gr) : ∀ j : Nat, ∃ l, l ≤ j + 1 ∧ C8.Cal Pr w K mg base l "_law_cut" (spD (R_law_cut j)) []
  | 0 => ⟨1, by omega, never X.f_law_cut sc_law_cut fun mu ds P h => by
      obtain ⟨R, T, O, h1, h2, h3, h4, h5⟩ := h
      exact h4⟩
  | j + 1 => by
    obtain ⟨l, hl, c⟩ := k_law_cut X j
    refine ⟨j + 1 + 1, by omega, ?_⟩
    obtain ⟨f, fd, F, b⟩ := X.f_law_cut.ex
    exact calG F b sc_law_cut (ln_law_cut CH CC j) (fun cdv A outer s H E hr => der_law_cut X.T (k_law_right X) (by omega) c hl cdv A outer s H E hr) (body_law_cut CH CC j)
theorem k_law_any (X : TopF K mg CH CC gr) : C8.Cal Pr w K mg base 89 "_law_any" (spD R_law_any) [] := by
  obtain ⟨l, hl, c⟩ := k_tree (Pr := Pr) (w := w) (base := base) X 41
  have cc : C8.Cal Pr w K mg base 87 "_law_clause_by" (spD (R_clauseby 41)) [] := by
    obtain ⟨f, fd, F, b⟩ := X.f_law_clause_by.ex
    exact calG F b sc_law_clause_by (ln_law_clause_by CH CC 41) (fun cdv A outer s H E hr => der_law_clause_by X.T (k_law_take X) (by omega) c hl cdv A outer s H E hr) (body_law_clause_by CH CC 41)
  have ci : C8.Cal Pr w K mg base 88 "_law_item" (spD (R_item 41)) [] := by
    obtain ⟨f, fd, F, b⟩ := X.f_law_item.ex
    exact calG F b sc_law_item (ln_law_item CH CC 41) (fun cdv A outer s H E hr => der_law_item X.T c (by omega) (k_law_take X) (by omega) cc (by omega) cdv A outer s H E hr) (body_law_item CH CC 41)
  obtain ⟨f, fd, F, b⟩ := X.f_law_any.ex
  exact calG F b sc_law_any (ln_law_any CH CC) (fun cdv A outer s H E hr => der_law_any X.T (k_law_source X) (by decide) (k_law_take X) (by decide) (k_law_fresh X) (by decide) (k_law_heads X) (by decide) ci (by decide) cdv A outer s H E hr) (body_law_any CH CC 41 (by decide))
theorem law_ok (X : TopF K mg CH CC gr) {f : Addr} {fd : FuncData} (F : C8.Def K mg "law" st_law f fd) : FnOk Pr w K mg base CX0 90 f fd P_law (spD R_law) := by
  obtain ⟨l, hl, c⟩ := k_law_cut (Pr := Pr) (w := w) (base := base) X 2
  exact C8.fn0 F.fn sc_law (len_spD (ln_law CH CC)) fun cdv A outer s H vs Q E hr h => by
    obtain ⟨ts, ht⟩ := der_law (Pr := Pr) (w := w) (base := base) X.T (k_law_any X) (by decide) (k_law_input X) (by decide) (k_law_take X) (by decide) (k_run X) (by decide) (k_law_right X) (by decide) c (by omega) cdv A outer s H E hr
    exact body_ofG ht (body_law CH CC) h
end
end DL
set_option maxHeartbeats 2000000
/-! K56b: printed by gen56b.py: the facts of the top, and the end -/
namespace DL
open PySem PySem.Spec PyProof.Rows L2

/-- no list stands in the written part -/
def noList : PySem.W.Frag → Bool
  | [] => true
  | q :: r => (match q.2.cls with
    | .type n => !(n == "list")
    | _ => true) && noList r
theorem noList_ok : ∀ {K : PySem.W.Frag}, noList K = true → ∀ {a : Addr} {o : Obj}, K.lookup a = some o → o.cls ≠ .type "list"
  | [], h, a, o, e, c => by cases e
  | (b, u) :: r, h, a, o, e, c => by
    simp only [noList, Bool.and_eq_true] at h
    simp only [List.lookup] at e
    split at e
    · cases e
      rw [c] at h
      exact absurd h.1 (by decide)
    · exact noList_ok h.2 e c
theorem law_entry {K : PySem.W.Frag} {H : Hp} {a : Addr} {ns : List Int} {E : XK} (hno : noList K = true) (h : SqL K H a (ns.map V.int)) : spD R_law [.ref a] H (fun v _ => v = .bl true) E := by
  have rd : Rd H a (.lst (ns.map V.int)) := by
    rcases h with h | ⟨o, its, n, e, c, _⟩
    · exact h
    · exact absurd c (noList_ok hno e)
  have nu : ∀ b, ¬ U (fun _ => False) [] b := fun b q => by
    rcases q with q | q
    · exact q
    · cases q
  refine ⟨fun _ => False, [], [.fz ns], fun d _ => d = .bl true, ⟨List.nodup_nil, fun b q => (nu b q).elim, fun b o q => by cases q⟩, reps_one ?_, ⟨ns, rfl, rfl⟩, fun d mu' v H' hd _ _ r => ?_⟩
  · simp only [Rep]
    exact ⟨a, rfl, nu a, rd⟩
  · subst hd
    simpa only [Rep] using r
/-- the end: F is told also what stands apart of the written part -/
theorem walkX {l : PySem.W.OpenLaw} {n k : Nat} {q : Program} {loose : List Str} {XP : (Str → Option Value) → Heap → Prop} {YP : World → Heap → Prop} {d : DefRec} {K : Params → PySem.W.Frag} {sp : Sp} {x : Str}
    (hn : l.most = some n) (hn2 : n ≤ sizeLine) (hdf : d.params.defaults = []) (hr : Room k callerA) (hY : ∀ (w : World) (h : Heap), YP w h → (K w.params).In h)
    (F : ∀ (w : World) (mg : Str → Option Value) (fa : Addr) (h : Heap), (K w.params).In h → h.Ns mainGlobals mg → mg d.name = some (.ref fa) → XP mg h →
      ∃ fd : FuncData, (∀ (s : Shared) (u : Value), BindsTo s fd ⟨[u], []⟩ [(x, u)]) ∧ ∀ base : Heap, FnOk l.prog w (K w.params) mg base CX0 k fa fd [x] sp)
    (hsp : ∀ (w : World) (H : Hp) (a : Addr) (ns : List Int), SqL (K w.params) H a (ns.map V.int) → sp [.ref a] H (fun v _ => v = .bl true) fun _ _ _ => False) :
    PySem.W.WalkO q loose XP YP l.row.toRowW d [] (fun f vs => PySem.call f vs) := by
  refine Att.attach_call hn hdf fun w s₀ s₁ mg mb fa o pm cd doc a vs ns G Y ho hd hcd hmg hobj hints hlen hg => ?_
  have X := hY w _ Y
  obtain ⟨fd, hb, hF⟩ := F w mg fa _ X G.T.g hmg G.X
  exact law_call X G.T.g G.T.b G.T.builtins G.T.nolimit hg hobj hints (Nat.le_trans hlen hn2) hr (fun base _ _ => hF base) hb (fun H _ hS => hsp w H a ns hS) fun _ _ _ z => z
theorem defB_mk {K : PySem.W.Frag} {h : Heap} {mg : Str → Option Value} {x : Str} {st : Stmt} {ps : List Str} {f : Addr} {oc : Value} {od an : Option Addr} {osl : Array (Option Value)} {kV doc pm cdv ct : Value} (X : K.In h) (G : h.Ns mainGlobals mg) (a : PySem.W.nsIn K mainGlobals x = some (some (.ref f))) (l : K.lookup f = some ⟨oc, od, .func (PySem.W.fnOf x x (C8.fnArgs st) (C8.fnBody st) (C8.fnScope st) .none kV doc pm an cdv ct), osl⟩) (c : PySem.W.codeIn K cdv x = true) (kp : PySem.W.keepIn K (.ref f) = true)
    (hb : ∀ (kV doc pm : Value) (an : Option Addr) (cdv ct : Value) (us : List Value), us.length = ps.length → bindArgs (PySem.W.fnOf x x (C8.fnArgs st) (C8.fnBody st) (C8.fnScope st) .none kV doc pm an cdv ct) ⟨us, []⟩ = pure (ps.zip us)) : DefB K mg x st ps := by
  obtain ⟨fd, F, b⟩ := fn_mk8 (ps := ps) l c hb
  exact ⟨f, fd, ⟨F, PySem.W.mg_of X G a, kp⟩, b⟩
theorem top_all {K : PySem.W.Frag} {h : Heap} {mg : Str → Option Value} (X : K.In h) (G : h.Ns mainGlobals mg) {fa CH CC : Addr}
    {f0 : Addr} {oc0 kV0 doc0 pm0 cd0 ct0 : Value} {od0 an0 : Option Addr} {sl0 : Array (Option Value)}
    {f1 : Addr} {oc1 kV1 doc1 pm1 cd1 ct1 : Value} {od1 an1 : Option Addr} {sl1 : Array (Option Value)}
    {f2 : Addr} {oc2 kV2 doc2 pm2 cd2 ct2 : Value} {od2 an2 : Option Addr} {sl2 : Array (Option Value)}
    {f3 : Addr} {oc3 kV3 doc3 pm3 cd3 ct3 : Value} {od3 an3 : Option Addr} {sl3 : Array (Option Value)}
    {f4 : Addr} {oc4 kV4 doc4 pm4 cd4 ct4 : Value} {od4 an4 : Option Addr} {sl4 : Array (Option Value)}
    {f5 : Addr} {oc5 kV5 doc5 pm5 cd5 ct5 : Value} {od5 an5 : Option Addr} {sl5 : Array (Option Value)}
    {f6 : Addr} {oc6 kV6 doc6 pm6 cd6 ct6 : Value} {od6 an6 : Option Addr} {sl6 : Array (Option Value)}
    {f7 : Addr} {oc7 kV7 doc7 pm7 cd7 ct7 : Value} {od7 an7 : Option Addr} {sl7 : Array (Option Value)}
    {f8 : Addr} {oc8 kV8 doc8 pm8 cd8 ct8 : Value} {od8 an8 : Option Addr} {sl8 : Array (Option Value)}
    {f9 : Addr} {oc9 kV9 doc9 pm9 cd9 ct9 : Value} {od9 an9 : Option Addr} {sl9 : Array (Option Value)}
    {f10 : Addr} {oc10 kV10 doc10 pm10 cd10 ct10 : Value} {od10 an10 : Option Addr} {sl10 : Array (Option Value)}
    {f11 : Addr} {oc11 kV11 doc11 pm11 cd11 ct11 : Value} {od11 an11 : Option Addr} {sl11 : Array (Option Value)}
    {f12 : Addr} {oc12 kV12 doc12 pm12 cd12 ct12 : Value} {od12 an12 : Option Addr} {sl12 : Array (Option Value)}
    {f13 : Addr} {oc13 kV13 doc13 pm13 cd13 ct13 : Value} {od13 an13 : Option Addr} {sl13 : Array (Option Value)}
    {f14 : Addr} {oc14 kV14 doc14 pm14 cd14 ct14 : Value} {od14 an14 : Option Addr} {sl14 : Array (Option Value)}
    {f15 : Addr} {oc15 kV15 doc15 pm15 cd15 ct15 : Value} {od15 an15 : Option Addr} {sl15 : Array (Option Value)}
    {f16 : Addr} {oc16 kV16 doc16 pm16 cd16 ct16 : Value} {od16 an16 : Option Addr} {sl16 : Array (Option Value)}
    {f17 : Addr} {oc17 kV17 doc17 pm17 cd17 ct17 : Value} {od17 an17 : Option Addr} {sl17 : Array (Option Value)}
    {f18 : Addr} {oc18 kV18 doc18 pm18 cd18 ct18 : Value} {od18 an18 : Option Addr} {sl18 : Array (Option Value)}
    {f19 : Addr} {oc19 kV19 doc19 pm19 cd19 ct19 : Value} {od19 an19 : Option Addr} {sl19 : Array (Option Value)}
    {f20 : Addr} {oc20 kV20 doc20 pm20 cd20 ct20 : Value} {od20 an20 : Option Addr} {sl20 : Array (Option Value)}
    {f21 : Addr} {oc21 kV21 doc21 pm21 cd21 ct21 : Value} {od21 an21 : Option Addr} {sl21 : Array (Option Value)}
    {f22 : Addr} {oc22 kV22 doc22 pm22 cd22 ct22 : Value} {od22 an22 : Option Addr} {sl22 : Array (Option Value)}
    {f23 : Addr} {oc23 kV23 doc23 pm23 cd23 ct23 : Value} {od23 an23 : Option Addr} {sl23 : Array (Option Value)}
    {f24 : Addr} {oc24 kV24 doc24 pm24 cd24 ct24 : Value} {od24 an24 : Option Addr} {sl24 : Array (Option Value)}
    {f25 : Addr} {oc25 kV25 doc25 pm25 cd25 ct25 : Value} {od25 an25 : Option Addr} {sl25 : Array (Option Value)}
    {f26 : Addr} {oc26 kV26 doc26 pm26 cd26 ct26 : Value} {od26 an26 : Option Addr} {sl26 : Array (Option Value)}
    {f27 : Addr} {oc27 kV27 doc27 pm27 cd27 ct27 : Value} {od27 an27 : Option Addr} {sl27 : Array (Option Value)}
    {f28 : Addr} {oc28 kV28 doc28 pm28 cd28 ct28 : Value} {od28 an28 : Option Addr} {sl28 : Array (Option Value)}
    {f29 : Addr} {oc29 kV29 doc29 pm29 cd29 ct29 : Value} {od29 an29 : Option Addr} {sl29 : Array (Option Value)}
    {f30 : Addr} {oc30 kV30 doc30 pm30 cd30 ct30 : Value} {od30 an30 : Option Addr} {sl30 : Array (Option Value)}
    {f31 : Addr} {oc31 kV31 doc31 pm31 cd31 ct31 : Value} {od31 an31 : Option Addr} {sl31 : Array (Option Value)}
    {f32 : Addr} {oc32 kV32 doc32 pm32 cd32 ct32 : Value} {od32 an32 : Option Addr} {sl32 : Array (Option Value)}
    {f33 : Addr} {oc33 kV33 doc33 pm33 cd33 ct33 : Value} {od33 an33 : Option Addr} {sl33 : Array (Option Value)}
    {f34 : Addr} {oc34 kV34 doc34 pm34 cd34 ct34 : Value} {od34 an34 : Option Addr} {sl34 : Array (Option Value)}
    {f35 : Addr} {oc35 kV35 doc35 pm35 cd35 ct35 : Value} {od35 an35 : Option Addr} {sl35 : Array (Option Value)}
    {f36 : Addr} {oc36 kV36 doc36 pm36 cd36 ct36 : Value} {od36 an36 : Option Addr} {sl36 : Array (Option Value)}
    {f37 : Addr} {oc37 kV37 doc37 pm37 cd37 ct37 : Value} {od37 an37 : Option Addr} {sl37 : Array (Option Value)}
    {f38 : Addr} {oc38 kV38 doc38 pm38 cd38 ct38 : Value} {od38 an38 : Option Addr} {sl38 : Array (Option Value)}
    {f39 : Addr} {oc39 kV39 doc39 pm39 cd39 ct39 : Value} {od39 an39 : Option Addr} {sl39 : Array (Option Value)}
    {f40 : Addr} {oc40 kV40 doc40 pm40 cd40 ct40 : Value} {od40 an40 : Option Addr} {sl40 : Array (Option Value)}
    {f41 : Addr} {oc41 kV41 doc41 pm41 cd41 ct41 : Value} {od41 an41 : Option Addr} {sl41 : Array (Option Value)}
    {f42 : Addr} {oc42 kV42 doc42 pm42 cd42 ct42 : Value} {od42 an42 : Option Addr} {sl42 : Array (Option Value)}
    (hfa : mg "law" = some (.ref fa)) (V : ∃ v, mg "GREATEST" = some v ∧ PySem.W.ReadsLit h v (.int 1000000000000000000) [])
    (aCH : PySem.W.nsIn K mainGlobals "Halt" = some (some (.ref CH)))
    (aCC : PySem.W.nsIn K mainGlobals "Course" = some (some (.ref CC)))
    (a0 : PySem.W.nsIn K mainGlobals "item_named" = some (some (.ref f0)))
    (l0 : K.lookup f0 = some ⟨oc0, od0, .func (PySem.W.fnOf "item_named" "item_named" (C8.fnArgs st_item_named) (C8.fnBody st_item_named) (C8.fnScope st_item_named) .none kV0 doc0 pm0 an0 cd0 ct0), sl0⟩)
    (c0 : PySem.W.codeIn K cd0 "item_named" = true)
    (k0 : PySem.W.keepIn K (.ref f0) = true)
    (a1 : PySem.W.nsIn K mainGlobals "function_named" = some (some (.ref f1)))
    (l1 : K.lookup f1 = some ⟨oc1, od1, .func (PySem.W.fnOf "function_named" "function_named" (C8.fnArgs st_function_named) (C8.fnBody st_function_named) (C8.fnScope st_function_named) .none kV1 doc1 pm1 an1 cd1 ct1), sl1⟩)
    (c1 : PySem.W.codeIn K cd1 "function_named" = true)
    (k1 : PySem.W.keepIn K (.ref f1) = true)
    (a2 : PySem.W.nsIn K mainGlobals "handler_named" = some (some (.ref f2)))
    (l2 : K.lookup f2 = some ⟨oc2, od2, .func (PySem.W.fnOf "handler_named" "handler_named" (C8.fnArgs st_handler_named) (C8.fnBody st_handler_named) (C8.fnScope st_handler_named) .none kV2 doc2 pm2 an2 cd2 ct2), sl2⟩)
    (c2 : PySem.W.codeIn K cd2 "handler_named" = true)
    (k2 : PySem.W.keepIn K (.ref f2) = true)
    (a3 : PySem.W.nsIn K mainGlobals "clause_for" = some (some (.ref f3)))
    (l3 : K.lookup f3 = some ⟨oc3, od3, .func (PySem.W.fnOf "clause_for" "clause_for" (C8.fnArgs st_clause_for) (C8.fnBody st_clause_for) (C8.fnScope st_clause_for) .none kV3 doc3 pm3 an3 cd3 ct3), sl3⟩)
    (c3 : PySem.W.codeIn K cd3 "clause_for" = true)
    (k3 : PySem.W.keepIn K (.ref f3) = true)
    (a4 : PySem.W.nsIn K mainGlobals "taken_off" = some (some (.ref f4)))
    (l4 : K.lookup f4 = some ⟨oc4, od4, .func (PySem.W.fnOf "taken_off" "taken_off" (C8.fnArgs st_taken_off) (C8.fnBody st_taken_off) (C8.fnScope st_taken_off) .none kV4 doc4 pm4 an4 cd4 ct4), sl4⟩)
    (c4 : PySem.W.codeIn K cd4 "taken_off" = true)
    (k4 : PySem.W.keepIn K (.ref f4) = true)
    (a5 : PySem.W.nsIn K mainGlobals "piled" = some (some (.ref f5)))
    (l5 : K.lookup f5 = some ⟨oc5, od5, .func (PySem.W.fnOf "piled" "piled" (C8.fnArgs st_piled) (C8.fnBody st_piled) (C8.fnScope st_piled) .none kV5 doc5 pm5 an5 cd5 ct5), sl5⟩)
    (c5 : PySem.W.codeIn K cd5 "piled" = true)
    (k5 : PySem.W.keepIn K (.ref f5) = true)
    (a6 : PySem.W.nsIn K mainGlobals "put_on" = some (some (.ref f6)))
    (l6 : K.lookup f6 = some ⟨oc6, od6, .func (PySem.W.fnOf "put_on" "put_on" (C8.fnArgs st_put_on) (C8.fnBody st_put_on) (C8.fnScope st_put_on) .none kV6 doc6 pm6 an6 cd6 ct6), sl6⟩)
    (c6 : PySem.W.codeIn K cd6 "put_on" = true)
    (k6 : PySem.W.keepIn K (.ref f6) = true)
    (a7 : PySem.W.nsIn K mainGlobals "gone_from" = some (some (.ref f7)))
    (l7 : K.lookup f7 = some ⟨oc7, od7, .func (PySem.W.fnOf "gone_from" "gone_from" (C8.fnArgs st_gone_from) (C8.fnBody st_gone_from) (C8.fnScope st_gone_from) .none kV7 doc7 pm7 an7 cd7 ct7), sl7⟩)
    (c7 : PySem.W.codeIn K cd7 "gone_from" = true)
    (k7 : PySem.W.keepIn K (.ref f7) = true)
    (a8 : PySem.W.nsIn K mainGlobals "thrown" = some (some (.ref f8)))
    (l8 : K.lookup f8 = some ⟨oc8, od8, .func (PySem.W.fnOf "thrown" "thrown" (C8.fnArgs st_thrown) (C8.fnBody st_thrown) (C8.fnScope st_thrown) .none kV8 doc8 pm8 an8 cd8 ct8), sl8⟩)
    (c8 : PySem.W.codeIn K cd8 "thrown" = true)
    (k8 : PySem.W.keepIn K (.ref f8) = true)
    (a9 : PySem.W.findIn K (.ref CH) "__init__" = some (some (.ref f9)))
    (i9 : PySem.W.isFn K (.ref f9) = true)
    (l9 : K.lookup f9 = some ⟨oc9, od9, .func (PySem.W.fnOf "__init__" "Halt.__init__" (C8.fnArgs st_halt) (C8.fnBody st_halt) (C8.fnScope st_halt) .none kV9 doc9 pm9 an9 cd9 ct9), sl9⟩)
    (c9 : PySem.W.codeIn K cd9 "Halt.__init__" = true)
    (k9 : PySem.W.keepIn K (.ref f9) = true)
    (a10 : PySem.W.findIn K (.ref CC) "__init__" = some (some (.ref f10)))
    (i10 : PySem.W.isFn K (.ref f10) = true)
    (l10 : K.lookup f10 = some ⟨oc10, od10, .func (PySem.W.fnOf "__init__" "Course.__init__" (C8.fnArgs st_course) (C8.fnBody st_course) (C8.fnScope st_course) .none kV10 doc10 pm10 an10 cd10 ct10), sl10⟩)
    (c10 : PySem.W.codeIn K cd10 "Course.__init__" = true)
    (k10 : PySem.W.keepIn K (.ref f10) = true)
    (a11 : PySem.W.findIn K (.ref CC) "take_turn" = some (some (.ref f11)))
    (i11 : PySem.W.isFn K (.ref f11) = true)
    (l11 : K.lookup f11 = some ⟨oc11, od11, .func (PySem.W.fnOf "take_turn" "Course.take_turn" (C8.fnArgs st_take_turn) (C8.fnBody st_take_turn) (C8.fnScope st_take_turn) .none kV11 doc11 pm11 an11 cd11 ct11), sl11⟩)
    (c11 : PySem.W.codeIn K cd11 "Course.take_turn" = true)
    (k11 : PySem.W.keepIn K (.ref f11) = true)
    (a12 : PySem.W.nsIn K mainGlobals "value_of" = some (some (.ref f12)))
    (l12 : K.lookup f12 = some ⟨oc12, od12, .func (PySem.W.fnOf "value_of" "value_of" (C8.fnArgs st_value_of) (C8.fnBody st_value_of) (C8.fnScope st_value_of) .none kV12 doc12 pm12 an12 cd12 ct12), sl12⟩)
    (c12 : PySem.W.codeIn K cd12 "value_of" = true)
    (k12 : PySem.W.keepIn K (.ref f12) = true)
    (a13 : PySem.W.nsIn K mainGlobals "reckoned" = some (some (.ref f13)))
    (l13 : K.lookup f13 = some ⟨oc13, od13, .func (PySem.W.fnOf "reckoned" "reckoned" (C8.fnArgs st_reckoned) (C8.fnBody st_reckoned) (C8.fnScope st_reckoned) .none kV13 doc13 pm13 an13 cd13 ct13), sl13⟩)
    (c13 : PySem.W.codeIn K cd13 "reckoned" = true)
    (k13 : PySem.W.keepIn K (.ref f13) = true)
    (a14 : PySem.W.nsIn K mainGlobals "called" = some (some (.ref f14)))
    (l14 : K.lookup f14 = some ⟨oc14, od14, .func (PySem.W.fnOf "called" "called" (C8.fnArgs st_called) (C8.fnBody st_called) (C8.fnScope st_called) .none kV14 doc14 pm14 an14 cd14 ct14), sl14⟩)
    (c14 : PySem.W.codeIn K cd14 "called" = true)
    (k14 : PySem.W.keepIn K (.ref f14) = true)
    (a15 : PySem.W.nsIn K mainGlobals "asked" = some (some (.ref f15)))
    (l15 : K.lookup f15 = some ⟨oc15, od15, .func (PySem.W.fnOf "asked" "asked" (C8.fnArgs st_asked) (C8.fnBody st_asked) (C8.fnScope st_asked) .none kV15 doc15 pm15 an15 cd15 ct15), sl15⟩)
    (c15 : PySem.W.codeIn K cd15 "asked" = true)
    (k15 : PySem.W.keepIn K (.ref f15) = true)
    (a16 : PySem.W.nsIn K mainGlobals "begun_tree" = some (some (.ref f16)))
    (l16 : K.lookup f16 = some ⟨oc16, od16, .func (PySem.W.fnOf "begun_tree" "begun_tree" (C8.fnArgs st_begun_tree) (C8.fnBody st_begun_tree) (C8.fnScope st_begun_tree) .none kV16 doc16 pm16 an16 cd16 ct16), sl16⟩)
    (c16 : PySem.W.codeIn K cd16 "begun_tree" = true)
    (k16 : PySem.W.keepIn K (.ref f16) = true)
    (a17 : PySem.W.nsIn K mainGlobals "told_tree" = some (some (.ref f17)))
    (l17 : K.lookup f17 = some ⟨oc17, od17, .func (PySem.W.fnOf "told_tree" "told_tree" (C8.fnArgs st_told_tree) (C8.fnBody st_told_tree) (C8.fnScope st_told_tree) .none kV17 doc17 pm17 an17 cd17 ct17), sl17⟩)
    (c17 : PySem.W.codeIn K cd17 "told_tree" = true)
    (k17 : PySem.W.keepIn K (.ref f17) = true)
    (a18 : PySem.W.nsIn K mainGlobals "told_arg" = some (some (.ref f18)))
    (l18 : K.lookup f18 = some ⟨oc18, od18, .func (PySem.W.fnOf "told_arg" "told_arg" (C8.fnArgs st_told_arg) (C8.fnBody st_told_arg) (C8.fnScope st_told_arg) .none kV18 doc18 pm18 an18 cd18 ct18), sl18⟩)
    (c18 : PySem.W.codeIn K cd18 "told_arg" = true)
    (k18 : PySem.W.keepIn K (.ref f18) = true)
    (a19 : PySem.W.nsIn K mainGlobals "told_second" = some (some (.ref f19)))
    (l19 : K.lookup f19 = some ⟨oc19, od19, .func (PySem.W.fnOf "told_second" "told_second" (C8.fnArgs st_told_second) (C8.fnBody st_told_second) (C8.fnScope st_told_second) .none kV19 doc19 pm19 an19 cd19 ct19), sl19⟩)
    (c19 : PySem.W.codeIn K cd19 "told_second" = true)
    (k19 : PySem.W.keepIn K (.ref f19) = true)
    (a20 : PySem.W.nsIn K mainGlobals "told_go" = some (some (.ref f20)))
    (l20 : K.lookup f20 = some ⟨oc20, od20, .func (PySem.W.fnOf "told_go" "told_go" (C8.fnArgs st_told_go) (C8.fnBody st_told_go) (C8.fnScope st_told_go) .none kV20 doc20 pm20 an20 cd20 ct20), sl20⟩)
    (c20 : PySem.W.codeIn K cd20 "told_go" = true)
    (k20 : PySem.W.keepIn K (.ref f20) = true)
    (a21 : PySem.W.nsIn K mainGlobals "told_clause" = some (some (.ref f21)))
    (l21 : K.lookup f21 = some ⟨oc21, od21, .func (PySem.W.fnOf "told_clause" "told_clause" (C8.fnArgs st_told_clause) (C8.fnBody st_told_clause) (C8.fnScope st_told_clause) .none kV21 doc21 pm21 an21 cd21 ct21), sl21⟩)
    (c21 : PySem.W.codeIn K cd21 "told_clause" = true)
    (k21 : PySem.W.keepIn K (.ref f21) = true)
    (a22 : PySem.W.nsIn K mainGlobals "told" = some (some (.ref f22)))
    (l22 : K.lookup f22 = some ⟨oc22, od22, .func (PySem.W.fnOf "told" "told" (C8.fnArgs st_told) (C8.fnBody st_told) (C8.fnScope st_told) .none kV22 doc22 pm22 an22 cd22 ct22), sl22⟩)
    (c22 : PySem.W.codeIn K cd22 "told" = true)
    (k22 : PySem.W.keepIn K (.ref f22) = true)
    (a23 : PySem.W.nsIn K mainGlobals "to_end" = some (some (.ref f23)))
    (l23 : K.lookup f23 = some ⟨oc23, od23, .func (PySem.W.fnOf "to_end" "to_end" (C8.fnArgs st_to_end) (C8.fnBody st_to_end) (C8.fnScope st_to_end) .none kV23 doc23 pm23 an23 cd23 ct23), sl23⟩)
    (c23 : PySem.W.codeIn K cd23 "to_end" = true)
    (k23 : PySem.W.keepIn K (.ref f23) = true)
    (a24 : PySem.W.nsIn K mainGlobals "begun" = some (some (.ref f24)))
    (l24 : K.lookup f24 = some ⟨oc24, od24, .func (PySem.W.fnOf "begun" "begun" (C8.fnArgs st_begun) (C8.fnBody st_begun) (C8.fnScope st_begun) .none kV24 doc24 pm24 an24 cd24 ct24), sl24⟩)
    (c24 : PySem.W.codeIn K cd24 "begun" = true)
    (k24 : PySem.W.keepIn K (.ref f24) = true)
    (a25 : PySem.W.nsIn K mainGlobals "gone_on" = some (some (.ref f25)))
    (l25 : K.lookup f25 = some ⟨oc25, od25, .func (PySem.W.fnOf "gone_on" "gone_on" (C8.fnArgs st_gone_on) (C8.fnBody st_gone_on) (C8.fnScope st_gone_on) .none kV25 doc25 pm25 an25 cd25 ct25), sl25⟩)
    (c25 : PySem.W.codeIn K cd25 "gone_on" = true)
    (k25 : PySem.W.keepIn K (.ref f25) = true)
    (a26 : PySem.W.nsIn K mainGlobals "run" = some (some (.ref f26)))
    (l26 : K.lookup f26 = some ⟨oc26, od26, .func (PySem.W.fnOf "run" "run" (C8.fnArgs st_run) (C8.fnBody st_run) (C8.fnScope st_run) .none kV26 doc26 pm26 an26 cd26 ct26), sl26⟩)
    (c26 : PySem.W.codeIn K cd26 "run" = true)
    (k26 : PySem.W.keepIn K (.ref f26) = true)
    (a27 : PySem.W.nsIn K mainGlobals "_law_take" = some (some (.ref f27)))
    (l27 : K.lookup f27 = some ⟨oc27, od27, .func (PySem.W.fnOf "_law_take" "_law_take" (C8.fnArgs st_law_take) (C8.fnBody st_law_take) (C8.fnScope st_law_take) .none kV27 doc27 pm27 an27 cd27 ct27), sl27⟩)
    (c27 : PySem.W.codeIn K cd27 "_law_take" = true)
    (k27 : PySem.W.keepIn K (.ref f27) = true)
    (a28 : PySem.W.nsIn K mainGlobals "_law_source" = some (some (.ref f28)))
    (l28 : K.lookup f28 = some ⟨oc28, od28, .func (PySem.W.fnOf "_law_source" "_law_source" (C8.fnArgs st_law_source) (C8.fnBody st_law_source) (C8.fnScope st_law_source) .none kV28 doc28 pm28 an28 cd28 ct28), sl28⟩)
    (c28 : PySem.W.codeIn K cd28 "_law_source" = true)
    (k28 : PySem.W.keepIn K (.ref f28) = true)
    (a29 : PySem.W.nsIn K mainGlobals "_law_fresh" = some (some (.ref f29)))
    (l29 : K.lookup f29 = some ⟨oc29, od29, .func (PySem.W.fnOf "_law_fresh" "_law_fresh" (C8.fnArgs st_law_fresh) (C8.fnBody st_law_fresh) (C8.fnScope st_law_fresh) .none kV29 doc29 pm29 an29 cd29 ct29), sl29⟩)
    (c29 : PySem.W.codeIn K cd29 "_law_fresh" = true)
    (k29 : PySem.W.keepIn K (.ref f29) = true)
    (a30 : PySem.W.nsIn K mainGlobals "_law_heads" = some (some (.ref f30)))
    (l30 : K.lookup f30 = some ⟨oc30, od30, .func (PySem.W.fnOf "_law_heads" "_law_heads" (C8.fnArgs st_law_heads) (C8.fnBody st_law_heads) (C8.fnScope st_law_heads) .none kV30 doc30 pm30 an30 cd30 ct30), sl30⟩)
    (c30 : PySem.W.codeIn K cd30 "_law_heads" = true)
    (k30 : PySem.W.keepIn K (.ref f30) = true)
    (a31 : PySem.W.nsIn K mainGlobals "_law_number_by" = some (some (.ref f31)))
    (l31 : K.lookup f31 = some ⟨oc31, od31, .func (PySem.W.fnOf "_law_number_by" "_law_number_by" (C8.fnArgs st_law_number_by) (C8.fnBody st_law_number_by) (C8.fnScope st_law_number_by) .none kV31 doc31 pm31 an31 cd31 ct31), sl31⟩)
    (c31 : PySem.W.codeIn K cd31 "_law_number_by" = true)
    (k31 : PySem.W.keepIn K (.ref f31) = true)
    (a32 : PySem.W.nsIn K mainGlobals "_law_leaf" = some (some (.ref f32)))
    (l32 : K.lookup f32 = some ⟨oc32, od32, .func (PySem.W.fnOf "_law_leaf" "_law_leaf" (C8.fnArgs st_law_leaf) (C8.fnBody st_law_leaf) (C8.fnScope st_law_leaf) .none kV32 doc32 pm32 an32 cd32 ct32), sl32⟩)
    (c32 : PySem.W.codeIn K cd32 "_law_leaf" = true)
    (k32 : PySem.W.keepIn K (.ref f32) = true)
    (a33 : PySem.W.nsIn K mainGlobals "_law_call_by" = some (some (.ref f33)))
    (l33 : K.lookup f33 = some ⟨oc33, od33, .func (PySem.W.fnOf "_law_call_by" "_law_call_by" (C8.fnArgs st_law_call_by) (C8.fnBody st_law_call_by) (C8.fnScope st_law_call_by) .none kV33 doc33 pm33 an33 cd33 ct33), sl33⟩)
    (c33 : PySem.W.codeIn K cd33 "_law_call_by" = true)
    (k33 : PySem.W.keepIn K (.ref f33) = true)
    (a34 : PySem.W.nsIn K mainGlobals "_law_tree" = some (some (.ref f34)))
    (l34 : K.lookup f34 = some ⟨oc34, od34, .func (PySem.W.fnOf "_law_tree" "_law_tree" (C8.fnArgs st_law_tree) (C8.fnBody st_law_tree) (C8.fnScope st_law_tree) .none kV34 doc34 pm34 an34 cd34 ct34), sl34⟩)
    (c34 : PySem.W.codeIn K cd34 "_law_tree" = true)
    (k34 : PySem.W.keepIn K (.ref f34) = true)
    (a35 : PySem.W.nsIn K mainGlobals "_law_clause_by" = some (some (.ref f35)))
    (l35 : K.lookup f35 = some ⟨oc35, od35, .func (PySem.W.fnOf "_law_clause_by" "_law_clause_by" (C8.fnArgs st_law_clause_by) (C8.fnBody st_law_clause_by) (C8.fnScope st_law_clause_by) .none kV35 doc35 pm35 an35 cd35 ct35), sl35⟩)
    (c35 : PySem.W.codeIn K cd35 "_law_clause_by" = true)
    (k35 : PySem.W.keepIn K (.ref f35) = true)
    (a36 : PySem.W.nsIn K mainGlobals "_law_item" = some (some (.ref f36)))
    (l36 : K.lookup f36 = some ⟨oc36, od36, .func (PySem.W.fnOf "_law_item" "_law_item" (C8.fnArgs st_law_item) (C8.fnBody st_law_item) (C8.fnScope st_law_item) .none kV36 doc36 pm36 an36 cd36 ct36), sl36⟩)
    (c36 : PySem.W.codeIn K cd36 "_law_item" = true)
    (k36 : PySem.W.keepIn K (.ref f36) = true)
    (a37 : PySem.W.nsIn K mainGlobals "_law_any" = some (some (.ref f37)))
    (l37 : K.lookup f37 = some ⟨oc37, od37, .func (PySem.W.fnOf "_law_any" "_law_any" (C8.fnArgs st_law_any) (C8.fnBody st_law_any) (C8.fnScope st_law_any) .none kV37 doc37 pm37 an37 cd37 ct37), sl37⟩)
    (c37 : PySem.W.codeIn K cd37 "_law_any" = true)
    (k37 : PySem.W.keepIn K (.ref f37) = true)
    (a38 : PySem.W.nsIn K mainGlobals "_law_value_by" = some (some (.ref f38)))
    (l38 : K.lookup f38 = some ⟨oc38, od38, .func (PySem.W.fnOf "_law_value_by" "_law_value_by" (C8.fnArgs st_law_value_by) (C8.fnBody st_law_value_by) (C8.fnScope st_law_value_by) .none kV38 doc38 pm38 an38 cd38 ct38), sl38⟩)
    (c38 : PySem.W.codeIn K cd38 "_law_value_by" = true)
    (k38 : PySem.W.keepIn K (.ref f38) = true)
    (a39 : PySem.W.nsIn K mainGlobals "_law_input" = some (some (.ref f39)))
    (l39 : K.lookup f39 = some ⟨oc39, od39, .func (PySem.W.fnOf "_law_input" "_law_input" (C8.fnArgs st_law_input) (C8.fnBody st_law_input) (C8.fnScope st_law_input) .none kV39 doc39 pm39 an39 cd39 ct39), sl39⟩)
    (c39 : PySem.W.codeIn K cd39 "_law_input" = true)
    (k39 : PySem.W.keepIn K (.ref f39) = true)
    (a40 : PySem.W.nsIn K mainGlobals "_law_right" = some (some (.ref f40)))
    (l40 : K.lookup f40 = some ⟨oc40, od40, .func (PySem.W.fnOf "_law_right" "_law_right" (C8.fnArgs st_law_right) (C8.fnBody st_law_right) (C8.fnScope st_law_right) .none kV40 doc40 pm40 an40 cd40 ct40), sl40⟩)
    (c40 : PySem.W.codeIn K cd40 "_law_right" = true)
    (k40 : PySem.W.keepIn K (.ref f40) = true)
    (a41 : PySem.W.nsIn K mainGlobals "_law_cut" = some (some (.ref f41)))
    (l41 : K.lookup f41 = some ⟨oc41, od41, .func (PySem.W.fnOf "_law_cut" "_law_cut" (C8.fnArgs st_law_cut) (C8.fnBody st_law_cut) (C8.fnScope st_law_cut) .none kV41 doc41 pm41 an41 cd41 ct41), sl41⟩)
    (c41 : PySem.W.codeIn K cd41 "_law_cut" = true)
    (k41 : PySem.W.keepIn K (.ref f41) = true)
    (a42 : PySem.W.nsIn K mainGlobals "law" = some (some (.ref f42)))
    (l42 : K.lookup f42 = some ⟨oc42, od42, .func (PySem.W.fnOf "law" "law" (C8.fnArgs st_law) (C8.fnBody st_law) (C8.fnScope st_law) .none kV42 doc42 pm42 an42 cd42 ct42), sl42⟩)
    (c42 : PySem.W.codeIn K cd42 "law" = true)
    (k42 : PySem.W.keepIn K (.ref f42) = true)
    (pgCH : PySem.W.plainGet K CH Str.empty = true)
    (hdCH : PySem.W.hasDictIn K CH = true)
    (poCH : PySem.W.plainOver K CH = true)
    (saCH : PySem.W.findIn K (.ref CH) "__setattr__" = some (some (.builtin "object.__setattr__")))
    (mkCH : PySem.W.makesIn K CH = true)
    (kcCH : PySem.W.keepIn K (.ref CH) = true)
    (pgCC : PySem.W.plainGet K CC Str.empty = true)
    (hdCC : PySem.W.hasDictIn K CC = true)
    (poCC : PySem.W.plainOver K CC = true)
    (saCC : PySem.W.findIn K (.ref CC) "__setattr__" = some (some (.builtin "object.__setattr__")))
    (mkCC : PySem.W.makesIn K CC = true)
    (kcCC : PySem.W.keepIn K (.ref CC) = true)
    (nCH_end : PySem.W.findIn K (.ref CH) "end" = some none)
    (nCH_record : PySem.W.findIn K (.ref CH) "record" = some none)
    (nCH_used : PySem.W.findIn K (.ref CH) "used" = some none)
    (nCH_waits : PySem.W.findIn K (.ref CH) "waits" = some none)
    (nCC_program : PySem.W.findIn K (.ref CC) "program" = some none)
    (nCC_turns : PySem.W.findIn K (.ref CC) "turns" = some none)
    (nCC_used : PySem.W.findIn K (.ref CC) "used" = some none)
    (nCC_record : PySem.W.findIn K (.ref CC) "record" = some none)
    (nCC_end : PySem.W.findIn K (.ref CC) "end" = some none)
    (z_list : PySem.W.nsIn K mainGlobals "list" = some none)
    (z_tuple : PySem.W.nsIn K mainGlobals "tuple" = some none)
    (z_int : PySem.W.nsIn K mainGlobals "int" = some none)
    (z_bool : PySem.W.nsIn K mainGlobals "bool" = some none)
    (z_range : PySem.W.nsIn K mainGlobals "range" = some none)
    (z_zip : PySem.W.nsIn K mainGlobals "zip" = some none)
    (z_reversed : PySem.W.nsIn K mainGlobals "reversed" = some none)
    (z_len : PySem.W.nsIn K mainGlobals "len" = some none)
    (z_abs : PySem.W.nsIn K mainGlobals "abs" = some none)
    (z_max : PySem.W.nsIn K mainGlobals "max" = some none)
    (z_isinstance : PySem.W.nsIn K mainGlobals "isinstance" = some none)
    (z_any : PySem.W.nsIn K mainGlobals "any" = some none)
    (Pr : Program) (w : World) : ∃ fd : FuncData, (∀ (s : Shared) (u : Value), BindsTo s fd ⟨[u], []⟩ [("_law_script", u)]) ∧ ∀ base : Heap, FnOk Pr w K mg base CX0 90 fa fd ["_law_script"] (spD R_law) := by
  obtain ⟨gr, g1, g2⟩ := V
  obtain ⟨t, rfl, -⟩ := PySem.W.readsW_int_inv g2
  have T : Txt K mg CH CC (.int 1000000000000000000 t) := ⟨PySem.W.mg_none_of X G z_list, PySem.W.mg_none_of X G z_tuple, PySem.W.mg_none_of X G z_int, PySem.W.mg_none_of X G z_bool, PySem.W.mg_none_of X G z_range, PySem.W.mg_none_of X G z_zip, PySem.W.mg_none_of X G z_reversed, PySem.W.mg_none_of X G z_len, PySem.W.mg_none_of X G z_abs, PySem.W.mg_none_of X G z_max, PySem.W.mg_none_of X G z_isinstance, PySem.W.mg_none_of X G z_any, g1, ⟨t, rfl⟩, ⟨pgCH, hdCH, poCH, saCH⟩, ⟨pgCC, hdCC, poCC, saCC⟩, nCH_end, nCH_record, nCH_used, nCH_waits, nCC_program, nCC_turns, nCC_used, nCC_record, nCC_end⟩
  have e := hfa.symm.trans (PySem.W.mg_of X G a42)
  cases e
  have FL : C8.Fun K "law" "law" st_law fa (PySem.W.fnOf "law" "law" (C8.fnArgs st_law) (C8.fnBody st_law) (C8.fnScope st_law) .none kV42 doc42 pm42 an42 cd42 ct42) := ⟨⟨oc42, od42, .none, kV42, doc42, pm42, an42, cd42, ct42, sl42, rfl, l42, c42⟩⟩
  obtain ⟨fd9, F9, b9⟩ := fn_mk8 (ps := P_halt) l9 c9 ba_halt
  obtain ⟨fd10, F10, b10⟩ := fn_mk8 (ps := P_course) l10 c10 ba_course
  obtain ⟨fd11, F11, b11⟩ := fn_mk8 (ps := P_take_turn) l11 c11 ba_take_turn
  have TF : TopF K mg CH CC (.int 1000000000000000000 t) := ⟨T, defB_mk X G a0 l0 c0 k0 ba_item_named, defB_mk X G a1 l1 c1 k1 ba_function_named, defB_mk X G a2 l2 c2 k2 ba_handler_named, defB_mk X G a3 l3 c3 k3 ba_clause_for, defB_mk X G a4 l4 c4 k4 ba_taken_off, defB_mk X G a5 l5 c5 k5 ba_piled, defB_mk X G a6 l6 c6 k6 ba_put_on, defB_mk X G a7 l7 c7 k7 ba_gone_from, defB_mk X G a8 l8 c8 k8 ba_thrown, ⟨⟨_, _, ⟨mkCH, a9, i9, kcCH⟩, PySem.W.mg_of X G aCH, F9, b9⟩⟩, ⟨⟨_, _, ⟨mkCC, a10, i10, kcCC⟩, PySem.W.mg_of X G aCC, F10, b10⟩⟩, ⟨⟨_, _, ⟨a11, i11, k11⟩, F11, b11⟩⟩, defB_mk X G a12 l12 c12 k12 ba_value_of, defB_mk X G a13 l13 c13 k13 ba_reckoned, defB_mk X G a14 l14 c14 k14 ba_called, defB_mk X G a15 l15 c15 k15 ba_asked, defB_mk X G a16 l16 c16 k16 ba_begun_tree, defB_mk X G a17 l17 c17 k17 ba_told_tree, defB_mk X G a18 l18 c18 k18 ba_told_arg, defB_mk X G a19 l19 c19 k19 ba_told_second, defB_mk X G a20 l20 c20 k20 ba_told_go, defB_mk X G a21 l21 c21 k21 ba_told_clause, defB_mk X G a22 l22 c22 k22 ba_told, defB_mk X G a23 l23 c23 k23 ba_to_end, defB_mk X G a24 l24 c24 k24 ba_begun, defB_mk X G a25 l25 c25 k25 ba_gone_on, defB_mk X G a26 l26 c26 k26 ba_run, defB_mk X G a27 l27 c27 k27 ba_law_take, defB_mk X G a28 l28 c28 k28 ba_law_source, defB_mk X G a29 l29 c29 k29 ba_law_fresh, defB_mk X G a30 l30 c30 k30 ba_law_heads, defB_mk X G a31 l31 c31 k31 ba_law_number_by, defB_mk X G a32 l32 c32 k32 ba_law_leaf, defB_mk X G a33 l33 c33 k33 ba_law_call_by, defB_mk X G a34 l34 c34 k34 ba_law_tree, defB_mk X G a35 l35 c35 k35 ba_law_clause_by, defB_mk X G a36 l36 c36 k36 ba_law_item, defB_mk X G a37 l37 c37 k37 ba_law_any, defB_mk X G a38 l38 c38 k38 ba_law_value_by, defB_mk X G a39 l39 c39 k39 ba_law_input, defB_mk X G a40 l40 c40 k40 ba_law_right, defB_mk X G a41 l41 c41 k41 ba_law_cut, defB_mk X G a42 l42 c42 k42 ba_law⟩
  exact ⟨_, fun s u => .of_eq (ba_law _ _ _ _ _ _ [u] rfl), fun base => law_ok TF ⟨FL, hfa, k42⟩⟩
end DL
open PySem PySem.W PyProof.Rows
set_option maxRecDepth 100000 in
set_option maxHeartbeats 0 in
theorem PySem.Challenge.cw_deedwright_k50_whole_bounds_of_turns_holds : PySem.Challenge.rw_deedwright_k50_whole_bounds_of_turns.Holds := by
  w_on; o_law; k_head; (case hw => w_witness2)
  k_fill
  refine DL.walkX (l := PySem.Challenge.rw_deedwright_k50_whole_bounds_of_turns) (n := 63) (k := 90) (x := "_law_script") (sp := DL.spD DL.R_law) rfl (by decide) rfl ⟨rfl, by decide, by decide⟩ (fun w h Y => PySem.W.kIn_of Y) ?F fun w H a ns hS => DL.law_entry (by rfl) hS
  case F =>
    intro w mg fa h KX G hmg XP
    have V := XP.2.val _ (.head _)
    refine' DL.top_all KX G hmg V ?aCH ?aCC ?a0 ?l0 ?c0 ?k0 ?a1 ?l1 ?c1 ?k1 ?a2 ?l2 ?c2 ?k2 ?a3 ?l3 ?c3 ?k3 ?a4 ?l4 ?c4 ?k4 ?a5 ?l5 ?c5 ?k5 ?a6 ?l6 ?c6 ?k6 ?a7 ?l7 ?c7 ?k7 ?a8 ?l8 ?c8 ?k8 ?a9 ?i9 ?l9 ?c9 ?k9 ?a10 ?i10 ?l10 ?c10 ?k10 ?a11 ?i11 ?l11 ?c11 ?k11 ?a12 ?l12 ?c12 ?k12 ?a13 ?l13 ?c13 ?k13 ?a14 ?l14 ?c14 ?k14 ?a15 ?l15 ?c15 ?k15 ?a16 ?l16 ?c16 ?k16 ?a17 ?l17 ?c17 ?k17 ?a18 ?l18 ?c18 ?k18 ?a19 ?l19 ?c19 ?k19 ?a20 ?l20 ?c20 ?k20 ?a21 ?l21 ?c21 ?k21 ?a22 ?l22 ?c22 ?k22 ?a23 ?l23 ?c23 ?k23 ?a24 ?l24 ?c24 ?k24 ?a25 ?l25 ?c25 ?k25 ?a26 ?l26 ?c26 ?k26 ?a27 ?l27 ?c27 ?k27 ?a28 ?l28 ?c28 ?k28 ?a29 ?l29 ?c29 ?k29 ?a30 ?l30 ?c30 ?k30 ?a31 ?l31 ?c31 ?k31 ?a32 ?l32 ?c32 ?k32 ?a33 ?l33 ?c33 ?k33 ?a34 ?l34 ?c34 ?k34 ?a35 ?l35 ?c35 ?k35 ?a36 ?l36 ?c36 ?k36 ?a37 ?l37 ?c37 ?k37 ?a38 ?l38 ?c38 ?k38 ?a39 ?l39 ?c39 ?k39 ?a40 ?l40 ?c40 ?k40 ?a41 ?l41 ?c41 ?k41 ?a42 ?l42 ?c42 ?k42 ?pgCH ?hdCH ?poCH ?saCH ?mkCH ?kcCH ?pgCC ?hdCC ?poCC ?saCC ?mkCC ?kcCC ?nCH_end ?nCH_record ?nCH_used ?nCH_waits ?nCC_program ?nCC_turns ?nCC_used ?nCC_record ?nCC_end ?z_list ?z_tuple ?z_int ?z_bool ?z_range ?z_zip ?z_reversed ?z_len ?z_abs ?z_max ?z_isinstance ?z_any _ _
    (case aCH => k_is)
    (case aCC => k_is)
    (case a0 => k_is)
    (case l0 => k_is)
    (case c0 => k_is)
    (case k0 => k_is)
    (case a1 => k_is)
    (case l1 => k_is)
    (case c1 => k_is)
    (case k1 => k_is)
    (case a2 => k_is)
    (case l2 => k_is)
    (case c2 => k_is)
    (case k2 => k_is)
    (case a3 => k_is)
    (case l3 => k_is)
    (case c3 => k_is)
    (case k3 => k_is)
    (case a4 => k_is)
    (case l4 => k_is)
    (case c4 => k_is)
    (case k4 => k_is)
    (case a5 => k_is)
    (case l5 => k_is)
    (case c5 => k_is)
    (case k5 => k_is)
    (case a6 => k_is)
    (case l6 => k_is)
    (case c6 => k_is)
    (case k6 => k_is)
    (case a7 => k_is)
    (case l7 => k_is)
    (case c7 => k_is)
    (case k7 => k_is)
    (case a8 => k_is)
    (case l8 => k_is)
    (case c8 => k_is)
    (case k8 => k_is)
    (case a9 => k_is)
    (case i9 => k_is)
    (case l9 => k_is)
    (case c9 => k_is)
    (case k9 => k_is)
    (case a10 => k_is)
    (case i10 => k_is)
    (case l10 => k_is)
    (case c10 => k_is)
    (case k10 => k_is)
    (case a11 => k_is)
    (case i11 => k_is)
    (case l11 => k_is)
    (case c11 => k_is)
    (case k11 => k_is)
    (case a12 => k_is)
    (case l12 => k_is)
    (case c12 => k_is)
    (case k12 => k_is)
    (case a13 => k_is)
    (case l13 => k_is)
    (case c13 => k_is)
    (case k13 => k_is)
    (case a14 => k_is)
    (case l14 => k_is)
    (case c14 => k_is)
    (case k14 => k_is)
    (case a15 => k_is)
    (case l15 => k_is)
    (case c15 => k_is)
    (case k15 => k_is)
    (case a16 => k_is)
    (case l16 => k_is)
    (case c16 => k_is)
    (case k16 => k_is)
    (case a17 => k_is)
    (case l17 => k_is)
    (case c17 => k_is)
    (case k17 => k_is)
    (case a18 => k_is)
    (case l18 => k_is)
    (case c18 => k_is)
    (case k18 => k_is)
    (case a19 => k_is)
    (case l19 => k_is)
    (case c19 => k_is)
    (case k19 => k_is)
    (case a20 => k_is)
    (case l20 => k_is)
    (case c20 => k_is)
    (case k20 => k_is)
    (case a21 => k_is)
    (case l21 => k_is)
    (case c21 => k_is)
    (case k21 => k_is)
    (case a22 => k_is)
    (case l22 => k_is)
    (case c22 => k_is)
    (case k22 => k_is)
    (case a23 => k_is)
    (case l23 => k_is)
    (case c23 => k_is)
    (case k23 => k_is)
    (case a24 => k_is)
    (case l24 => k_is)
    (case c24 => k_is)
    (case k24 => k_is)
    (case a25 => k_is)
    (case l25 => k_is)
    (case c25 => k_is)
    (case k25 => k_is)
    (case a26 => k_is)
    (case l26 => k_is)
    (case c26 => k_is)
    (case k26 => k_is)
    (case a27 => k_is)
    (case l27 => k_is)
    (case c27 => k_is)
    (case k27 => k_is)
    (case a28 => k_is)
    (case l28 => k_is)
    (case c28 => k_is)
    (case k28 => k_is)
    (case a29 => k_is)
    (case l29 => k_is)
    (case c29 => k_is)
    (case k29 => k_is)
    (case a30 => k_is)
    (case l30 => k_is)
    (case c30 => k_is)
    (case k30 => k_is)
    (case a31 => k_is)
    (case l31 => k_is)
    (case c31 => k_is)
    (case k31 => k_is)
    (case a32 => k_is)
    (case l32 => k_is)
    (case c32 => k_is)
    (case k32 => k_is)
    (case a33 => k_is)
    (case l33 => k_is)
    (case c33 => k_is)
    (case k33 => k_is)
    (case a34 => k_is)
    (case l34 => k_is)
    (case c34 => k_is)
    (case k34 => k_is)
    (case a35 => k_is)
    (case l35 => k_is)
    (case c35 => k_is)
    (case k35 => k_is)
    (case a36 => k_is)
    (case l36 => k_is)
    (case c36 => k_is)
    (case k36 => k_is)
    (case a37 => k_is)
    (case l37 => k_is)
    (case c37 => k_is)
    (case k37 => k_is)
    (case a38 => k_is)
    (case l38 => k_is)
    (case c38 => k_is)
    (case k38 => k_is)
    (case a39 => k_is)
    (case l39 => k_is)
    (case c39 => k_is)
    (case k39 => k_is)
    (case a40 => k_is)
    (case l40 => k_is)
    (case c40 => k_is)
    (case k40 => k_is)
    (case a41 => k_is)
    (case l41 => k_is)
    (case c41 => k_is)
    (case k41 => k_is)
    (case a42 => k_is)
    (case l42 => k_is)
    (case c42 => k_is)
    (case k42 => k_is)
    (case pgCH => k_is)
    (case hdCH => k_is)
    (case poCH => k_is)
    (case saCH => k_is)
    (case mkCH => k_is)
    (case kcCH => k_is)
    (case pgCC => k_is)
    (case hdCC => k_is)
    (case poCC => k_is)
    (case saCC => k_is)
    (case mkCC => k_is)
    (case kcCC => k_is)
    (case nCH_end => k_is)
    (case nCH_record => k_is)
    (case nCH_used => k_is)
    (case nCH_waits => k_is)
    (case nCC_program => k_is)
    (case nCC_turns => k_is)
    (case nCC_used => k_is)
    (case nCC_record => k_is)
    (case nCC_end => k_is)
    (case z_list => k_is)
    (case z_tuple => k_is)
    (case z_int => k_is)
    (case z_bool => k_is)
    (case z_range => k_is)
    (case z_zip => k_is)
    (case z_reversed => k_is)
    (case z_len => k_is)
    (case z_abs => k_is)
    (case z_max => k_is)
    (case z_isinstance => k_is)
    (case z_any => k_is)
