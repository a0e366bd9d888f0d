import PyProof.Rows.All
import Wide.All
import OpenK.AllK
import Wide.FinOn
import HandS.ForMost
import HandS.ForExc
import HandS.IsInst
import HandS.Wide
import HandS.TupAny
import HandS.RaiseMore
import HandS.Style
import HandS.Comp
import HandS.Zip
import KE.GoesMore
import HandS.Deep
import HandS.SetFor
import HandS.Steps
import HandS.FStr
import HandS.StrMore
import HandS.Text
import HandS.Codes
import PySem.Challenge.RW_wirereckon_k03_fractions_shown_and_read
set_option Elab.async false
set_option linter.all false
set_option maxRecDepth 100000
set_option maxHeartbeats 4000000
/-! Mi, part A: data, the store, what represents what. -/
namespace Mi
open PySem L2 PyProof.Rows

/-- plain data: what a slot of a def may hold; ref l: the l-th object of the store -/
inductive D where
  | non | bl (b : Bool) | int (i : Int) | str (x : Str) | tup (ds : List D) | fro (ds : List D) | ref (l : Nat)
/-- an object that changes -/
inductive O where
  | lst (ds : List D) | dct (kvs : List (Key × D))
/-- what is raised: the class by its name, its fields -/
structure Ex where
  cls : Str
  fs : Option (List (Str × D))
/-- a run: it stops (none: not served), or ends with a value or an exception -/
def M (α : Type) : Type := List O → Option (Except Ex α × List O)
def M.ret {α : Type} (a : α) : M α := fun μ => some (.ok a, μ)
def M.bnd {α β : Type} (m : M α) (f : α → M β) : M β := fun μ => match m μ with
  | none => none
  | some (.error x, μ1) => some (.error x, μ1)
  | some (.ok a, μ1) => f a μ1
def M.stop {α : Type} : M α := fun _ => none
instance : Monad M where
  pure := M.ret
  bind := M.bnd
theorem M.bind_eq {α β : Type} (m : M α) (f : α → M β) : (m >>= f) = M.bnd m f := rfl
theorem M.pure_eq {α : Type} (a : α) : (pure a : M α) = M.ret a := rfl
abbrev Env := List (Option D)

/-! ### what stands where -/
def Imm : HO → Prop
  | .tup _ => True
  | .frz _ _ => True
  | _ => False
/-- the store's addresses stay, what never changes stays, what is none of the store's stays; new addresses were free -/
structure Ext (α : List Addr) (H : Hp) (α' : List Addr) (H' : Hp) : Prop where
  pre : ∀ (l : Nat) p, α[l]? = some p → α'[l]? = some p
  keep : ∀ p o, H p = some o → (Imm o ∨ p ∉ α) → H' p = some o
  new : ∀ p, p ∈ α' → p ∈ α ∨ H p = none
theorem Ext.refl (α : List Addr) (H : Hp) : Ext α H α H := ⟨fun _ _ h => h, fun _ _ h _ => h, fun _ h => .inl h⟩
theorem Ext.trans {α α1 α2 : List Addr} {H H1 H2 : Hp} (a : Ext α H α1 H1) (b : Ext α1 H1 α2 H2) : Ext α H α2 H2 where
  pre := fun l p h => b.pre l p (a.pre l p h)
  keep := fun p o h c => b.keep p o (a.keep p o h c) (c.imp id fun n hm => (a.new p hm).elim n fun z => by rw [h] at z; cases z)
  new := fun p h => by
    rcases b.new p h with z | z
    · exact a.new p z
    · cases q : H p with
      | none => exact .inr rfl
      | some o =>
        by_cases hm : p ∈ α
        · exact .inl hm
        · have w := a.keep p o q (.inr hm)
          rw [z] at w
          cases w
theorem Ext.lay {α : List Addr} {H : Hp} {p : Addr} {o : HO} (h : H p = none) : Ext α H α (upd H p o) :=
  ⟨fun _ _ h => h, fun q u e _ => by rw [upd_ne (ne_of_none e h)]; exact e, fun _ h => .inl h⟩
theorem Ext.push {α : List Addr} {H : Hp} {p : Addr} {o : HO} (h : H p = none) : Ext α H (α ++ [p]) (upd H p o) :=
  ⟨fun l q z => by rw [List.getElem?_append_left (List.getElem?_eq_some_iff.mp z).1]; exact z, fun q u e _ => by rw [upd_ne (ne_of_none e h)]; exact e,
    fun q z => (List.mem_append.mp z).imp id fun w => by
      have e : q = p := by simpa using w
      rw [e]; exact h⟩
theorem Ext.put {α : List Addr} {H : Hp} {p : Addr} {o u : HO} {l : Nat} (hp : α[l]? = some p) (h : H p = some u) (ni : ¬ Imm u) : Ext α H α (upd H p o) :=
  ⟨fun _ _ h => h, fun q v e c => by
    have ne : q ≠ p := fun z => by
      subst z
      rcases c with c | c
      · rw [h] at e
        cases e
        exact ni c
      · exact c (List.mem_of_getElem? hp)
    rw [upd_ne ne]
    exact e, fun _ h => .inl h⟩
theorem Ext.rdT {α α' : List Addr} {H H' : Hp} {p : Addr} {xs : List V} (k : Ext α H α' H') (h : Rd H p (.tup xs)) : Rd H' p (.tup xs) := by
  rcases h with h | ⟨o, h⟩
  · exact .inl (k.keep _ _ h (.inl trivial))
  · exact .inr ⟨o, k.keep _ _ h (.inl trivial)⟩
theorem Ext.sqT {K : PySem.W.Frag} {α α' : List Addr} {H H' : Hp} {p : Addr} {xs : List V} (k : Ext α H α' H') (h : SqT K H p xs) : SqT K H' p xs := by
  rcases h with h | h
  · exact .inl (k.rdT h)
  · exact .inr h
/-- a list that nobody changes: the script, a module's own -/
def FqL (K : PySem.W.Frag) (H : Hp) (p : Addr) (xs : List V) : Prop := (∃ o, H p = some (.frz o (.lst xs))) ∨ SqL K (fun _ => none) p xs
theorem FqL.sq {K : PySem.W.Frag} {H : Hp} {p : Addr} {xs : List V} (h : FqL K H p xs) : SqL K H p xs := by
  rcases h with h | (h | ⟨o, h⟩) | h
  · exact .inl (.inr h)
  · cases h
  · cases h
  · exact .inr h
theorem Ext.fqL {K : PySem.W.Frag} {α α' : List Addr} {H H' : Hp} {p : Addr} {xs : List V} (k : Ext α H α' H') (h : FqL K H p xs) : FqL K H' p xs := by
  rcases h with ⟨o, h⟩ | h
  · exact .inl ⟨o, k.keep _ _ h (.inl trivial)⟩
  · exact .inr h
theorem fqL_only {K : PySem.W.Frag} {H : Hp} {p : Addr} {xs : List V} (hO : Only H) (h : SqL K H p xs) : FqL K H p xs := by
  rcases h with (h | h) | h
  · rcases hO p with z | ⟨o, ys, z⟩
    · rw [h] at z; cases z
    · rw [h] at z; cases z
  · exact .inl h
  · exact .inr (.inr h)

mutual
/-- the value v stands for d -/
def Rep (K : PySem.W.Frag) (α : List Addr) (H : Hp) : D → V → Prop
  | .non, v => v = .non
  | .bl b, v => v = .bl b
  | .int i, v => v = .int i
  | .str x, v => v = .str x
  | .tup ds, v => ∃ p vs, v = .ref p ∧ SqT K H p vs ∧ Reps K α H ds vs
  | .fro ds, v => ∃ p vs, v = .ref p ∧ FqL K H p vs ∧ Reps K α H ds vs
  | .ref l, v => ∃ p, v = .ref p ∧ α[l]? = some p
def Reps (K : PySem.W.Frag) (α : List Addr) (H : Hp) : List D → List V → Prop
  | [], vs => vs = []
  | d :: ds, vs => ∃ v r, vs = v :: r ∧ Rep K α H d v ∧ Reps K α H ds r
end
mutual
theorem Rep.up {K : PySem.W.Frag} {α α' : List Addr} {H H' : Hp} (k : Ext α H α' H') : ∀ {d : D} {v : V}, Rep K α H d v → Rep K α' H' d v
  | .non, _, h => h
  | .bl _, _, h => h
  | .int _, _, h => h
  | .str _, _, h => h
  | .tup ds, _, ⟨p, vs, e, t, r⟩ => ⟨p, vs, e, k.sqT t, Reps.up k r⟩
  | .fro ds, _, ⟨p, vs, e, t, r⟩ => ⟨p, vs, e, k.fqL t, Reps.up k r⟩
  | .ref l, _, ⟨p, e, a⟩ => ⟨p, e, k.pre l p a⟩
theorem Reps.up {K : PySem.W.Frag} {α α' : List Addr} {H H' : Hp} (k : Ext α H α' H') : ∀ {ds : List D} {vs : List V}, Reps K α H ds vs → Reps K α' H' ds vs
  | [], _, h => h
  | _ :: _, _, ⟨v, r, e, a, b⟩ => ⟨v, r, e, Rep.up k a, Reps.up k b⟩
end
section
variable {K : PySem.W.Frag} {α : List Addr} {H : Hp}
theorem Reps.len : ∀ {ds : List D} {vs : List V}, Reps K α H ds vs → vs.length = ds.length
  | [], _, h => by
    have e : _ = ([] : List V) := h
    rw [e]; rfl
  | _ :: _, _, ⟨v, r, e, a, b⟩ => by rw [e, List.length_cons, List.length_cons, Reps.len b]
theorem Reps.get : ∀ {ds : List D} {vs : List V} {i : Nat} {d : D}, Reps K α H ds vs → ds[i]? = some d → ∃ v, vs[i]? = some v ∧ Rep K α H d v
  | [], _, i, d, _, h => by simp at h
  | d0 :: ds, _, 0, d, ⟨v, r, e, a, b⟩, h => by
    simp at h
    subst h e
    exact ⟨v, rfl, a⟩
  | d0 :: ds, _, i + 1, d, ⟨v, r, e, a, b⟩, h => by
    subst e
    obtain ⟨w, h1, h2⟩ := Reps.get (i := i) b (by simpa using h)
    exact ⟨w, by simpa using h1, h2⟩
theorem Reps.get' {ds : List D} {vs : List V} {i : Nat} {v : V} (r : Reps K α H ds vs) (h : vs[i]? = some v) : ∃ d, ds[i]? = some d ∧ Rep K α H d v := by
  obtain ⟨hi, _⟩ := List.getElem?_eq_some_iff.mp h
  rw [r.len] at hi
  obtain ⟨w, h1, h2⟩ := r.get (List.getElem?_eq_getElem hi)
  rw [h] at h1
  cases h1
  exact ⟨_, List.getElem?_eq_getElem hi, h2⟩
theorem Reps.nil : Reps K α H [] [] := rfl
theorem Reps.cons {d : D} {v : V} {ds : List D} {vs : List V} (a : Rep K α H d v) (b : Reps K α H ds vs) : Reps K α H (d :: ds) (v :: vs) := ⟨v, vs, rfl, a, b⟩
theorem Reps.app : ∀ {ds es : List D} {vs ws : List V}, Reps K α H ds vs → Reps K α H es ws → Reps K α H (ds ++ es) (vs ++ ws)
  | [], _, _, _, h, h2 => by
    have e : _ = ([] : List V) := h
    rw [e]; exact h2
  | _ :: _, _, _, _, ⟨v, r, e, a, b⟩, h2 => ⟨v, r ++ _, by rw [e]; rfl, a, Reps.app b h2⟩
theorem Reps.set : ∀ {ds : List D} {vs : List V} {d : D} {v : V} (i : Nat), Reps K α H ds vs → Rep K α H d v → Reps K α H (ds.set i d) (vs.set i v)
  | [], _, _, _, _, h, _ => by
    have e : _ = ([] : List V) := h
    rw [e]; exact rfl
  | _ :: _, _, _, _, 0, ⟨v, r, e, a, b⟩, h2 => by
    subst e
    exact ⟨_, r, rfl, h2, b⟩
  | _ :: _, _, _, _, i + 1, ⟨v, r, e, a, b⟩, h2 => by
    subst e
    exact ⟨v, _, rfl, a, Reps.set i b h2⟩
theorem Reps.take : ∀ {ds : List D} {vs : List V} (n : Nat), Reps K α H ds vs → Reps K α H (ds.take n) (vs.take n)
  | _, _, 0, _ => rfl
  | [], _, n + 1, h => by
    have e : _ = ([] : List V) := h
    rw [e]; exact rfl
  | _ :: _, _, n + 1, ⟨v, r, e, a, b⟩ => by
    subst e
    exact ⟨v, _, rfl, a, Reps.take n b⟩
theorem Reps.drop : ∀ {ds : List D} {vs : List V} (n : Nat), Reps K α H ds vs → Reps K α H (ds.drop n) (vs.drop n)
  | _, _, 0, h => h
  | [], _, n + 1, h => by
    have e : _ = ([] : List V) := h
    rw [e]; exact rfl
  | _ :: _, _, n + 1, ⟨v, r, e, a, b⟩ => by
    subst e
    exact Reps.drop n b
theorem Reps.one {ds : List D} {v : V} (h : Reps K α H ds [v]) : ∃ d, ds = [d] ∧ Rep K α H d v := by
  match ds, h with
  | [], h => cases (show [v] = [] from h)
  | [d], ⟨_, _, e, a, b⟩ => cases e; exact ⟨d, rfl, a⟩
  | _ :: _ :: _, ⟨_, _, e, a, _, _, e2, _⟩ => cases e; cases e2
end

/-- dict entries -/
def RepKv (K : PySem.W.Frag) (α : List Addr) (H : Hp) : List (Key × D) → List (Key × V) → Prop
  | [], ws => ws = []
  | (k, d) :: r, ws => ∃ v s, ws = (k, v) :: s ∧ Rep K α H d v ∧ RepKv K α H r s
theorem RepKv.up {K : PySem.W.Frag} {α α' : List Addr} {H H' : Hp} (k : Ext α H α' H') : ∀ {ds : List (Key × D)} {vs : List (Key × V)}, RepKv K α H ds vs → RepKv K α' H' ds vs
  | [], _, h => h
  | _ :: _, _, ⟨v, s, e, a, b⟩ => ⟨v, s, e, Rep.up k a, RepKv.up k b⟩
/-- the object at p stands for o -/
def RepO (K : PySem.W.Frag) (α : List Addr) (H : Hp) : O → Addr → Prop
  | .lst ds, p => ∃ vs, H p = some (.lst vs) ∧ Reps K α H ds vs
  | .dct kvs, p => ∃ ws, H p = some (.dK ws) ∧ RepKv K α H kvs ws
theorem RepO.up {K : PySem.W.Frag} {α α' : List Addr} {H H' : Hp} (k : Ext α H α' H') {o : O} {p : Addr} (e : H' p = H p) (h : RepO K α H o p) : RepO K α' H' o p := by
  cases o with
  | lst ds =>
    obtain ⟨vs, h1, h2⟩ := h
    exact ⟨vs, e.trans h1, h2.up k⟩
  | dct ds =>
    obtain ⟨vs, h1, h2⟩ := h
    exact ⟨vs, e.trans h1, h2.up k⟩
theorem RepO.some {K : PySem.W.Frag} {α : List Addr} {H : Hp} {o : O} {p : Addr} (h : RepO K α H o p) : ∃ u, H p = some u ∧ ¬ Imm u := by
  cases o with
  | lst ds =>
    obtain ⟨vs, h1, _⟩ := h
    exact ⟨_, h1, fun z => z⟩
  | dct ds =>
    obtain ⟨vs, h1, _⟩ := h
    exact ⟨_, h1, fun z => z⟩
/-- the store stands at α -/
structure RepS (K : PySem.W.Frag) (α : List Addr) (H : Hp) (μ : List O) : Prop where
  len : α.length = μ.length
  nd : α.Nodup
  at_ : ∀ (l : Nat) o p, μ[l]? = some o → α[l]? = some p → RepO K α H o p
section
variable {K : PySem.W.Frag} {α : List Addr} {H : Hp} {μ : List O}
theorem RepS.addr (s : RepS K α H μ) {l : Nat} {o : O} (h : μ[l]? = some o) : ∃ p, α[l]? = some p ∧ RepO K α H o p := by
  obtain ⟨hl, _⟩ := List.getElem?_eq_some_iff.mp h
  have hl' : l < α.length := by rw [s.len]; exact hl
  exact ⟨_, List.getElem?_eq_getElem hl', s.at_ l o _ h (List.getElem?_eq_getElem hl')⟩
theorem RepS.there (s : RepS K α H μ) {l : Nat} {p : Addr} (h : α[l]? = some p) : ∃ o, μ[l]? = some o ∧ RepO K α H o p := by
  obtain ⟨hl, _⟩ := List.getElem?_eq_some_iff.mp h
  have hl' : l < μ.length := by rw [← s.len]; exact hl
  exact ⟨_, List.getElem?_eq_getElem hl', s.at_ l _ _ (List.getElem?_eq_getElem hl') h⟩
theorem RepS.fresh (s : RepS K α H μ) {p : Addr} (h : H p = none) : p ∉ α := fun hm => by
  obtain ⟨l, hl, e⟩ := List.getElem_of_mem hm
  obtain ⟨o, _, r⟩ := s.there (List.getElem?_eq_some_iff.mpr ⟨hl, e⟩)
  obtain ⟨u, hu, _⟩ := r.some
  rw [h] at hu
  cases hu
/-- a value laid that is no store object: a tuple -/
theorem RepS.lay (s : RepS K α H μ) {p : Addr} {u : HO} (hp : H p = none) : RepS K α (upd H p u) μ :=
  ⟨s.len, s.nd, fun l o q h1 h2 => by
    refine (s.at_ l o q h1 h2).up (Ext.lay hp) (upd_ne fun z => s.fresh hp ?_)
    rw [← z]
    exact List.mem_of_getElem? h2⟩
/-- a new object of the store -/
theorem RepS.push (s : RepS K α H μ) {p : Addr} {u : HO} {o : O} (hp : H p = none) (ho : RepO K (α ++ [p]) (upd H p u) o p) : RepS K (α ++ [p]) (upd H p u) (μ ++ [o]) := by
  have np := s.fresh hp
  refine ⟨by simp [s.len], List.nodup_append.mpr ⟨s.nd, by simp, fun a ha b hb z => ?_⟩, fun l o' q h1 h2 => ?_⟩
  · simp at hb
    exact np (by rw [← hb, ← z]; exact ha)
  · by_cases hl : l < μ.length
    · rw [List.getElem?_append_left hl] at h1
      rw [List.getElem?_append_left (by rw [s.len]; exact hl)] at h2
      refine (s.at_ l o' q h1 h2).up (Ext.push hp) (upd_ne fun z => np ?_)
      rw [← z]
      exact List.mem_of_getElem? h2
    · have e : l = μ.length := by
        have := (List.getElem?_eq_some_iff.mp h1).1
        simp at this
        omega
      subst e
      rw [List.getElem?_append_right (Nat.le_refl _)] at h1
      rw [List.getElem?_append_right (by rw [s.len]; exact Nat.le_refl _)] at h2
      simp [s.len] at h1 h2
      subst h1 h2
      exact ho
/-- an object of the store turned -/
theorem RepS.put (s : RepS K α H μ) {p : Addr} {u : HO} {o : O} {l : Nat} (hp : α[l]? = some p) (ho : RepO K α (upd H p u) o p) : RepS K α (upd H p u) (μ.set l o) := by
  obtain ⟨o0, h0, r0⟩ := s.there hp
  obtain ⟨u0, hu, ni⟩ := r0.some
  refine ⟨by simp [s.len], s.nd, fun j o' q h1 h2 => ?_⟩
  by_cases hj : j = l
  · subst hj
    rw [hp] at h2
    cases h2
    rw [List.getElem?_set_self (List.getElem?_eq_some_iff.mp h0).1] at h1
    cases h1
    exact ho
  · rw [List.getElem?_set_ne (Ne.symm hj)] at h1
    have nq : q ≠ p := fun z => by
      subst z
      obtain ⟨b1, e1⟩ := List.getElem?_eq_some_iff.mp h2
      obtain ⟨b2, e2⟩ := List.getElem?_eq_some_iff.mp hp
      exact hj ((List.getElem_inj s.nd).mp (e1.trans e2.symm))
    exact (s.at_ j o' q h1 h2).up (Ext.put hp hu ni) (upd_ne nq)
end
/-- the slots -/
structure RepE (K : PySem.W.Frag) (α : List Addr) (H : Hp) (ρ : Env) (σ : L2.St) : Prop where
  len : ρ.length = σ.length
  at_ : ∀ (i : Nat) d, ρ[i]? = some (some d) → ∃ v, σ[i]? = some (some v) ∧ Rep K α H d v
section
variable {K : PySem.W.Frag} {α α' : List Addr} {H H' : Hp} {ρ : Env} {σ : L2.St}
theorem RepE.up (e : RepE K α H ρ σ) (k : Ext α H α' H') : RepE K α' H' ρ σ :=
  ⟨e.len, fun i d h => let ⟨v, h1, h2⟩ := e.at_ i d h; ⟨v, h1, h2.up k⟩⟩
theorem RepE.set (e : RepE K α H ρ σ) {d : D} {v : V} (i : Nat) (r : Rep K α H d v) : RepE K α H (ρ.set i (some d)) (σ.set i (some v)) :=
  ⟨by simp [e.len], fun j d' h => by
    by_cases hj : j = i
    · subst hj
      have hl := (List.getElem?_eq_some_iff.mp h).1
      rw [List.length_set] at hl
      rw [List.getElem?_set_self hl] at h
      cases h
      exact ⟨v, List.getElem?_set_self (by rw [← e.len]; exact hl), r⟩
    · rw [List.getElem?_set_ne (Ne.symm hj)] at h
      obtain ⟨w, h1, h2⟩ := e.at_ j d' h
      exact ⟨w, by rw [List.getElem?_set_ne (Ne.symm hj)]; exact h1, h2⟩⟩
theorem RepE.start {ds : List D} {vs : List V} {N : List Str} (r : Reps K α H ds vs) : RepE K α H (ds.map some ++ List.replicate (N.length - ds.length) none) (L2.start N vs) := by
  have hl := r.len
  refine ⟨by unfold L2.start; simp [hl], fun i d h => ?_⟩
  by_cases hi : i < ds.length
  · rw [List.getElem?_append_left (by simpa using hi), List.getElem?_map] at h
    cases e : ds[i]? with
    | none => rw [e] at h; cases h
    | some d0 =>
      rw [e] at h
      cases h
      obtain ⟨v, h1, h2⟩ := r.get e
      refine ⟨v, ?_, h2⟩
      unfold L2.start
      rw [List.getElem?_append_left (by rw [List.length_map, hl]; exact hi), List.getElem?_map, h1]
      rfl
  · rw [List.getElem?_append_right (by simpa using hi), List.getElem?_replicate] at h
    split at h <;> cases h
end
/-- an exception: its class by the module's names, its own dict's fields -/
def RepF (K : PySem.W.Frag) (α : List Addr) (H : Hp) : List (Str × D) → List (Str × V) → Prop
  | [], ws => ws = []
  | (k, d) :: r, ws => ∃ v s, ws = (k, v) :: s ∧ Rep K α H d v ∧ RepF K α H r s
def RepX (K : PySem.W.Frag) (mg : Str → Option Value) (α : List Addr) (H : Hp) (x : Ex) (c : Value) (dd : Option Addr) : Prop :=
  mg x.cls = some c ∧ match x.fs with
    | none => dd = none
    | some fs => ∃ d ws, dd = some d ∧ H d = some (.xd ws) ∧ RepF K α H fs ws

/-! ### what is wanted behind a run -/
def Aft {a b : Type} (R : List Addr → Hp → a → b → Prop) (K : PySem.W.Frag) (mg : Str → Option Value) (E : XK) (α : List Addr) (H : Hp) (r : Except Ex a) (μ' : List O) (Q : b → Hp → Prop) : Prop :=
  match r with
  | .ok d => ∀ α' v H', Ext α H α' H' → RepS K α' H' μ' → R α' H' d v → Q v H'
  | .error x => ∀ α' c dd H', Ext α H α' H' → RepS K α' H' μ' → RepX K mg α' H' x c dd → E c dd H'
theorem Aft.up {a b : Type} {R : List Addr → Hp → a → b → Prop} {K : PySem.W.Frag} {mg : Str → Option Value} {E : XK} {α α1 : List Addr} {H H1 : Hp} {r : Except Ex a} {μ' : List O} {Q : b → Hp → Prop} (h : Aft R K mg E α H r μ' Q) (k : Ext α H α1 H1) :
    Aft R K mg E α1 H1 r μ' Q := by
  cases r with
  | ok d => exact fun α' v H' k' => h α' v H' (k.trans k')
  | error x => exact fun α' c dd H' k' => h α' c dd H' (k.trans k')
/-- the configuration -/
structure Cfg (K : PySem.W.Frag) (α : List Addr) (H : Hp) (ρ : Env) (σ : L2.St) (μ : List O) : Prop where
  s : RepS K α H μ
  e : RepE K α H ρ σ
def rd {a b : Type} (R : List Addr → Hp → a → b → Prop) (K : PySem.W.Frag) (mg : Str → Option Value) (W : WX) (m : Env → M a) : L2.St → Hp → (b → Hp → Prop) → Prop := fun σ H Q =>
  ∃ α ρ μ r μ', Cfg K α H ρ σ μ ∧ m ρ μ = some (r, μ') ∧ Aft R K mg (fun c dd H' => W c dd σ H') α H r μ' Q
section
variable {a b c e : Type} {R : List Addr → Hp → a → b → Prop} {R1 : List Addr → Hp → c → e → Prop} {K : PySem.W.Frag} {mg : Str → Option Value} {W : WX} {α : List Addr} {H : Hp} {ρ : Env} {σ : L2.St} {μ μ' : List O} {r : Except Ex a} {Q : b → Hp → Prop} {Q1 : e → Hp → Prop}
theorem rd_in {m : Env → M a} (g : Cfg K α H ρ σ μ) (run : m ρ μ = some (r, μ')) (aft : Aft R K mg (fun c dd H' => W c dd σ H') α H r μ' Q) : rd R K mg W m σ H Q := ⟨α, ρ, μ, r, μ', g, run, aft⟩
/-- one part, then the rest -/
theorem rd_seq {m1 : Env → M c} {f : c → M a} (g : Cfg K α H ρ σ μ) (run : M.bnd (m1 ρ) f μ = some (r, μ')) (aft : Aft R K mg (fun c dd H' => W c dd σ H') α H r μ' Q)
    (k : ∀ d v α1 H1 μ1, Cfg K α1 H1 ρ σ μ1 → Ext α H α1 H1 → R1 α1 H1 d v → f d μ1 = some (r, μ') → Aft R K mg (fun c dd H' => W c dd σ H') α1 H1 r μ' Q → Q1 v H1) :
    rd R1 K mg W m1 σ H Q1 := by
  unfold M.bnd at run
  cases h : m1 ρ μ with
  | none => rw [h] at run; cases run
  | some p =>
    obtain ⟨r1, μ1⟩ := p
    rw [h] at run
    cases r1 with
    | error x =>
      cases run
      exact ⟨α, ρ, μ, .error x, _, g, h, fun α' c dd H' k' s' x' => aft α' c dd H' k' s' x'⟩
    | ok d =>
      refine ⟨α, ρ, μ, .ok d, μ1, g, h, fun α1 v H1 k1 s1 r1 => ?_⟩
      exact k d v α1 H1 μ1 ⟨s1, g.e.up k1⟩ k1 r1 run (aft.up k1)
end
end Mi
/-! Mi, part B: what a def is worth, code that is good, expressions. -/
namespace Mi
open PySem L2 PyProof.Rows

/-! ### a def's worth -/
abbrev CXr (P : Program) (w : World) : CXT := L2.CX P w
structure FnG (P : Program) (w : World) (K : PySem.W.Frag) (mg : Str → Option Value) (base : Heap) (k : Nat) (f : Addr) (fd : FuncData) (ps : List Str) (sp : Sp) : Prop where
  len : ∀ vs H Q E, sp vs H Q E → vs.length = ps.length
  run : ∀ (A : Around) (outer : List PySem.Env) (s : Shared) (H : Hp) (args : Args) (us : List Value) (vs : List V) (Q : VK) (E : XK), Room k A → A.guards = some [] → Env0 P w K mg base A outer s H →
    BindsTo s fd args (ps.zip us) → Vals vs us → sp vs H Q E → codeAny (model P w) A (.call (.ref f) args) (CR (CXr P w) outer P w H s Q E) s
theorem FnG.up {P : Program} {w : World} {K : PySem.W.Frag} {mg : Str → Option Value} {base : Heap} {j k : Nat} {f : Addr} {fd : FuncData} {ps : List Str} {sp : Sp} (F : FnG P w K mg base j f fd ps sp) (h : j ≤ k) : FnG P w K mg base k f fd ps sp :=
  ⟨F.len, fun A o s H a us vs Q E hr => F.run A o s H a us vs Q E (hr.mono h)⟩
/-- the promise that a function of data makes -/
def spOf (K : PySem.W.Frag) (mg : Str → Option Value) (m : List D → M D) : Sp := fun vs H Q E =>
  ∃ α μ ds r μ', RepS K α H μ ∧ Reps K α H ds vs ∧ m ds μ = some (r, μ') ∧ Aft (Rep K) K mg E α H r μ' Q
section
variable {X : Cx} {W : WX} {k : Nat} {f : Addr} {fd : FuncData} {ps ks : List Str} {sp : Sp} {pins : List (Addr × Obj)} {σ : L2.St} {H : Hp} {s : Shared} {Q : VK} {us ws : List Value} {vs zs : List V}
/-- the callee's end, as the caller sees it -/
theorem ended (tk : Takes X W) (I : Inv X pins σ H s) {r : Result} {s' : Shared} (hq : CR (CXr X.prog X.w) X.stack X.prog X.w H s Q (fun c d H' => W c d σ H') r s') :
    match r with
    | .ok (.ret u) => EP X pins σ Q u s'
    | .ok _ => False
    | .error e => X.xe e s' := by
  cases r with
  | error e => exact tk e s' (XE.of_call I (fun _ _ _ z => z) hq)
  | ok fl =>
    cases fl with
    | ret u => exact I.after hq
    | next => exact hq
    | brk => exact hq
    | cont => exact hq
theorem runG (F : FnG X.prog X.w X.K X.mg X.base k f fd ps sp) (hr : Room k X.A) (hg : X.A.guards = some []) (hb : Binds X.K fd ps []) (tk : Takes X W) (I : Inv X pins σ H s) (r : Vals vs us)
    (h : sp vs H Q fun c d H' => W c d σ H') : wpAny (model X.prog X.w) X.A (call (.ref f) us) (EP X pins σ Q) X.xe s := by
  have hl : (us ++ []).length = ps.length := by rw [List.append_nil, ← r.length, F.len _ _ _ _ h]
  have b := hb s us I.kIn hl
  rw [List.append_nil] at b
  refine wpAny_call (codeAny_mono (F.run X.A X.stack s H ⟨us, []⟩ us vs Q _ hr hg I.env0 b r h) fun r s' hq => ?_)
  have z := ended tk I hq
  cases r with
  | error e => exact z
  | ok fl => cases fl <;> exact z
theorem runGk {g : List Value → List Value → List Value} {gV : List V → List V → List V} (F : FnG X.prog X.w X.K X.mg X.base k f fd ps sp) (hr : Room k X.A) (hg : X.A.guards = some []) (hb : KBinds X.K fd ps ks g gV) (tk : Takes X W) (I : Inv X pins σ H s)
    (r : Vals vs us) (rz : Vals zs ws) (h : sp (gV vs zs) H Q fun c d H' => W c d σ H') : wpAny (model X.prog X.w) X.A (call (.ref f) us (ks.zip ws)) (EP X pins σ Q) X.xe s := by
  have r2 := hb.rel r rz
  have b := hb.to s us ws I.kIn (by rw [← r2.length, F.len _ _ _ _ h])
  refine wpAny_call (codeAny_mono (F.run X.A X.stack s H ⟨us, ks.zip ws⟩ (g us ws) (gV vs zs) Q _ hr hg I.env0 b r2 h) fun r s' hq => ?_)
  have z := ended tk I hq
  cases r with
  | error e => exact z
  | ok fl => cases fl <;> exact z
end
theorem PE.imp {X : Cx} {e : Expr} {t t' : TE} (h : PE X e t) (i : ∀ σ H Q, t' σ H Q → t σ H Q) : PE X e t' := ⟨fun pins s σ H Q I q => h.run pins s σ H Q I (i σ H Q q)⟩
theorem PT.imp {X : Cx} {e : Expr} {t t' : TT} (h : PT X e t) (i : ∀ σ H Q, t' σ H Q → t σ H Q) : PT X e t' := ⟨fun pins s σ H Q I q => h.run pins s σ H Q I (i σ H Q q)⟩
theorem PW.imp {X : Cx} {e : Expr} {t t' : TT} (h : PW X e t) (i : ∀ σ H Q, t' σ H Q → t σ H Q) : PW X e t' := ⟨fun wh pins s σ H Q I q => h.run wh pins s σ H Q I (i σ H Q q)⟩
theorem PA.imp {X : Cx} {e : List Expr} {t t' : TA} (h : PA X e t) (i : ∀ σ H Q, t' σ H Q → t σ H Q) : PA X e t' := ⟨fun p pins s σ H Q I q => h.run p pins s σ H Q I (i σ H Q q)⟩
theorem PO.imp {X : Cx} {e : Option Expr} {t t' : TO} (h : PO X e t) (i : ∀ σ H Q, t' σ H Q → t σ H Q) : PO X e t' := ⟨fun pins s σ H Q I q => h.run pins s σ H Q I (i σ H Q q)⟩
theorem PK.imp {X : Cx} {e : List Keyword} {t t' : TA} (h : PK X e t) (i : ∀ σ H Q, t' σ H Q → t σ H Q) : PK X e t' := ⟨fun p pins s σ H Q I q => h.run p pins s σ H Q I (i σ H Q q)⟩
theorem PS.imp {X : Cx} {e : Stmt} {t t' : TS} (h : PS X e t) (i : ∀ σ H Q, t' Q σ H → t Q σ H) : PS X e t' := ⟨fun pins s σ H Q I q => h.run pins s σ H Q I (i σ H Q q)⟩
theorem PSs.imp {X : Cx} {e : List Stmt} {t t' : TS} (h : PSs X e t) (i : ∀ σ H Q, t' Q σ H → t Q σ H) : PSs X e t' := ⟨fun pins s σ H Q I q => h.run pins s σ H Q I (i σ H Q q)⟩

/-! ### code -/
structure Inf where
  N : List Str
  sc : Scope
  cells : Str → Bool
abbrev Kno := Program → World → PySem.W.Frag → (Str → Option Value) → Heap → Prop
/-- where code stands -/
structure Bas (Kn : Kno) (k : Nat) (cb : Str → Bool) (X : Cx) (W : WX) : Prop where
  kn : Kn X.prog X.w X.K X.mg X.base
  calm : X.calm = true
  nd : X.N.Nodup
  room : Room k X.A
  grd : X.A.guards = some []
  tk : Takes X W
  sys : ∃ o, X.base.get? sysModules = some o
  cells : ∀ x, cb x = true → X.fn x = true
/-- what the rules of operators and built-ins may use -/
structure Here (X : Cx) : Prop where
  calm : X.calm = true
  room : Room 0 X.A
  grd : X.A.guards = some []
  sys : ∃ o, X.base.get? sysModules = some o
theorem Bas.here {Kn : Kno} {k : Nat} {cb : Str → Bool} {X : Cx} {W : WX} (b : Bas Kn k cb X W) : Here X := ⟨b.calm, b.room.mono (Nat.zero_le _), b.grd, b.sys⟩
structure CE where
  run : Env → M D
  chk : Inf → Expr → Bool
structure CA where
  run : Env → M (List D)
  chk : Inf → List Expr → Bool
structure CT where
  run : Env → M Bool
  chk : Inf → Expr → Bool
abbrev rdE (K : PySem.W.Frag) (mg : Str → Option Value) (W : WX) (m : Env → M D) : TE := rd (Rep K) K mg W m
abbrev rdA (K : PySem.W.Frag) (mg : Str → Option Value) (W : WX) (m : Env → M (List D)) : TA := rd (Reps K) K mg W m
abbrev rdT (K : PySem.W.Frag) (mg : Str → Option Value) (W : WX) (m : Env → M Bool) : TT := rd (fun _ _ (x y : Bool) => x = y) K mg W m
def GE (Kn : Kno) (k : Nat) (c : CE) : Prop := ∀ X W b, Bas Kn k b X W → ∀ e, c.chk ⟨X.N, X.env.scope, b⟩ e = true → PE X e (rdE X.K X.mg W c.run)
def GA (Kn : Kno) (k : Nat) (c : CA) : Prop := ∀ X W b, Bas Kn k b X W → ∀ e, c.chk ⟨X.N, X.env.scope, b⟩ e = true → PA X e (rdA X.K X.mg W c.run)
def GT (Kn : Kno) (k : Nat) (c : CT) : Prop := ∀ X W b, Bas Kn k b X W → ∀ e, c.chk ⟨X.N, X.env.scope, b⟩ e = true → PT X e (rdT X.K X.mg W c.run)
/-- a chain of and, or -/
def GW (Kn : Kno) (k : Nat) (c : CT) : Prop := ∀ X W b, Bas Kn k b X W → ∀ e, c.chk ⟨X.N, X.env.scope, b⟩ e = true → PW X e (rdT X.K X.mg W c.run)
theorem GW.t {Kn : Kno} {k : Nat} {c : CT} (h : GW Kn k c) : GT Kn k c := fun X W cb b e q => (h X W cb b e q).pt

/-! ### leaves -/
def seen (sc : Scope) (x : Str) : Bool := match sc.names.lookup x with
  | some .local => true
  | some .cell => true
  | some .free => true
  | _ => false
theorem seen_vis {sc : Scope} {x : Str} (h : seen sc x = true) : Vis sc x := by
  unfold seen at h
  split at h
  · exact .inl (by assumption)
  · exact .inr (.inl (by assumption))
  · exact .inr (.inr (by assumption))
  · cases h
def unmarked (x : Str) : Bool := !(x == ("__debug__" : Str)) && !(x == ("__classdict__" : Str))
theorem unmarked1 {x : Str} (h : unmarked x = true) : (x == ("__debug__" : Str)) = false := by
  unfold unmarked at h
  rw [Bool.and_eq_true] at h
  simpa using h.1
theorem unmarked2 {x : Str} (h : unmarked x = true) : (x == ("__classdict__" : Str)) = false := by
  unfold unmarked at h
  rw [Bool.and_eq_true] at h
  simpa using h.2
def getV (i : Nat) : Env → M D := fun ρ => match ρ[i]? with
  | some (some d) => M.ret d
  | _ => M.stop
theorem getV_some {i : Nat} {ρ : Env} {μ : List O} {p : Except Ex D × List O} (h : getV i ρ μ = some p) : ∃ d, ρ[i]? = some (some d) ∧ p = (.ok d, μ) := by
  unfold getV at h
  cases e : ρ[i]? with
  | none => rw [e] at h; cases h
  | some o =>
    rw [e] at h
    cases o with
    | none => cases h
    | some d => exact ⟨d, rfl, (Option.some.inj h).symm⟩
def cVar (i : Nat) : CE := ⟨getV i, fun I e => match e with
  | .Name x _ => decide (I.N[i]? = some x) && (seen I.sc x && unmarked x)
  | _ => false⟩
section
variable {Kn : Kno} {k : Nat}
theorem g_var {i : Nat} : GE Kn k (cVar i) := by
  intro X W cb b e h
  dsimp only [cVar] at h
  split at h
  · rename_i x pos
    simp only [Bool.and_eq_true, decide_eq_true_eq] at h
    refine PE.imp (pe_var h.1 (seen_vis h.2.1) (unmarked1 h.2.2) (unmarked2 h.2.2)) ?_
    rintro σ H Q ⟨α, ρ, μ, r, μ', g, run, aft⟩
    obtain ⟨d, h1, h2⟩ := getV_some run
    cases h2
    obtain ⟨v, h3, h4⟩ := g.e.at_ i d h1
    exact ⟨v, h3, aft α v H (Ext.refl α H) g.s h4⟩
  · cases h
/-- a run that gives a value and leaves all as it is -/
theorem rd_ret {a b : Type} {R : List Addr → Hp → a → b → Prop} {K : PySem.W.Frag} {mg : Str → Option Value} {E : XK} {α : List Addr} {H : Hp} {μ μ' : List O} {d : a} {r : Except Ex a} {Q : b → Hp → Prop} {v : b} (s : RepS K α H μ)
    (run : M.ret d μ = some (r, μ')) (aft : Aft R K mg E α H r μ' Q) (hv : R α H d v) : Q v H := by
  cases run
  exact aft α v H (Ext.refl α H) s hv
def cInt (i : Int) : CE := ⟨fun _ => M.ret (.int i), fun _ e => match e with
  | .Constant (.int j) _ _ => decide (j = i)
  | _ => false⟩
theorem g_int {i : Int} : GE Kn k (cInt i) := by
  intro X W cb b e h
  dsimp only [cInt] at h
  split at h
  · have z := of_decide_eq_true h
    subst z
    exact PE.imp pe_int fun σ H Q ⟨α, ρ, μ, r, μ', g, run, aft⟩ => rd_ret g.s run aft rfl
  · cases h
def cBl (i : Bool) : CE := ⟨fun _ => M.ret (.bl i), fun _ e => match e with
  | .Constant (.bool j) _ _ => decide (j = i)
  | _ => false⟩
theorem g_bl {i : Bool} : GE Kn k (cBl i) := by
  intro X W cb b e h
  dsimp only [cBl] at h
  split at h
  · have z := of_decide_eq_true h
    subst z
    exact PE.imp pe_bl fun σ H Q ⟨α, ρ, μ, r, μ', g, run, aft⟩ => rd_ret g.s run aft rfl
  · cases h
def cStr (i : Str) : CE := ⟨fun _ => M.ret (.str i), fun _ e => match e with
  | .Constant (.str j) _ _ => decide (j = i)
  | _ => false⟩
theorem g_str {i : Str} : GE Kn k (cStr i) := by
  intro X W cb b e h
  dsimp only [cStr] at h
  split at h
  · have z := of_decide_eq_true h
    subst z
    exact PE.imp pe_str fun σ H Q ⟨α, ρ, μ, r, μ', g, run, aft⟩ => rd_ret g.s run aft rfl
  · cases h
def cNon : CE := ⟨fun _ => M.ret .non, fun _ e => match e with
  | .Constant .none _ _ => true
  | _ => false⟩
theorem g_non : GE Kn k cNon := by
  intro X W cb b e h
  dsimp only [cNon] at h
  split at h
  · exact PE.imp pe_non fun σ H Q ⟨α, ρ, μ, r, μ', g, run, aft⟩ => rd_ret g.s run aft rfl
  · cases h
/-! ### a constant of the module that is no object: an int, a text -/
def glo (sc : Scope) (x : Str) : Bool := decide (sc.names.lookup x = some .globalImplicit)
def cGlo (x : Str) (d : D) : CE := ⟨fun _ => M.ret d, fun I e => match e with
  | .Name y _ => decide (y = x) && (glo I.sc y && unmarked y)
  | _ => false⟩
/-- x is a constant of the module that stands for d -/
def IsGlo (Kn : Kno) (x : Str) (d : D) : Prop := ∀ P w K mg base, Kn P w K mg base → ∃ (v : V) (u : Value), mg x = some u ∧ RelV v u ∧ ∀ α H, Rep K α H d v
theorem g_glo {x : Str} {d : D} (hx : IsGlo Kn x d) : GE Kn k (cGlo x d) := by
  intro X W cb b e h
  dsimp only [cGlo] at h
  split at h
  · simp only [Bool.and_eq_true, decide_eq_true_eq, glo] at h
    obtain ⟨h1, h2, h3⟩ := h
    subst h1
    obtain ⟨v, u, hm, rv, hr⟩ := hx _ _ _ _ _ b.kn
    exact PE.imp (pe_glob h2 hm rv (unmarked1 h3)) fun σ H Q ⟨α, ρ, μ, r, μ', g, run, aft⟩ => rd_ret g.s run aft (hr _ _)
  · cases h

/-! ### lists of arguments -/
def noStar : Expr → Bool
  | .Starred _ _ => false
  | _ => true
theorem star_cons {e : Expr} {es : List Expr} {env : PySem.Env} (h : noStar e = true) : starEach (e :: es) env = (false, eval e env) :: starEach es env := by
  cases e <;> first | rfl | cases h
theorem star_any {pos : Pos} {env : PySem.Env} : ∀ {es : List Expr}, es.all noStar = true → (backTo pos (starEach es env)).any (·.1) = false
  | [], _ => rfl
  | e :: es, h => by
    rw [List.all_cons, Bool.and_eq_true] at h
    rw [star_cons h.1]
    show (false || (backTo pos (starEach es env)).any (·.1)) = false
    rw [star_any h.2]; rfl
def aNil : CA := ⟨fun _ => M.ret [], fun _ es => match es with
  | [] => true
  | _ => false⟩
def aCons (c : CE) (cs : CA) : CA := ⟨fun ρ => M.bnd (c.run ρ) fun d => M.bnd (cs.run ρ) fun ds => M.ret (d :: ds), fun I es => match es with
  | e :: r => c.chk I e && (noStar e && cs.chk I r)
  | _ => false⟩
theorem g_nil : GA Kn k aNil := by
  intro X W cb b e h
  dsimp only [aNil] at h
  split at h
  · exact PA.imp pa_nil fun σ H Q ⟨α, ρ, μ, r, μ', g, run, aft⟩ => rd_ret g.s run aft Reps.nil
  · cases h
theorem g_cons {c : CE} {cs : CA} (hc : GE Kn k c) (hs : GA Kn k cs) : GA Kn k (aCons c cs) := by
  intro X W cb b e h
  dsimp only [aCons] at h
  split at h
  · simp only [Bool.and_eq_true] at h
    obtain ⟨h1, h2, h3⟩ := h
    refine PA.imp (pa_cons (hc X W cb b _ h1) (hs X W cb b _ h3) (star_cons h2)) ?_
    rintro σ H Q ⟨α, ρ, μ, r, μ', g, run, aft⟩
    refine rd_seq g run aft fun d v α1 H1 μ1 g1 k1 r1 run1 aft1 => ?_
    refine rd_seq g1 run1 aft1 fun ds vs α2 H2 μ2 g2 k2 r2 run2 aft2 => ?_
    exact rd_ret g2.s run2 aft2 (Reps.cons (r1.up k2) r2)
  · cases h
/-- the arguments' look ahead: no star -/
def cTup (cs : CA) : CE := ⟨fun ρ => M.bnd (cs.run ρ) fun ds => if ds.length ≤ sizeLine then M.ret (.tup ds) else M.stop, fun I e => match e with
  | .Tuple es _ _ => cs.chk I es
  | _ => false⟩
theorem g_tup {cs : CA} (hc : GA Kn k cs) : GE Kn k (cTup cs) := by
  intro X W cb b e h
  dsimp only [cTup] at h
  split at h
  · refine PE.imp (pe_tup (hc X W cb b _ h)) ?_
    rintro σ H Q ⟨α, ρ, μ, r, μ', g, run, aft⟩
    refine rd_seq g run aft fun ds vs α1 H1 μ1 g1 k1 r1 run1 aft1 => ?_
    have hl := r1.len
    split at run1
    · rename_i hz
      refine ⟨by rw [hl]; exact hz, fun p hp => ?_⟩
      cases run1
      exact aft1 α1 _ _ (Ext.lay hp) (g1.s.lay hp) ⟨p, vs, rfl, SqT.of upd_same, r1.up (Ext.lay hp)⟩
    · cases run1
  · cases h
/-- a new object of the store -/
def M.new (o : O) : M D := fun μ => some (.ok (.ref μ.length), μ ++ [o])
theorem new_lst {K : PySem.W.Frag} {mg : Str → Option Value} {E : XK} {α : List Addr} {H : Hp} {μ μ' : List O} {ds : List D} {vs : List V} {r : Except Ex D} {Q : VK} (s : RepS K α H μ) (run : M.new (.lst ds) μ = some (r, μ'))
    (aft : Aft (Rep K) K mg E α H r μ' Q) (hv : Reps K α H ds vs) {p : Addr} (hp : H p = none) : Q (.ref p) (upd H p (.lst vs)) := by
  cases run
  refine aft (α ++ [p]) _ _ (Ext.push hp) (s.push hp ⟨vs, upd_same, hv.up (Ext.push hp)⟩) ⟨p, rfl, ?_⟩
  rw [← s.len, List.getElem?_append_right (Nat.le_refl _)]
  simp
def cLst (cs : CA) : CE := ⟨fun ρ => M.bnd (cs.run ρ) fun ds => if ds.length ≤ sizeLine then M.new (.lst ds) else M.stop, fun I e => match e with
  | .List es _ => cs.chk I es
  | _ => false⟩
theorem g_lst {cs : CA} (hc : GA Kn k cs) : GE Kn k (cLst cs) := by
  intro X W cb b e h
  dsimp only [cLst] at h
  split at h
  · refine PE.imp (pe_lst (hc X W cb b _ h)) ?_
    rintro σ H Q ⟨α, ρ, μ, r, μ', g, run, aft⟩
    refine rd_seq g run aft fun ds vs α1 H1 μ1 g1 k1 r1 run1 aft1 => ?_
    have hl := r1.len
    split at run1
    · rename_i hz
      exact ⟨by rw [hl]; exact hz, fun p hp => new_lst g1.s run1 aft1 r1 hp⟩
    · cases run1
  · cases h

/-! ### two operands -/
/-- a rule of the layer and a function of data that go together -/
def OpD (K : PySem.W.Frag) (r : R2) (f : D → D → M D) : Prop := ∀ (mg : Str → Option Value) (E : XK) (α : List Addr) (H : Hp) (μ μ' : List O) (d1 d2 : D) (x y : V) (q : Except Ex D) (Q : VK),
  RepS K α H μ → Rep K α H d1 x → Rep K α H d2 y → f d1 d2 μ = some (q, μ') → Aft (Rep K) K mg E α H q μ' Q → r x y H Q
theorem two {K : PySem.W.Frag} {mg : Str → Option Value} {W : WX} {ra rb : Env → M D} {f : D → D → M D} {r : R2} (ho : OpD K r f) : ∀ σ H Q, rdE K mg W (fun ρ => M.bnd (ra ρ) fun x => M.bnd (rb ρ) fun y => f x y) σ H Q → tOp r (rdE K mg W ra) (rdE K mg W rb) σ H Q := by
  rintro σ H Q ⟨α, ρ, μ, q, μ', g, run, aft⟩
  refine rd_seq g run aft fun d v α1 H1 μ1 g1 k1 r1 run1 aft1 => ?_
  refine rd_seq g1 run1 aft1 fun d2 v2 α2 H2 μ2 g2 k2 r2 run2 aft2 => ?_
  exact ho mg _ α2 H2 μ2 μ' d d2 v v2 q Q g2.s (r1.up k2) r2 run2 aft2
def cBin (op : Operator) (f : D → D → M D) (a b : CE) : CE := ⟨fun ρ => M.bnd (a.run ρ) fun x => M.bnd (b.run ρ) fun y => f x y, fun I e => match e with
  | .BinOp l o r _ => decide (o = op) && (a.chk I l && b.chk I r)
  | _ => false⟩
def OkBin (op : Operator) (f : D → D → M D) : Prop := ∀ X : Cx, Here X → ∃ r, OpR X (binaryOp op) r ∧ OpD X.K r f
theorem g_bin {op : Operator} {f : D → D → M D} {a b : CE} (ho : OkBin op f) (ha : GE Kn k a) (hb : GE Kn k b) : GE Kn k (cBin op f a b) := by
  intro X W cb bs e h
  dsimp only [cBin] at h
  split at h
  · simp only [Bool.and_eq_true, decide_eq_true_eq] at h
    obtain ⟨h1, h2, h3⟩ := h
    subst h1
    obtain ⟨r, o1, o2⟩ := ho X bs.here
    exact PE.imp (pe_op o1 (ha X W cb bs _ h2) (hb X W cb bs _ h3)) (two o2)
  · cases h
/-- the marks of in, not in: a set's display -/
def noSet : Expr → Bool
  | .Set _ _ _ => false
  | _ => true
theorem noSet_mark {op : CmpOp} {e : Expr} (h : noSet e = true) : behindInMarks op e = false := by
  cases e <;> first | rfl | cases h
def cCmp (op : CmpOp) (f : D → D → M D) (a b : CE) : CE := ⟨fun ρ => M.bnd (a.run ρ) fun x => M.bnd (b.run ρ) fun y => f x y, fun I e => match e with
  | .Compare l [o] [r] _ => decide (o = op) && (noSet r && (a.chk I l && b.chk I r))
  | _ => false⟩
def OkCmp (op : CmpOp) (f : D → D → M D) : Prop := ∀ X : Cx, Here X → ∃ r, OpR X (compareOp op) r ∧ OpD X.K r f
theorem g_cmp {op : CmpOp} {f : D → D → M D} {a b : CE} (ho : OkCmp op f) (ha : GE Kn k a) (hb : GE Kn k b) : GE Kn k (cCmp op f a b) := by
  intro X W cb bs e h
  dsimp only [cCmp] at h
  split at h
  · simp only [Bool.and_eq_true, decide_eq_true_eq] at h
    obtain ⟨h1, h0, h2, h3⟩ := h
    subst h1
    obtain ⟨r, o1, o2⟩ := ho X bs.here
    exact PE.imp (pe_cmpR o1 (ha X W cb bs _ h2) (hb X W cb bs _ h3) (noSet_mark h0)) (two o2)
  · cases h
/-- a value that is a truth -/
def asB : D → M Bool
  | .bl b => M.ret b
  | _ => M.stop
theorem tested {K : PySem.W.Frag} {mg : Str → Option Value} {W : WX} {m : Env → M D} : ∀ σ H Q, rdT K mg W (fun ρ => M.bnd (m ρ) asB) σ H Q → tTest (rdE K mg W m) σ H Q := by
  rintro σ H Q ⟨α, ρ, μ, q, μ', g, run, aft⟩
  refine rd_seq g run aft fun d v α1 H1 μ1 g1 k1 r1 run1 aft1 => ?_
  cases d with
  | bl b =>
    have e : v = .bl b := r1
    exact ⟨b, e, rd_ret g1.s run1 aft1 rfl⟩
  | _ => cases run1
/-- a comparison as a test -/
def tCmpC (op : CmpOp) (f : D → D → M D) (a b : CE) : CT := ⟨fun ρ => M.bnd ((cCmp op f a b).run ρ) asB, (cCmp op f a b).chk⟩
theorem g_tcmp {op : CmpOp} {f : D → D → M D} {a b : CE} (ho : OkCmp op f) (ha : GE Kn k a) (hb : GE Kn k b) : GT Kn k (tCmpC op f a b) := by
  intro X W cb bs e h
  dsimp only [tCmpC, cCmp] at h
  split at h
  · simp only [Bool.and_eq_true, decide_eq_true_eq] at h
    obtain ⟨h1, h0, h2, h3⟩ := h
    subst h1
    obtain ⟨r, o1, o2⟩ := ho X bs.here
    refine PT.imp (pt_cmpR o1 (ha X W cb bs _ h2) (hb X W cb bs _ h3) (noSet_mark h0)) fun σ H Q q => ?_
    exact two o2 σ H _ (tested σ H Q q)
  · cases h
/-- an expression that is no and, or, not, if-else, comparison: as a test -/
def plainT : Expr → Bool
  | .UnaryOp .Not _ _ => false
  | .BoolOp _ _ _ => false
  | .IfExp _ _ _ _ => false
  | .Compare _ _ _ _ => false
  | _ => true
theorem plainT_eq {e : Expr} {env : PySem.Env} (h : plainT e = true) : ∀ whole, isTrue e env whole = (do let v ← whole; standAt e.pos; holding [v] (truthy v)) := by
  intro whole
  cases e with
  | UnaryOp op _ _ => cases op <;> first | rfl | cases h
  | _ => first | rfl | cases h
def tVal (a : CE) : CT := ⟨fun ρ => M.bnd (a.run ρ) asB, fun I e => plainT e && a.chk I e⟩
theorem g_tval {a : CE} (ha : GE Kn k a) : GT Kn k (tVal a) := by
  intro X W cb bs e h
  dsimp only [tVal] at h
  rw [Bool.and_eq_true] at h
  exact PT.imp (pt_val (ha X W cb bs e h.2) (plainT_eq h.1)) (tested)
def tNotC (a : CT) : CT := ⟨fun ρ => M.bnd (a.run ρ) fun b => M.ret (!b), fun I e => match e with
  | .UnaryOp .Not x _ => a.chk I x
  | _ => false⟩
theorem g_tnot {a : CT} (ha : GT Kn k a) : GT Kn k (tNotC a) := by
  intro X W cb bs e h
  dsimp only [tNotC] at h
  split at h
  · refine PT.imp (pt_not (ha X W cb bs _ h)) ?_
    rintro σ H Q ⟨α, ρ, μ, q, μ', g, run, aft⟩
    refine rd_seq g run aft fun d v α1 H1 μ1 g1 k1 r1 run1 aft1 => ?_
    cases r1
    exact rd_ret g1.s run1 aft1 rfl
  · cases h
def wAnd1 (a : CT) : CT := ⟨a.run, fun I e => match e with
  | .BoolOp .And [x] _ => a.chk I x
  | _ => false⟩
def wOr1 (a : CT) : CT := ⟨a.run, fun I e => match e with
  | .BoolOp .Or [x] _ => a.chk I x
  | _ => false⟩
def wAnd (a b : CT) : CT := ⟨fun ρ => M.bnd (a.run ρ) fun c => if c = true then b.run ρ else M.ret false, fun I e => match e with
  | .BoolOp .And (x :: y :: r) pos => a.chk I x && b.chk I (.BoolOp .And (y :: r) pos)
  | _ => false⟩
def wOr (a b : CT) : CT := ⟨fun ρ => M.bnd (a.run ρ) fun c => if c = true then M.ret true else b.run ρ, fun I e => match e with
  | .BoolOp .Or (x :: y :: r) pos => a.chk I x && b.chk I (.BoolOp .Or (y :: r) pos)
  | _ => false⟩
theorem g_and1 {a : CT} (ha : GT Kn k a) : GW Kn k (wAnd1 a) := by
  intro X W cb bs e h
  dsimp only [wAnd1] at h
  split at h
  · exact pw_and1 (ha X W cb bs _ h)
  · cases h
theorem g_or1 {a : CT} (ha : GT Kn k a) : GW Kn k (wOr1 a) := by
  intro X W cb bs e h
  dsimp only [wOr1] at h
  split at h
  · exact pw_or1 (ha X W cb bs _ h)
  · cases h
theorem g_and {a b : CT} (ha : GT Kn k a) (hb : GW Kn k b) : GW Kn k (wAnd a b) := by
  intro X W cb bs e h
  dsimp only [wAnd] at h
  split at h
  · rw [Bool.and_eq_true] at h
    refine PW.imp (pw_and (ha X W cb bs _ h.1) (hb X W cb bs _ h.2)) ?_
    rintro σ H Q ⟨α, ρ, μ, q, μ', g, run, aft⟩
    refine rd_seq g run aft fun d v α1 H1 μ1 g1 k1 r1 run1 aft1 => ?_
    subst r1
    cases d with
    | true => exact rd_in g1 run1 aft1
    | false => exact rd_ret g1.s run1 aft1 rfl
  · cases h
theorem g_or {a b : CT} (ha : GT Kn k a) (hb : GW Kn k b) : GW Kn k (wOr a b) := by
  intro X W cb bs e h
  dsimp only [wOr] at h
  split at h
  · rw [Bool.and_eq_true] at h
    refine PW.imp (pw_or (ha X W cb bs _ h.1) (hb X W cb bs _ h.2)) ?_
    rintro σ H Q ⟨α, ρ, μ, q, μ', g, run, aft⟩
    refine rd_seq g run aft fun d v α1 H1 μ1 g1 k1 r1 run1 aft1 => ?_
    subst r1
    cases d with
    | true => exact rd_ret g1.s run1 aft1 rfl
    | false => exact rd_in g1 run1 aft1
  · cases h
/-- a if t else b -/
def cIf (t : CT) (a b : CE) : CE := ⟨fun ρ => M.bnd (t.run ρ) fun c => if c = true then a.run ρ else b.run ρ, fun I e => match e with
  | .IfExp x y z _ => t.chk I x && (a.chk I y && b.chk I z)
  | _ => false⟩
theorem g_if {t : CT} {a b : CE} (ht : GT Kn k t) (ha : GE Kn k a) (hb : GE Kn k b) : GE Kn k (cIf t a b) := by
  intro X W cb bs e h
  dsimp only [cIf] at h
  split at h
  · simp only [Bool.and_eq_true] at h
    refine PE.imp (pe_ifExp (ht X W cb bs _ h.1) (ha X W cb bs _ h.2.1) (hb X W cb bs _ h.2.2)) ?_
    rintro σ H Q ⟨α, ρ, μ, q, μ', g, run, aft⟩
    refine rd_seq g run aft fun d v α1 H1 μ1 g1 k1 r1 run1 aft1 => ?_
    subst r1
    cases d with
    | true => exact rd_in g1 run1 aft1
    | false => exact rd_in g1 run1 aft1
  · cases h
/-- and, or as values (truths); one behind the other -/
def vOne (op : PySem.BoolOp) (a : CE) : CE := ⟨a.run, fun I e => match e with
  | .BoolOp o [x] _ => decide (o = op) && a.chk I x
  | _ => false⟩
def vAnd (a b : CE) : CE := ⟨fun ρ => M.bnd (M.bnd (a.run ρ) asB) fun c => if c = true then b.run ρ else M.ret (.bl false), fun I e => match e with
  | .BoolOp .And (x :: y :: r) pos => a.chk I x && b.chk I (.BoolOp .And (y :: r) pos)
  | _ => false⟩
def vOr (a b : CE) : CE := ⟨fun ρ => M.bnd (M.bnd (a.run ρ) asB) fun c => if c = true then M.ret (.bl true) else b.run ρ, fun I e => match e with
  | .BoolOp .Or (x :: y :: r) pos => a.chk I x && b.chk I (.BoolOp .Or (y :: r) pos)
  | _ => false⟩
theorem g_vone {op : PySem.BoolOp} {a : CE} (ha : GE Kn k a) : GE Kn k (vOne op a) := by
  intro X W cb bs e h
  dsimp only [vOne] at h
  split at h
  · rw [Bool.and_eq_true] at h
    exact pe_one (ha X W cb bs _ h.2)
  · cases h
theorem g_vand {a b : CE} (ha : GE Kn k a) (hb : GE Kn k b) : GE Kn k (vAnd a b) := by
  intro X W cb bs e h
  dsimp only [vAnd] at h
  split at h
  · rw [Bool.and_eq_true] at h
    refine PE.imp (pe_and (ha X W cb bs _ h.1) (hb X W cb bs _ h.2)) ?_
    rintro σ H Q ⟨α, ρ, μ, q, μ', g, run, aft⟩
    refine tested (K := X.K) (mg := X.mg) (W := W) (m := a.run) σ H (fun c H1 => if c = true then rdE X.K X.mg W b.run σ H1 Q else Q (.bl false) H1) ?_
    refine rd_seq g run aft fun d v α1 H1 μ1 g1 k1 r1 run1 aft1 => ?_
    subst r1
    cases d with
    | true => exact rd_in g1 run1 aft1
    | false => exact rd_ret g1.s run1 aft1 rfl
  · cases h
theorem g_vor {a b : CE} (ha : GE Kn k a) (hb : GE Kn k b) : GE Kn k (vOr a b) := by
  intro X W cb bs e h
  dsimp only [vOr] at h
  split at h
  · rw [Bool.and_eq_true] at h
    refine PE.imp (pe_or (ha X W cb bs _ h.1) (hb X W cb bs _ h.2)) ?_
    rintro σ H Q ⟨α, ρ, μ, q, μ', g, run, aft⟩
    refine tested (K := X.K) (mg := X.mg) (W := W) (m := a.run) σ H (fun c H1 => if c = true then Q (.bl true) H1 else rdE X.K X.mg W b.run σ H1 Q) ?_
    refine rd_seq g run aft fun d v α1 H1 μ1 g1 k1 r1 run1 aft1 => ?_
    subst r1
    cases d with
    | true => exact rd_ret g1.s run1 aft1 rfl
    | false => exact rd_in g1 run1 aft1
  · cases h
def vNot (a : CT) : CE := ⟨fun ρ => M.bnd (a.run ρ) fun b => M.ret (.bl (!b)), fun _ _ => false⟩
/-- not a, a truth, as a value -/
def cNot (a : CE) : CE := ⟨fun ρ => M.bnd (M.bnd (a.run ρ) asB) fun b => M.ret (.bl (!b)), fun I e => match e with
  | .UnaryOp .Not x _ => a.chk I x
  | _ => false⟩
theorem g_not {a : CE} (ha : GE Kn k a) : GE Kn k (cNot a) := by
  intro X W cb bs e h
  dsimp only [cNot] at h
  split at h
  · refine PE.imp (pe_not (ha X W cb bs _ h)) ?_
    rintro σ H Q ⟨α, ρ, μ, q, μ', g, run, aft⟩
    refine tested (K := X.K) (mg := X.mg) (W := W) (m := a.run) σ H (fun c H1 => Q (.bl (!c)) H1) ?_
    refine rd_seq g run aft fun d v α1 H1 μ1 g1 k1 r1 run1 aft1 => ?_
    subst r1
    exact rd_ret g1.s run1 aft1 rfl
  · cases h
/-- -a of a whole number -/
def negD : D → M D
  | .int i => M.ret (.int (-i))
  | _ => M.stop
def cNeg (a : CE) : CE := ⟨fun ρ => M.bnd (a.run ρ) negD, fun I e => match e with
  | .UnaryOp .USub x _ => a.chk I x
  | _ => false⟩
theorem g_neg {a : CE} (ha : GE Kn k a) : GE Kn k (cNeg a) := by
  intro X W cb bs e h
  dsimp only [cNeg] at h
  split at h
  · refine PE.imp (pe_un un_neg (ha X W cb bs _ h)) ?_
    rintro σ H Q ⟨α, ρ, μ, q, μ', g, run, aft⟩
    refine rd_seq g run aft fun d v α1 H1 μ1 g1 k1 r1 run1 aft1 => ?_
    cases d with
    | int i => exact ⟨i, r1, rd_ret g1.s run1 aft1 rfl⟩
    | _ => cases run1
  · cases h
/-- a op b op' c -/
def cChain (op op' : CmpOp) (f f' : D → D → M D) (a b c : CE) : CE := ⟨fun ρ => M.bnd (a.run ρ) fun x => M.bnd (b.run ρ) fun y => M.bnd (M.bnd (f x y) asB) fun t => if t = true then M.bnd (c.run ρ) fun z => f' y z else M.ret (.bl false), fun I e => match e with
  | .Compare l [o, o'] [m, r] _ => decide (o = op) && (decide (o' = op') && (noSet r && (a.chk I l && (b.chk I m && c.chk I r))))
  | _ => false⟩
theorem chained {X : Cx} {W : WX} {r r' : R2} {f f' : D → D → M D} {ra rb rc : Env → M D} (o2 : OpD X.K r f) (o2' : OpD X.K r' f') : ∀ σ H Q,
    rdE X.K X.mg W (fun ρ => M.bnd (ra ρ) fun x => M.bnd (rb ρ) fun y => M.bnd (M.bnd (f x y) asB) fun t => if t = true then M.bnd (rc ρ) fun z => f' y z else M.ret (.bl false)) σ H Q →
    tChain r r' (rdE X.K X.mg W ra) (rdE X.K X.mg W rb) (rdE X.K X.mg W rc) σ H Q := by
  rintro σ H Q ⟨α, ρ, μ, q, μ', g, run, aft⟩
  refine rd_seq g run aft fun d v α1 H1 μ1 g1 k1 r1 run1 aft1 => ?_
  refine rd_seq g1 run1 aft1 fun d2 v2 α2 H2 μ2 g2 k2 r2 run2 aft2 => ?_
  -- the first comparison
  unfold M.bnd at run2
  cases hf : M.bnd (f d d2) asB μ2 with
  | none =>
    unfold M.bnd at hf
    rw [hf] at run2
    cases run2
  | some p =>
    have hf' := hf
    unfold M.bnd at hf'
    rw [hf'] at run2
    cases hx : f d d2 μ2 with
    | none => rw [hx] at hf'; cases hf'
    | some pr =>
      obtain ⟨rx, μx⟩ := pr
      rw [hx] at hf'
      refine o2 X.mg (fun c dd H' => W c dd σ H') α2 H2 μ2 μx d d2 v v2 rx _ g2.s (r1.up k2) r2 hx ?_
      cases rx with
      | error x =>
        cases hf'
        cases run2
        exact aft2
      | ok dx =>
        intro α3 v3 H3 k3 s3 r3
        cases dx with
        | bl t =>
          cases hf'
          refine ⟨t, r3, ?_⟩
          cases t with
          | true =>
            rw [if_pos rfl]
            have g3 : Cfg X.K α3 H3 ρ σ μx := ⟨s3, g2.e.up k3⟩
            refine rd_seq g3 run2 (aft2.up k3) fun d4 v4 α4 H4 μ4 g4 k4 r4 run4 aft4 => ?_
            exact o2' X.mg _ α4 H4 μ4 μ' d2 d4 v2 v4 q Q g4.s (r2.up (k3.trans k4)) r4 run4 aft4
          | false =>
            rw [if_neg Bool.false_ne_true]
            exact rd_ret s3 run2 (aft2.up k3) rfl
        | _ => cases hf'
theorem marks2 {o o' : CmpOp} {m r : Expr} (h : noSet r = true) : lastMarks [o, o'] [m, r] = false := noSet_mark h
theorem g_chain {op op' : CmpOp} {f f' : D → D → M D} {a b c : CE} (ho : OkCmp op f) (ho' : OkCmp op' f') (ha : GE Kn k a) (hb : GE Kn k b) (hc : GE Kn k c) : GE Kn k (cChain op op' f f' a b c) := by
  intro X W cb bs e h
  dsimp only [cChain] at h
  split at h
  · simp only [Bool.and_eq_true, decide_eq_true_eq] at h
    obtain ⟨h1, h2, h0, h3, h4, h5⟩ := h
    subst h1 h2
    obtain ⟨r, o1, o2⟩ := ho X bs.here
    obtain ⟨r', o1', o2'⟩ := ho' X bs.here
    exact PE.imp (pe_chain o1 o1' (ha X W cb bs _ h3) (hb X W cb bs _ h4) (hc X W cb bs _ h5) (marks2 h0)) (chained o2 o2')
  · cases h
def tChainC (op op' : CmpOp) (f f' : D → D → M D) (a b c : CE) : CT := ⟨fun ρ => M.bnd ((cChain op op' f f' a b c).run ρ) asB, (cChain op op' f f' a b c).chk⟩
theorem g_tchain {op op' : CmpOp} {f f' : D → D → M D} {a b c : CE} (ho : OkCmp op f) (ho' : OkCmp op' f') (ha : GE Kn k a) (hb : GE Kn k b) (hc : GE Kn k c) : GT Kn k (tChainC op op' f f' a b c) := by
  intro X W cb bs e h
  dsimp only [tChainC, cChain] at h
  split at h
  · simp only [Bool.and_eq_true, decide_eq_true_eq] at h
    obtain ⟨h1, h2, h0, h3, h4, h5⟩ := h
    subst h1 h2
    obtain ⟨r, o1, o2⟩ := ho X bs.here
    obtain ⟨r', o1', o2'⟩ := ho' X bs.here
    exact PT.imp (pt_chain o1 o1' (ha X W cb bs _ h3) (hb X W cb bs _ h4) (hc X W cb bs _ h5) (marks2 h0)) fun σ H Q q => chained o2 o2' σ H _ (tested σ H Q q)
  · cases h
end
end Mi
/-! Mi, part C: operators, subscripts, built-ins. -/
namespace Mi
open PySem L2 PyProof.Rows

/-- a list of the store -/
def M.lst (l : Nat) : M (List D) := fun μ => match μ[l]? with
  | some (.lst ds) => some (.ok ds, μ)
  | _ => none
theorem lst_some {l : Nat} {μ : List O} {p : Except Ex (List D) × List O} (h : M.lst l μ = some p) : ∃ ds, μ[l]? = some (.lst ds) ∧ p = (.ok ds, μ) := by
  unfold M.lst at h
  cases e : μ[l]? with
  | none => rw [e] at h; cases h
  | some o =>
    rw [e] at h
    cases o with
    | lst ds => exact ⟨ds, rfl, (Option.some.inj h).symm⟩
    | dct _ => cases h
/-- the list at l, its address, its values -/
theorem lst_at {K : PySem.W.Frag} {α : List Addr} {H : Hp} {μ : List O} {l : Nat} {ds : List D} {x : V} (s : RepS K α H μ) (r : Rep K α H (.ref l) x) (h : μ[l]? = some (.lst ds)) :
    ∃ p vs, x = .ref p ∧ α[l]? = some p ∧ H p = some (.lst vs) ∧ Reps K α H ds vs := by
  obtain ⟨p, e, a⟩ := r
  obtain ⟨vs, h1, h2⟩ := s.at_ l _ p h a
  exact ⟨p, vs, e, a, h1, h2⟩
theorem bnd_lst {a : Type} {l : Nat} {μ μ' : List O} {f : List D → M a} {r : Except Ex a} (h : M.bnd (M.lst l) f μ = some (r, μ')) : ∃ ds, μ[l]? = some (.lst ds) ∧ f ds μ = some (r, μ') := by
  unfold M.bnd at h
  cases e : M.lst l μ with
  | none => rw [e] at h; cases h
  | some p =>
    obtain ⟨ds, h1, h2⟩ := lst_some e
    subst h2
    rw [e] at h
    exact ⟨ds, h1, h⟩
/-- a new tuple -/
theorem new_tup {K : PySem.W.Frag} {mg : Str → Option Value} {E : XK} {α : List Addr} {H : Hp} {μ μ' : List O} {ds : List D} {vs : List V} {r : Except Ex D} {Q : VK} (s : RepS K α H μ) (run : M.ret (D.tup ds) μ = some (r, μ'))
    (aft : Aft (Rep K) K mg E α H r μ' Q) (hv : Reps K α H ds vs) {p : Addr} (hp : H p = none) : Q (.ref p) (upd H p (.tup vs)) := by
  cases run
  exact aft α _ _ (Ext.lay hp) (s.lay hp) ⟨p, vs, rfl, SqT.of upd_same, hv.up (Ext.lay hp)⟩
/-- a new list of the store -/
def newL (ds : List D) : M D := if ds.length ≤ sizeLine then M.new (.lst ds) else M.stop
theorem newL_some {ds : List D} {μ : List O} {p : Except Ex D × List O} (h : newL ds μ = some p) : ds.length ≤ sizeLine ∧ M.new (.lst ds) μ = some p := by
  unfold newL at h
  split at h
  · exact ⟨by assumption, h⟩
  · cases h

/-! ### + - * // % ** -/
def addD : D → D → M D
  | .int i, .int j => M.ret (.int (i + j))
  | .str x, .str y => if x.length + y.length ≤ sizeLine then M.ret (.str (x ++ y)) else M.stop
  | .tup xs, .tup ys => if xs.length + ys.length ≤ sizeLine then M.ret (.tup (xs ++ ys)) else M.stop
  | .ref l, .ref m => M.bnd (M.lst l) fun xs => M.bnd (M.lst m) fun ys => newL (xs ++ ys)
  | _, _ => M.stop
abbrev rAddStr : R2 := fun x y H Q => ∃ i j, x = .str i ∧ y = .str j ∧ i.length + j.length ≤ sizeLine ∧ Q (.str (i ++ j)) H
theorem ok_add : OkBin .Add addD := by
  intro X _
  refine ⟨_, OpR.or (OpR.or op_add op_add_str) (OpR.or op_catA op_cat), ?_⟩
  intro mg E α H μ μ' d1 d2 x y q Q s r1 r2 run aft
  unfold addD at run
  split at run
  · exact .inl (.inl ⟨_, _, r1, r2, rd_ret s run aft rfl⟩)
  · split at run
    · rename_i hz
      exact .inl (.inr ⟨_, _, r1, r2, hz, rd_ret s run aft rfl⟩)
    · cases run
  · obtain ⟨p1, v1, e1, t1, w1⟩ := r1
    obtain ⟨p2, v2, e2, t2, w2⟩ := r2
    split at run
    · rename_i hz
      refine .inr (.inl ⟨p1, p2, v1, v2, e1, e2, t1, t2, by rw [w1.len, w2.len]; exact hz, fun z => ?_, fun z z2 => ?_, fun z z2 p hp => new_tup s run aft (w1.app w2) hp⟩)
      · subst z
        exact rd_ret s run aft ⟨p2, v2, rfl, t2, w1.app w2⟩
      · subst z2
        exact rd_ret s run aft ⟨p1, v1, rfl, t1, by simpa using w1.app w2⟩
    · cases run
  · obtain ⟨xs, h1, run⟩ := bnd_lst run
    obtain ⟨ys, h2, run⟩ := bnd_lst run
    obtain ⟨p1, v1, e1, a1, b1, c1⟩ := lst_at s r1 h1
    obtain ⟨p2, v2, e2, a2, b2, c2⟩ := lst_at s r2 h2
    obtain ⟨hz, run⟩ := newL_some run
    rw [List.length_append] at hz
    exact .inr (.inr ⟨p1, p2, v1, v2, e1, e2, b1, b2, by rw [c1.len, c2.len]; exact hz, fun p hp => new_lst s run aft (c1.app c2) hp⟩)
  · cases run
def subD : D → D → M D
  | .int i, .int j => M.ret (.int (i - j))
  | _, _ => M.stop
theorem ok_sub : OkBin .Sub subD := by
  intro X _
  refine ⟨_, op_sub, ?_⟩
  intro mg E α H μ μ' d1 d2 x y q Q s r1 r2 run aft
  unfold subD at run
  split at run
  · exact ⟨_, _, r1, r2, rd_ret s run aft rfl⟩
  · cases run
def mulOk (i j : Int) : Prop := ((-(2 ^ 64) < i ∧ i < 2 ^ 64) ∨ (-(2 ^ 64) < j ∧ j < 2 ^ 64)) ∨ i.natAbs.log2 + j.natAbs.log2 < 1000000
instance (i j : Int) : Decidable (mulOk i j) := by unfold mulOk; infer_instance
/-- a text so many times -/
def repS (x : Str) (n : Nat) : Str := ⟨(List.replicate n x.cps.toList).flatten.toArray⟩
theorem fold_app (cs : List Nat) : ∀ (n : Nat) (acc : Array Nat), ((List.replicate n cs.toArray).foldl (· ++ ·) acc) = (acc.toList ++ (List.replicate n cs).flatten).toArray
  | 0, acc => by simp
  | n + 1, acc => by
    rw [List.replicate_succ, List.foldl_cons, fold_app cs n]
    simp [List.replicate_succ]
def rMulS : R2 := fun x y H Q => ∃ z k, x = .str z ∧ y = .int k ∧ -(2 ^ 63) ≤ k ∧ k < 2 ^ 63 ∧ z.cps.toList.length * k.toNat ≤ sizeLine ∧ Q (.str (repS z k.toNat)) H
theorem op_mulS {X : Cx} : OpR X (binaryOp .Mult) rMulS := by
  intro pins s σ H x y v u Q I rx ry h
  obtain ⟨z, k, rfl, rfl, h1, h2, hz, q⟩ := h
  obtain ⟨t, rfl⟩ := rx
  obtain ⟨t2, rfl⟩ := ry
  obtain ⟨⟨cs⟩⟩ := z
  have e0 : (List.replicate k.toNat cs).flatten.length = cs.length * k.toNat := by
    rw [List.length_flatten, List.map_replicate, List.sum_replicate_nat, Nat.mul_comm]
  have hz : cs.length * k.toNat ≤ sizeLine := hz
  have fin : ∀ (a : Str), a = repS ⟨⟨cs⟩⟩ k.toNat → EP X pins σ Q (.str a s.toks) { s with toks := s.toks + 1 } := fun a e => by
    subst e
    exact ⟨.str (repS ⟨⟨cs⟩⟩ k.toNat), H, I.tok _, ⟨_, rfl⟩, q⟩
  refine PySem.P.mul_str (by rw [decide_eq_false (by omega), decide_eq_false (by omega)]; rfl) (fun hk _ => ?_) (fun hk _ => ?_) ?_
  · show ¬ (cs.length : Int) > _
    intro g
    have k0 : 0 < k := by omega
    have kk : ((k.toNat : Nat) : Int) = k := by omega
    have g2 : (2 ^ 63 - 1 : Int) / k < cs.length := g
    rw [Int.ediv_lt_iff_lt_mul k0] at g2
    have : ((cs.length * k.toNat : Nat) : Int) ≤ sizeLine := by exact_mod_cast hz
    rw [Int.natCast_mul, kk, sizeLine_eq] at this
    omega
  · show Builtin.Str.tooLong (cs.length * k.toNat) = false
    unfold Builtin.Str.tooLong
    exact decide_eq_false (by omega)
  · by_cases hk : k < 1
    · rw [if_pos hk]
      refine ⟨by show 0 ≤ sizeLine; omega, fin _ ?_⟩
      have : k.toNat = 0 := by omega
      rw [this]; rfl
    · rw [if_neg hk]
      by_cases hb : (k == 1 || (⟨⟨cs⟩⟩ : Str).length == 0) = true
      · rw [if_pos hb]
        refine ⟨.str ⟨⟨cs⟩⟩, H, I, ⟨t, rfl⟩, ?_⟩
        have : repS ⟨⟨cs⟩⟩ k.toNat = ⟨⟨cs⟩⟩ := by
          rcases Bool.or_eq_true_iff.mp hb with z | z
          · have : k.toNat = 1 := by have := beq_iff_eq.mp z; omega
            rw [this]
            simp [repS]
          · have : cs = [] := List.eq_nil_of_length_eq_zero (beq_iff_eq.mp z)
            subst this
            simp [repS]
        rw [this] at q
        exact q
      · rw [if_neg hb]
        have e := fold_app cs k.toNat #[]
        refine ⟨?_, fin _ ?_⟩
        · show ((List.replicate k.toNat cs.toArray).foldl (· ++ ·) #[]).size ≤ sizeLine
          rw [e]
          simp only [List.nil_append, List.size_toArray]
          rw [e0]; exact hz
        · exact congrArg Str.mk (e.trans (by rfl))
def mulD : D → D → M D
  | .int i, .int j => if mulOk i j then M.ret (.int (i * j)) else M.stop
  | .ref l, .int k => M.bnd (M.lst l) fun xs => if -(2 ^ 63) ≤ k ∧ k < 2 ^ 63 then newL (List.replicate k.toNat xs).flatten else M.stop
  | .str x, .int k => if -(2 ^ 63) ≤ k ∧ k < 2 ^ 63 ∧ x.cps.toList.length * k.toNat ≤ sizeLine then M.ret (.str (repS x k.toNat)) else M.stop
  | _, _ => M.stop
theorem Reps.rep {K : PySem.W.Frag} {α : List Addr} {H : Hp} {ds : List D} {vs : List V} (h : Reps K α H ds vs) : ∀ k : Nat, Reps K α H (List.replicate k ds).flatten (List.replicate k vs).flatten
  | 0 => rfl
  | k + 1 => by
    rw [List.replicate_succ, List.replicate_succ, List.flatten_cons, List.flatten_cons]
    exact h.app (Reps.rep h k)
theorem flat_len {a : Type} (xs : List a) (k : Nat) : (List.replicate k xs).flatten.length = xs.length * k := by
  rw [List.length_flatten, List.map_replicate, List.sum_replicate_nat, Nat.mul_comm]
theorem ok_mul : OkBin .Mult mulD := by
  intro X _
  refine ⟨_, OpR.or (OpR.or op_mul op_mulW) (OpR.or op_rep op_mulS), ?_⟩
  intro mg E α H μ μ' d1 d2 x y q Q s r1 r2 run aft
  unfold mulD at run
  split at run
  · split at run
    · rename_i hm
      rcases hm with hm | hm
      · exact .inl (.inl ⟨_, _, r1, r2, hm, rd_ret s run aft rfl⟩)
      · exact .inl (.inr ⟨_, _, r1, r2, hm, rd_ret s run aft rfl⟩)
    · cases run
  · obtain ⟨xs, h1, run⟩ := bnd_lst run
    obtain ⟨p1, v1, e1, a1, b1, c1⟩ := lst_at s r1 h1
    split at run
    · rename_i hk
      obtain ⟨hz, run⟩ := newL_some run
      refine .inr (.inl ⟨p1, _, v1, e1, r2, b1, hk.1, hk.2, ?_, fun p hp => new_lst s run aft (c1.rep _) hp⟩)
      rw [flat_len] at hz
      rw [c1.len]
      exact hz
    · cases run
  · split at run
    · rename_i hk
      exact .inr (.inr ⟨_, _, r1, r2, hk.1, hk.2.1, hk.2.2, rd_ret s run aft rfl⟩)
    · cases run
  · cases run
def divOk (j : Int) : Prop := j ≠ 0 ∧ j.natAbs.log2 < 9000
instance (j : Int) : Decidable (divOk j) := by unfold divOk; infer_instance
def fdivD : D → D → M D
  | .int i, .int j => if divOk j then M.ret (.int (i.fdiv j)) else M.stop
  | _, _ => M.stop
theorem op_fdivB {X : Cx} : OpR X (binaryOp .FloorDiv) (rI (fun _ j => divOk j) fun i j => .int (i.fdiv j)) :=
  opI fun _ _ _ _ _ _ _ hc q => floordiv_int hc.1 q (.inl (PyProof.noPylong_of_log2 hc.2))
theorem ok_fdiv : OkBin .FloorDiv fdivD := by
  intro X _
  refine ⟨_, op_fdivB, ?_⟩
  intro mg E α H μ μ' d1 d2 x y q Q s r1 r2 run aft
  unfold fdivD at run
  split at run
  · split at run
    · rename_i hm
      exact ⟨_, _, r1, r2, hm, rd_ret s run aft rfl⟩
    · cases run
  · cases run
def modD : D → D → M D
  | .int i, .int j => if j ≠ 0 then M.ret (.int (i.fmod j)) else M.stop
  | _, _ => M.stop
theorem ok_mod : OkBin .Mod modD := by
  intro X _
  refine ⟨_, op_modN, ?_⟩
  intro mg E α H μ μ' d1 d2 x y q Q s r1 r2 run aft
  unfold modD at run
  split at run
  · split at run
    · rename_i hm
      exact ⟨_, _, r1, r2, hm, rd_ret s run aft rfl⟩
    · cases run
  · cases run
def powOk (i j : Int) : Prop := 0 ≤ j ∧ j ≤ 1000000 ∧ i.natAbs < 2 ^ 64
instance (i j : Int) : Decidable (powOk i j) := by unfold powOk; infer_instance
def powD : D → D → M D
  | .int i, .int j => if powOk i j then M.ret (.int (i ^ j.toNat)) else M.stop
  | _, _ => M.stop
theorem ok_pow : OkBin .Pow powD := by
  intro X _
  refine ⟨_, op_pow, ?_⟩
  intro mg E α H μ μ' d1 d2 x y q Q s r1 r2 run aft
  unfold powD at run
  split at run
  · split at run
    · rename_i hm
      exact ⟨_, _, r1, r2, hm, rd_ret s run aft rfl⟩
    · cases run
  · cases run

/-! ### comparisons -/
def ltD : D → D → M D
  | .int i, .int j => M.ret (.bl (decide (i < j)))
  | _, _ => M.stop
def leD : D → D → M D
  | .int i, .int j => M.ret (.bl (decide (i ≤ j)))
  | _, _ => M.stop
def gtD : D → D → M D
  | .int i, .int j => M.ret (.bl (decide (j < i)))
  | _, _ => M.stop
def geD : D → D → M D
  | .int i, .int j => M.ret (.bl (decide (j ≤ i)))
  | _, _ => M.stop
theorem cmp_int {op : CmpOp} {f : D → D → M D} {g : Int → Int → Bool} (h : ∀ X : Cx, OpR X (compareOp op) (rI0 fun i j => .bl (g i j))) (hf : ∀ i j, f (.int i) (.int j) = M.ret (.bl (g i j)))
    (hn : ∀ d e, (∀ i j, ¬ (d = .int i ∧ e = .int j)) → f d e = M.stop) : OkCmp op f := by
  intro X _
  refine ⟨_, h X, ?_⟩
  intro mg E α H μ μ' d1 d2 x y q Q s r1 r2 run aft
  by_cases z : ∃ i j, d1 = .int i ∧ d2 = .int j
  · obtain ⟨i, j, rfl, rfl⟩ := z
    rw [hf] at run
    exact ⟨i, j, r1, r2, rd_ret s run aft rfl⟩
  · rw [hn d1 d2 fun i j w => z ⟨i, j, w⟩] at run
    cases run
theorem ok_lt : OkCmp .Lt ltD := cmp_int (g := fun i j => decide (i < j)) (fun _ => op_lt) (fun _ _ => rfl) fun d e h => by
  unfold ltD; split
  · exact (h _ _ ⟨rfl, rfl⟩).elim
  · rfl
theorem ok_le : OkCmp .LtE leD := cmp_int (g := fun i j => decide (i ≤ j)) (fun _ => op_le) (fun _ _ => rfl) fun d e h => by
  unfold leD; split
  · exact (h _ _ ⟨rfl, rfl⟩).elim
  · rfl
theorem ok_gt : OkCmp .Gt gtD := cmp_int (g := fun i j => decide (j < i)) (fun _ => op_gt) (fun _ _ => rfl) fun d e h => by
  unfold gtD; split
  · exact (h _ _ ⟨rfl, rfl⟩).elim
  · rfl
theorem ok_ge : OkCmp .GtE geD := cmp_int (g := fun i j => decide (j ≤ i)) (fun _ => op_ge) (fun _ _ => rfl) fun d e h => by
  unfold geD; split
  · exact (h _ _ ⟨rfl, rfl⟩).elim
  · rfl
/-- x is None -/
def isNone : D → Bool
  | .non => true
  | _ => false
theorem isNone_rep {K : PySem.W.Frag} {α : List Addr} {H : Hp} {d : D} {v : V} (r : Rep K α H d v) : decide (v = .non) = isNone d := by
  cases d with
  | non => exact decide_eq_true r
  | bl b => cases (show v = .bl b from r); rfl
  | int b => cases (show v = .int b from r); rfl
  | str b => cases (show v = .str b from r); rfl
  | tup ds => obtain ⟨p, vs, e, _⟩ := r; cases e; rfl
  | fro ds => obtain ⟨p, vs, e, _⟩ := r; cases e; rfl
  | ref l => obtain ⟨p, e, _⟩ := r; cases e; rfl
def isD : D → D → M D
  | d, .non => M.ret (.bl (isNone d))
  | _, _ => M.stop
def isnD : D → D → M D
  | d, .non => M.ret (.bl (!isNone d))
  | _, _ => M.stop
theorem ok_is : OkCmp .Is isD := by
  intro X _
  refine ⟨_, op_isN, ?_⟩
  intro mg E α H μ μ' d1 d2 x y q Q s r1 r2 run aft
  cases d2 with
  | non => exact ⟨r2, by rw [isNone_rep r1]; exact rd_ret s run aft rfl⟩
  | _ => cases run
theorem ok_isn : OkCmp .IsNot isnD := by
  intro X _
  refine ⟨_, op_notN, ?_⟩
  intro mg E α H μ μ' d1 d2 x y q Q s r1 r2 run aft
  cases d2 with
  | non => exact ⟨r2, by rw [isNone_rep r1]; exact rd_ret s run aft rfl⟩
  | _ => cases run

/-! ### what is seen of data in full -/
def seeL (f : D → Option PyData) : List D → Option (List PyData)
  | [] => some []
  | d :: r => match f d, seeL f r with
    | some a, some b => some (a :: b)
    | _, _ => none
def keyP : Key → PyData
  | .inl i => .int i
  | .inr x => .str x
def seeK (f : D → Option PyData) : List (Key × D) → Option (List (PyData × PyData))
  | [] => some []
  | (k, d) :: r => match f d, seeK f r with
    | some a, some b => some ((keyP k, a) :: b)
    | _, _ => none
def see (μ : List O) : Nat → D → Option PyData
  | 0, _ => none
  | _ + 1, .non => some .none
  | _ + 1, .bl b => some (.bool b)
  | _ + 1, .int i => some (.int i)
  | _ + 1, .str x => some (.str x)
  | n + 1, .tup ds => (seeL (see μ n) ds).map .tuple
  | n + 1, .fro ds => none
  | n + 1, .ref l => match μ[l]? with
    | some (.lst ds) => (seeL (see μ n) ds).map .list
    | some (.dct kvs) => (seeK (see μ n) kvs).map .dict
    | none => none
section
variable {X : Cx} {pins : List (Addr × Obj)} {σ : L2.St} {H : Hp} {s : Shared} {α : List Addr} {μ : List O}
theorem no_sys (I : Inv X pins σ H s) (hb : ∃ o, X.base.get? sysModules = some o) {p : Addr} {u : HO} (h : H p = some u) : p ≠ sysModules := fun z => by
  obtain ⟨o, e⟩ := hb
  have := (I.bs _ _ e).2
  rw [← z, h] at this
  cases this
theorem seeL_reads {f : D → Option PyData} (ih : ∀ d p v u, f d = some p → Rep X.K α H d v → RelV v u → ∃ as, Reads s.heap u p as ∧ sysModules ∉ as) :
    ∀ (ds : List D) ps vs us, seeL f ds = some ps → Reps X.K α H ds vs → Vals vs us → ∃ as, ReadsAll s.heap us ps as ∧ sysModules ∉ as
  | [], ps, vs, us, h, r, w => by
    have e : vs = [] := r
    subst e
    cases w
    cases h
    exact ⟨[], .nil, by simp⟩
  | d :: ds, ps, vs, us, h, ⟨v, vr, e, r1, r2⟩, w => by
    subst e
    cases w with
    | cons w1 w2 =>
      unfold seeL at h
      cases e1 : f d with
      | none => rw [e1] at h; cases h
      | some a =>
        cases e2 : seeL f ds with
        | none => rw [e1, e2] at h; cases h
        | some b =>
          rw [e1, e2] at h
          cases h
          obtain ⟨as, q1, n1⟩ := ih d a v _ e1 r1 w1
          obtain ⟨bs, q2, n2⟩ := seeL_reads ih ds b vr _ e2 r2 w2
          exact ⟨as ++ bs, .cons q1 q2, by simp [n1, n2]⟩
theorem seeK_reads {knd : PySem.KeyKind X.prog X.w Key} (hk : ∀ k v, knd.is k v = keyIs k v) {f : D → Option PyData} (ih : ∀ d p v u, f d = some p → Rep X.K α H d v → RelV v u → ∃ as, Reads s.heap u p as ∧ sysModules ∉ as) :
    ∀ (es : List DictEntry) (ks : List (Key × D)) ps ws vs, seeK f ks = some ps → RepKv X.K α H ks ws → KV ws vs → PySem.Pairs knd es vs →
      (∃ as, ReadsAll s.heap (es.map (·.key)) (ps.map (·.1)) as ∧ sysModules ∉ as) ∧ ∃ bs, ReadsAll s.heap (es.map (·.val)) (ps.map (·.2)) bs ∧ sysModules ∉ bs := by
  intro es
  induction es with
  | nil =>
    intro ks ps ws vs h r w P
    cases P
    cases w
    cases ks with
    | nil =>
      cases h
      exact ⟨⟨[], .nil, by simp⟩, [], .nil, by simp⟩
    | cons k ks =>
      obtain ⟨k, d⟩ := k
      obtain ⟨v, s', e, _⟩ := r
      cases e
  | cons en es ih2 =>
    intro ks ps ws vs h r w P
    cases P with
    | cons hkey hval hP =>
      cases w with
      | cons w1 w2 =>
        cases ks with
        | nil =>
          have e : _ = ([] : List (Key × V)) := r
          cases e
        | cons k ks =>
          obtain ⟨k, d⟩ := k
          obtain ⟨v, s', e, r1, r2⟩ := r
          cases e
          unfold seeK at h
          cases e1 : f d with
          | none => rw [e1] at h; cases h
          | some a =>
            cases e2 : seeK f ks with
            | none => rw [e1, e2] at h; cases h
            | some b =>
              rw [e1, e2] at h
              cases h
              obtain ⟨⟨as, q1, n1⟩, bs, q2, n2⟩ := ih2 ks b _ _ e2 r2 w2 hP
              obtain ⟨cs, q3, n3⟩ := ih d a v _ e1 r1 w1.2
              rw [hk, ← w1.1] at hkey
              have qk : Reads s.heap en.key (keyP k) [] := by
                rcases keyIs_shape hkey with ⟨i, t, z1, z2⟩ | ⟨i, t, z1, z2⟩
                · have z1' : k = Sum.inl i := z1
                  rw [z2, z1']
                  exact .int i t
                · have z1' : k = Sum.inr i := z1
                  rw [z2, z1']
                  exact .str i t
              refine ⟨⟨[] ++ as, .cons qk q1, by simpa using n1⟩, cs ++ bs, ?_, by simp [n2, n3]⟩
              rw [List.map_cons, List.map_cons]
              refine .cons ?_ q2
              rw [hval]
              exact q3
theorem see_reads (I : Inv X pins σ H s) (hb : ∃ o, X.base.get? sysModules = some o) (sS : RepS X.K α H μ) : ∀ (n : Nat) d p v u, see μ n d = some p → Rep X.K α H d v → RelV v u → ∃ as, Reads s.heap u p as ∧ sysModules ∉ as
  | 0, d, p, v, u, h, _, _ => by cases h
  | n + 1, d, p, v, u, h, r, w => by
    have ih := see_reads I hb sS n
    cases d with
    | non =>
      cases h
      cases (show v = .non from r)
      cases (show u = Value.none from w)
      exact ⟨[], .none, by simp⟩
    | bl b =>
      cases h
      cases (show v = .bl b from r)
      cases (show u = Value.bool b from w)
      exact ⟨[], .bool b, by simp⟩
    | int i =>
      cases h
      cases (show v = .int i from r)
      obtain ⟨t, e⟩ := (show ∃ t, u = Value.int i t from w)
      cases e
      exact ⟨[], .int i t, by simp⟩
    | str i =>
      cases h
      cases (show v = .str i from r)
      obtain ⟨t, e⟩ := (show ∃ t, u = Value.str i t from w)
      cases e
      exact ⟨[], .str i t, by simp⟩
    | tup ds =>
      obtain ⟨p1, vs, e, t, r2⟩ := r
      subst e
      cases (show u = Value.ref p1 from w)
      have h' : (seeL (see μ n) ds).map PyData.tuple = some p := h
      cases e1 : seeL (see μ n) ds with
      | none => rw [e1] at h'; cases h'
      | some ps =>
        rw [e1] at h'
        cases h'
        obtain ⟨its, rv, ht, _⟩ := I.tuple t
        obtain ⟨o, h1, h2, m, h3⟩ := ht
        obtain ⟨as, q1, n1⟩ := seeL_reads ih ds ps vs its e1 r2 rv
        exact ⟨as, .tuple h1 h2 h3 (by simpa using q1), n1⟩
    | fro ds => cases h
    | ref l =>
      obtain ⟨p1, e, a⟩ := r
      subst e
      cases (show u = Value.ref p1 from w)
      obtain ⟨o, h1, h2⟩ := sS.there a
      cases o with
      | lst ds =>
        obtain ⟨vs, hp, r2⟩ := h2
        have h' : (seeL (see μ n) ds).map PyData.list = some p := by
          unfold see at h
          rw [h1] at h
          exact h
        cases e1 : seeL (see μ n) ds with
        | none => rw [e1] at h'; cases h'
        | some ps =>
          rw [e1] at h'
          cases h'
          obtain ⟨_, its, m, rv, e3⟩ := (show ObjOk X.prog X.w H s.heap p1 (.lst vs) from I.hok p1 _ hp)
          obtain ⟨as, q1, n1⟩ := seeL_reads ih ds ps vs its e1 r2 rv
          exact ⟨p1 :: as, .list e3 rfl rfl (by simpa using q1), by
            have := no_sys I hb hp
            simp [n1, Ne.symm this]⟩
      | dct ks =>
        obtain ⟨ws, hp, r2⟩ := h2
        have h' : (seeK (see μ n) ks).map PyData.dict = some p := by
          unfold see at h
          rw [h1] at h
          exact h
        cases e1 : seeK (see μ n) ks with
        | none => rw [e1] at h'; cases h'
        | some ps =>
          rw [e1] at h'
          cases h'
          obtain ⟨_, _, vs, rv, o, es, ep, e3, e4, e5, _, P, _⟩ := (show ObjOk X.prog X.w H s.heap p1 (.dK ws) from I.hok p1 _ hp)
          obtain ⟨⟨as, q1, n1⟩, bs, q2, n2⟩ := seeK_reads (knd := mixKind X.prog X.w) (fun _ _ => rfl) ih es.toList ks ps ws vs e1 r2 rv P
          exact ⟨p1 :: as ++ bs, .dict e3 e4.1 e5 (by simpa using q1) (by simpa using q2), by
            have := no_sys I hb hp
            simp [n1, n2, Ne.symm this]⟩
end
/-- == of any data without dicts -/
def eqvD (neg : Bool) (d e : D) : M D := fun μ => match see μ 65 d, see μ 65 e with
  | some a, some b => if SeqAt.shaped a = true ∧ SeqAt.shaped b = true then some (.ok (.bl (if neg then !PyData.eqv a b else PyData.eqv a b)), μ) else none
  | _, _ => none
def rEqS (X : Cx) (neg : Bool) : R2 := fun x y H Q => ∃ α μ d e, RepS X.K α H μ ∧ Rep X.K α H d x ∧ Rep X.K α H e y ∧ ∃ a b, see μ 65 d = some a ∧ see μ 65 e = some b ∧ SeqAt.shaped a = true ∧ SeqAt.shaped b = true ∧ Q (.bl (if neg then !PyData.eqv a b else PyData.eqv a b)) H
theorem op_eqS {X : Cx} (h : Here X) : OpR X (compareOp .Eq) (rEqS X false) := by
  intro pins s σ H x y v u Q I rx ry h'
  obtain ⟨α, μ, d, e, sS, r1, r2, a, b, e1, e2, s1, s2, q⟩ := h'
  obtain ⟨as, q1, _⟩ := see_reads I h.sys sS 65 d a x v e1 r1 rx
  obtain ⟨bs, q2, _⟩ := see_reads I h.sys sS 65 e b y u e2 r2 ry
  exact SeqAt.compareEq_shaped q1 q2 s1 s2 h.room.units ⟨.bl _, H, I, rfl, q⟩
theorem op_neS {X : Cx} (h : Here X) : OpR X (compareOp .NotEq) (rEqS X true) := by
  intro pins s σ H x y v u Q I rx ry h'
  obtain ⟨α, μ, d, e, sS, r1, r2, a, b, e1, e2, s1, s2, q⟩ := h'
  obtain ⟨as, q1, _⟩ := see_reads I h.sys sS 65 d a x v e1 r1 rx
  obtain ⟨bs, q2, _⟩ := see_reads I h.sys sS 65 e b y u e2 r2 ry
  exact SeqAt.compareNe_shaped q1 q2 s1 s2 h.room.units ⟨.bl _, H, I, rfl, q⟩
def eqD : D → D → M D
  | .int i, .int j => M.ret (.bl (decide (i = j)))
  | .str i, .str j => M.ret (.bl (decide (i = j)))
  | .bl i, .bl j => M.ret (.bl (decide (i = j)))
  | d, e => eqvD false d e
def neD : D → D → M D
  | .int i, .int j => M.ret (.bl (!decide (i = j)))
  | .str i, .str j => M.ret (.bl (!decide (i = j)))
  | .bl i, .bl j => M.ret (.bl (!decide (i = j)))
  | d, e => eqvD true d e
theorem eqv_run {X : Cx} {neg : Bool} {mg : Str → Option Value} {E : XK} {α : List Addr} {H : Hp} {μ μ' : List O} {d1 d2 : D} {x y : V} {q : Except Ex D} {Q : VK} (s : RepS X.K α H μ) (r1 : Rep X.K α H d1 x) (r2 : Rep X.K α H d2 y)
    (run : eqvD neg d1 d2 μ = some (q, μ')) (aft : Aft (Rep X.K) X.K mg E α H q μ' Q) : rEqS X neg x y H Q := by
  unfold eqvD at run
  cases e1 : see μ 65 d1 with
  | none => rw [e1] at run; cases run
  | some a =>
    cases e2 : see μ 65 d2 with
    | none => rw [e1, e2] at run; cases run
    | some b =>
      rw [e1, e2] at run
      dsimp only at run
      split at run
      · rename_i hs
        exact ⟨α, μ, d1, d2, s, r1, r2, a, b, e1, e2, hs.1, hs.2, rd_ret s run aft rfl⟩
      · cases run
theorem ok_eq : OkCmp .Eq eqD := by
  intro X hx
  refine ⟨_, OpR.or op_eq (op_eqS hx), ?_⟩
  intro mg E α H μ μ' d1 d2 x y q Q s r1 r2 run aft
  unfold eqD at run
  split at run
  · cases (show x = .int _ from r1); cases (show y = .int _ from r2)
    exact .inl ⟨rfl, rd_ret s run aft (by show V.bl _ = V.bl _; simp)⟩
  · cases (show x = .str _ from r1); cases (show y = .str _ from r2)
    exact .inl ⟨rfl, rd_ret s run aft (by show V.bl _ = V.bl _; simp)⟩
  · cases (show x = .bl _ from r1); cases (show y = .bl _ from r2)
    exact .inl ⟨rfl, rd_ret s run aft (by show V.bl _ = V.bl _; simp)⟩
  · exact .inr (eqv_run s r1 r2 run aft)
theorem ok_ne : OkCmp .NotEq neD := by
  intro X hx
  refine ⟨_, OpR.or op_ne (op_neS hx), ?_⟩
  intro mg E α H μ μ' d1 d2 x y q Q s r1 r2 run aft
  unfold neD at run
  split at run
  · cases (show x = .int _ from r1); cases (show y = .int _ from r2)
    exact .inl ⟨rfl, rd_ret s run aft (by show V.bl _ = V.bl _; simp)⟩
  · cases (show x = .str _ from r1); cases (show y = .str _ from r2)
    exact .inl ⟨rfl, rd_ret s run aft (by show V.bl _ = V.bl _; simp)⟩
  · cases (show x = .bl _ from r1); cases (show y = .bl _ from r2)
    exact .inl ⟨rfl, rd_ret s run aft (by show V.bl _ = V.bl _; simp)⟩
  · exact .inr (eqv_run s r1 r2 run aft)

/-! ### subscripts, slices -/
def plainIx : Expr → Bool
  | .Slice _ _ _ _ => false
  | _ => true
theorem plainIx_eq {b : Expr} (h : plainIx b = true) : PlainIx b := by
  intro o i
  cases b <;> first | rfl | cases h
def atD (ds : List D) (i : Int) : M D := match atI ds i with
  | some d => M.ret d
  | none => M.stop
def ixD : D → D → M D
  | .tup ds, .int i => atD ds i
  | .fro ds, .int i => atD ds i
  | .ref l, .int i => M.bnd (M.lst l) fun ds => atD ds i
  | .str z, .int i => if z.length ≤ sizeLine then match atI z.cps.toList i with
      | some c => M.ret (.str ⟨#[c]⟩)
      | none => M.stop
    else M.stop
  | _, _ => M.stop
theorem Reps.atI {K : PySem.W.Frag} {α : List Addr} {H : Hp} {ds : List D} {vs : List V} {i : Int} {d : D} (r : Reps K α H ds vs) (h : L2.atI ds i = some d) : ∃ v, L2.atI vs i = some v ∧ Rep K α H d v := by
  unfold L2.atI at h ⊢
  rw [r.len]
  cases e : ixN ds.length i with
  | none => rw [e] at h; cases h
  | some j =>
    rw [e] at h
    exact r.get h
theorem atD_run {K : PySem.W.Frag} {mg : Str → Option Value} {E : XK} {α : List Addr} {H : Hp} {μ μ' : List O} {ds : List D} {vs : List V} {i : Int} {q : Except Ex D} {Q : VK} (s : RepS K α H μ) (r : Reps K α H ds vs)
    (run : atD ds i μ = some (q, μ')) (aft : Aft (Rep K) K mg E α H q μ' Q) : ∃ v, L2.atI vs i = some v ∧ Q v H := by
  unfold atD at run
  cases e : L2.atI ds i with
  | none => rw [e] at run; cases run
  | some d =>
    rw [e] at run
    obtain ⟨v, h1, h2⟩ := r.atI e
    exact ⟨v, h1, rd_ret s run aft h2⟩
theorem ix_ok {X : Cx} : OpD X.K (rIx X.K) ixD := by
  intro mg E α H μ μ' d1 d2 x y q Q s r1 r2 run aft
  unfold ixD at run
  split at run
  · obtain ⟨p, vs, e, t, w⟩ := r1
    obtain ⟨v, h1, h2⟩ := atD_run s w run aft
    exact .inr (.inl ⟨p, vs, _, v, e, r2, t, h1, h2⟩)
  · obtain ⟨p, vs, e, t, w⟩ := r1
    obtain ⟨v, h1, h2⟩ := atD_run s w run aft
    exact .inl ⟨p, vs, _, v, e, r2, t.sq, h1, h2⟩
  · obtain ⟨xs, h1, run⟩ := bnd_lst run
    obtain ⟨p1, v1, e1, a1, b1, c1⟩ := lst_at s r1 h1
    obtain ⟨v, h1, h2⟩ := atD_run s c1 run aft
    exact .inl ⟨p1, v1, _, v, e1, r2, SqL.of b1, h1, h2⟩
  · split at run
    · rename_i hz
      rename_i z i
      cases e : L2.atI z.cps.toList i with
      | none => rw [e] at run; cases run
      | some c =>
        rw [e] at run
        exact .inr (.inr ⟨z, i, c, r1, r2, hz, e, rd_ret s run aft rfl⟩)
    · cases run
  · cases run
section
variable {Kn : Kno} {k : Nat}
def cIx (a b : CE) : CE := ⟨fun ρ => M.bnd (a.run ρ) fun x => M.bnd (b.run ρ) fun y => ixD x y, fun I e => match e with
  | .Subscript l r _ => plainIx r && (a.chk I l && b.chk I r)
  | _ => false⟩
theorem g_ix {a b : CE} (ha : GE Kn k a) (hb : GE Kn k b) : GE Kn k (cIx a b) := by
  intro X W cb bs e h
  dsimp only [cIx] at h
  split at h
  · simp only [Bool.and_eq_true] at h
    exact PE.imp (pe_ix ix_seq (ha X W cb bs _ h.2.1) (hb X W cb bs _ h.2.2) (plainIx_eq h.1)) (two ix_ok)
  · cases h
/-- a part of a slice -/
structure CO where
  run : Env → M (Option Int)
  chk : Inf → Option Expr → Bool
def GO (Kn : Kno) (k : Nat) (c : CO) : Prop := ∀ X W b, Bas Kn k b X W → ∀ e, c.chk ⟨X.N, X.env.scope, b⟩ e = true → PO X e (rd (fun _ _ (x y : Option Int) => x = y) X.K X.mg W c.run)
def oNo : CO := ⟨fun _ => M.ret none, fun _ e => e.isNone⟩
def asI : D → M (Option Int)
  | .int i => M.ret (some i)
  | _ => M.stop
def oYes (a : CE) : CO := ⟨fun ρ => M.bnd (a.run ρ) asI, fun I e => match e with
  | some x => a.chk I x
  | none => false⟩
theorem g_ono : GO Kn k oNo := by
  intro X W cb bs e h
  cases e with
  | some _ => cases h
  | none => exact PO.imp po_none fun σ H Q ⟨α, ρ, μ, r, μ', g, run, aft⟩ => rd_ret g.s run aft rfl
theorem g_oyes {a : CE} (ha : GE Kn k a) : GO Kn k (oYes a) := by
  intro X W cb bs e h
  cases e with
  | none => cases h
  | some x =>
    refine PO.imp (po_some (ha X W cb bs x h)) ?_
    rintro σ H Q ⟨α, ρ, μ, q, μ', g, run, aft⟩
    refine rd_seq g run aft fun d v α1 H1 μ1 g1 k1 r1 run1 aft1 => ?_
    cases d with
    | int i => exact ⟨i, r1, rd_ret g1.s run1 aft1 rfl⟩
    | _ => cases run1
def cutD {a : Type} (xs : List a) (lo hi : Option Int) : List a := (xs.drop (HT.sIx xs.length 0 lo)).take (HT.sIx xs.length xs.length hi - HT.sIx xs.length 0 lo)
theorem cutD_len {a : Type} (xs : List a) (lo hi : Option Int) : (cutD xs lo hi).length ≤ xs.length := by
  unfold cutD
  rw [List.length_take, List.length_drop]
  omega
theorem Reps.cut {K : PySem.W.Frag} {α : List Addr} {H : Hp} {ds : List D} {vs : List V} (r : Reps K α H ds vs) (lo hi : Option Int) : Reps K α H (cutD ds lo hi) (cutV vs lo hi) := by
  unfold cutD cutV
  rw [r.len]
  exact (r.drop _).take _
def slD (d : D) (lo hi : Option Int) : M D := match d with
  | .tup ds => M.ret (.tup (cutD ds lo hi))
  | .fro ds => M.new (.lst (cutD ds lo hi))
  | .ref l => M.bnd (M.lst l) fun ds => M.new (.lst (cutD ds lo hi))
  | .str z => if z.length ≤ sizeLine then M.ret (.str (cutS z lo hi)) else M.stop
  | _ => M.stop
theorem cut_whole {a : Type} {xs : List a} {lo hi : Option Int} (h : HT.sIx xs.length 0 lo = 0 ∧ HT.sIx xs.length xs.length hi = xs.length) : cutD xs lo hi = xs := by
  unfold cutD
  rw [h.1, h.2, List.drop_zero, Nat.sub_zero, List.take_length]
def cSlice (a : CE) (lo hi : CO) : CE := ⟨fun ρ => M.bnd (a.run ρ) fun x => M.bnd (lo.run ρ) fun l => M.bnd (hi.run ρ) fun h => slD x l h, fun I e => match e with
  | .Subscript b (.Slice l h none _) _ => a.chk I b && (lo.chk I l && hi.chk I h)
  | _ => false⟩
theorem g_slice {a : CE} {lo hi : CO} (ha : GE Kn k a) (hl : GO Kn k lo) (hh : GO Kn k hi) : GE Kn k (cSlice a lo hi) := by
  intro X W cb bs e h
  dsimp only [cSlice] at h
  split at h
  · simp only [Bool.and_eq_true] at h
    refine PE.imp (pe_slice (SlR.or sl_list (SlR.or sl_tupA sl_str)) (ha X W cb bs _ h.1) (hl X W cb bs _ h.2.1) (hh X W cb bs _ h.2.2)) ?_
    rintro σ H Q ⟨α, ρ, μ, q, μ', g, run, aft⟩
    refine rd_seq g run aft fun d v α1 H1 μ1 g1 k1 r1 run1 aft1 => ?_
    refine rd_seq g1 run1 aft1 fun l l2 α2 H2 μ2 g2 k2 r2 run2 aft2 => ?_
    refine rd_seq g2 run2 aft2 fun u u2 α3 H3 μ3 g3 k3 r3 run3 aft3 => ?_
    subst r2 r3
    have r4 := r1.up (k2.trans k3)
    unfold slD at run3
    split at run3
    · obtain ⟨p, vs, e, t, w⟩ := r4
      refine .inr (.inl ⟨p, vs, e, t, fun z => ?_, fun z p' hp => new_tup g3.s run3 aft3 (w.cut _ _) hp⟩)
      rw [w.len] at z
      have z' := cut_whole z
      rw [z'] at run3
      exact rd_ret g3.s run3 aft3 ⟨p, vs, rfl, t, w⟩
    · obtain ⟨p, vs, e, t, w⟩ := r4
      exact .inl ⟨p, vs, e, t.sq, fun p' hp => new_lst g3.s run3 aft3 (w.cut _ _) hp⟩
    · obtain ⟨xs, h1, run3⟩ := bnd_lst run3
      obtain ⟨p1, v1, e1, a1, b1, c1⟩ := lst_at g3.s r4 h1
      exact .inl ⟨p1, v1, e1, SqL.of b1, fun p' hp => new_lst g3.s run3 aft3 (c1.cut _ _) hp⟩
    · split at run3
      · rename_i hz
        exact .inr (.inr ⟨_, r4, hz, rd_ret g3.s run3 aft3 rfl⟩)
      · cases run3
    · cases run3
  · cases h
end

/-! ### calls of what is built in -/
def CallD (K : PySem.W.Frag) (r : List V → Hp → VK → Prop) (f : List D → M D) : Prop := ∀ (mg : Str → Option Value) (E : XK) (α : List Addr) (H : Hp) (μ μ' : List O) (ds : List D) (xs : List V) (q : Except Ex D) (Q : VK),
  RepS K α H μ → Reps K α H ds xs → f ds μ = some (q, μ') → Aft (Rep K) K mg E α H q μ' Q → r xs H Q
def OkCall (v : Value) (f : List D → M D) : Prop := ∀ X : Cx, Here X → ∃ r, CallR X v r ∧ CallD X.K r f
/-- the module doesn't hide it -/
def Bare (Kn : Kno) (x : Str) : Prop := ∀ P w K mg base, Kn P w K mg base → mg x = none
section
variable {Kn : Kno} {k : Nat}
theorem called {K : PySem.W.Frag} {mg : Str → Option Value} {W : WX} {ra : Env → M (List D)} {f : List D → M D} {r : List V → Hp → VK → Prop} (ho : CallD K r f) : ∀ σ H Q, rdE K mg W (fun ρ => M.bnd (ra ρ) f) σ H Q → tCB r (rdA K mg W ra) σ H Q := by
  rintro σ H Q ⟨α, ρ, μ, q, μ', g, run, aft⟩
  refine rd_seq g run aft fun d v α1 H1 μ1 g1 k1 r1 run1 aft1 => ?_
  exact ho mg _ α1 H1 μ1 μ' d v q Q g1.s r1 run1 aft1
def cB (x : Str) (f : List D → M D) (a : CA) : CE := ⟨fun ρ => M.bnd (a.run ρ) f, fun I e => match e with
  | .Call (.Name y _) (e1 :: es) [] _ => decide (y = x) && (glo I.sc y && ((e1 :: es).all noStar && a.chk I (e1 :: es)))
  | _ => false⟩
theorem g_B {x : Str} {id : String} {f : List D → M D} {a : CA} (ho : OkCall (.builtin id) f) (hb : Bare Kn x) (hv : bootBuiltins x = some (.builtin id)) (hn : x ≠ "__name__") (hd : (x == ("__debug__" : Str)) = false) (ha : GA Kn k a) : GE Kn k (cB x f a) := by
  intro X W cb bs e h
  dsimp only [cB] at h
  split at h
  · simp only [Bool.and_eq_true, decide_eq_true_eq, glo, List.all_cons] at h
    obtain ⟨h1, h2, ⟨h3, h4⟩, h5⟩ := h
    subst h1
    obtain ⟨r, c1, c2⟩ := ho X bs.here
    exact PE.imp (pe_callB c1 h2 (hb _ _ _ _ _ bs.kn) hv (ha X W cb bs _ h5) hn hd (star_cons h3) (star_any h4)) (called c2)
  · cases h
theorem g_Ty {x : Str} {T : String} {f : List D → M D} {a : CA} (ho : OkCall (.type T) f) (hb : Bare Kn x) (hv : bootBuiltins x = some (.type T)) (hn : x ≠ "__name__") (hd : (x == ("__debug__" : Str)) = false) (ha : GA Kn k a) : GE Kn k (cB x f a) := by
  intro X W cb bs e h
  dsimp only [cB] at h
  split at h
  · simp only [Bool.and_eq_true, decide_eq_true_eq, glo, List.all_cons] at h
    obtain ⟨h1, h2, ⟨h3, h4⟩, h5⟩ := h
    subst h1
    obtain ⟨r, c1, c2⟩ := ho X bs.here
    exact PE.imp (pe_callTy c1 h2 (hb _ _ _ _ _ bs.kn) hv (ha X W cb bs _ h5) hn hd (star_cons h3) (star_any h4)) (called c2)
  · cases h
end
def lenD : List D → M D
  | [.tup ds] => M.ret (.int ds.length)
  | [.fro ds] => M.ret (.int ds.length)
  | [.ref l] => M.bnd (M.lst l) fun ds => M.ret (.int ds.length)
  | [.str z] => if z.length ≤ sizeLine then M.ret (.int z.length) else M.stop
  | _ => M.stop
theorem ok_len : OkCall (.builtin "len") lenD := by
  intro X _
  refine ⟨_, CallR.or call_len_seq call_len_str, ?_⟩
  intro mg E α H μ μ' ds xs q Q s r run aft
  unfold lenD at run
  split at run
  · obtain ⟨v, vr, e, r1, r2⟩ := r
    cases (show vr = [] from r2)
    obtain ⟨p, vs, e1, t, w⟩ := r1
    subst e e1
    exact .inl ⟨p, vs, rfl, .inr t, by rw [w.len]; exact rd_ret s run aft rfl⟩
  · obtain ⟨v, vr, e, r1, r2⟩ := r
    cases (show vr = [] from r2)
    obtain ⟨p, vs, e1, t, w⟩ := r1
    subst e e1
    exact .inl ⟨p, vs, rfl, .inl t.sq, by rw [w.len]; exact rd_ret s run aft rfl⟩
  · obtain ⟨v, vr, e, r1, r2⟩ := r
    cases (show vr = [] from r2)
    subst e
    obtain ⟨xs, h1, run⟩ := bnd_lst run
    obtain ⟨p1, v1, e1, a1, b1, c1⟩ := lst_at s r1 h1
    subst e1
    exact .inl ⟨p1, v1, rfl, .inl (SqL.of b1), by rw [c1.len]; exact rd_ret s run aft rfl⟩
  · split at run
    · rename_i hz
      obtain ⟨v, vr, e, r1, r2⟩ := r
      cases (show vr = [] from r2)
      subst e
      cases (show v = .str _ from r1)
      exact .inr ⟨_, rfl, hz, rd_ret s run aft rfl⟩
    · cases run
  · cases run
def absD : List D → M D
  | [.int i] => M.ret (.int (if i < 0 then -i else i))
  | _ => M.stop
theorem ok_abs : OkCall (.builtin "abs") absD := by
  intro X _
  refine ⟨_, call_abs, ?_⟩
  intro mg E α H μ μ' ds xs q Q s r run aft
  unfold absD at run
  split at run
  · obtain ⟨v, vr, e, r1, r2⟩ := r
    cases (show vr = [] from r2)
    cases (show v = .int _ from r1)
    exact ⟨_, e, rd_ret s run aft rfl⟩
  · cases run
def intOf : List D → M D
  | [.int i] => M.ret (.int i)
  | [.bl b] => M.ret (.int (if b then 1 else 0))
  | _ => M.stop
theorem ok_int : OkCall (.type "int") intOf := by
  intro X _
  refine ⟨_, call_int1, ?_⟩
  intro mg E α H μ μ' ds xs q Q s r run aft
  unfold intOf at run
  split at run
  · obtain ⟨v, vr, e, r1, r2⟩ := r
    cases (show vr = [] from r2)
    cases (show v = .int _ from r1)
    exact .inl ⟨_, e, rd_ret s run aft rfl⟩
  · obtain ⟨v, vr, e, r1, r2⟩ := r
    cases (show vr = [] from r2)
    cases (show v = .bl _ from r1)
    exact .inr ⟨_, e, rd_ret s run aft rfl⟩
  · cases run
def strD : List D → M D
  | [.int i] => if i.natAbs.log2 < 1920 then M.ret (.str (toString i)) else M.stop
  | _ => M.stop
theorem ok_str : OkCall (.type "str") strD := by
  intro X _
  refine ⟨_, call_str_int, ?_⟩
  intro mg E α H μ μ' ds xs q Q s r run aft
  unfold strD at run
  split at run
  · split at run
    · rename_i hz
      obtain ⟨v, vr, e, r1, r2⟩ := r
      cases (show vr = [] from r2)
      cases (show v = .int _ from r1)
      exact ⟨_, e, hz, rd_ret s run aft rfl⟩
    · cases run
  · cases run
def listD : List D → M D
  | [.tup ds] => M.new (.lst ds)
  | [.fro ds] => M.new (.lst ds)
  | [.ref l] => M.bnd (M.lst l) fun ds => M.new (.lst ds)
  | _ => M.stop
theorem ok_list : OkCall (.type "list") listD := by
  intro X _
  refine ⟨_, call_list_of, ?_⟩
  intro mg E α H μ μ' ds xs q Q s r run aft
  unfold listD at run
  split at run
  · obtain ⟨v, vr, e, r1, r2⟩ := r
    cases (show vr = [] from r2)
    obtain ⟨p, vs, e1, t, w⟩ := r1
    subst e e1
    exact ⟨p, vs, rfl, .inr t, fun l hl => new_lst s run aft w hl⟩
  · obtain ⟨v, vr, e, r1, r2⟩ := r
    cases (show vr = [] from r2)
    obtain ⟨p, vs, e1, t, w⟩ := r1
    subst e e1
    exact ⟨p, vs, rfl, .inl t.sq, fun l hl => new_lst s run aft w hl⟩
  · obtain ⟨v, vr, e, r1, r2⟩ := r
    cases (show vr = [] from r2)
    subst e
    obtain ⟨xs, h1, run⟩ := bnd_lst run
    obtain ⟨p1, v1, e1, a1, b1, c1⟩ := lst_at s r1 h1
    subst e1
    exact ⟨p1, v1, rfl, .inl (SqL.of b1), fun l hl => new_lst s run aft c1 hl⟩
  · cases run
def tupleD : List D → M D
  | [.tup ds] => M.ret (.tup ds)
  | [.fro ds] => M.ret (.tup ds)
  | [.ref l] => M.bnd (M.lst l) fun ds => M.ret (.tup ds)
  | _ => M.stop
theorem ok_tuple : OkCall (.type "tuple") tupleD := by
  intro X _
  refine ⟨_, call_tuple_of, ?_⟩
  intro mg E α H μ μ' ds xs q Q s r run aft
  unfold tupleD at run
  split at run
  · obtain ⟨v, vr, e, r1, r2⟩ := r
    cases (show vr = [] from r2)
    obtain ⟨p, vs, e1, t, w⟩ := r1
    subst e e1
    exact ⟨p, vs, rfl, .inr ⟨t, rd_ret s run aft ⟨p, vs, rfl, t, w⟩⟩⟩
  · obtain ⟨v, vr, e, r1, r2⟩ := r
    cases (show vr = [] from r2)
    obtain ⟨p, vs, e1, t, w⟩ := r1
    subst e e1
    exact ⟨p, vs, rfl, .inl ⟨t.sq, fun l hl => new_tup s run aft w hl⟩⟩
  · obtain ⟨v, vr, e, r1, r2⟩ := r
    cases (show vr = [] from r2)
    subst e
    obtain ⟨xs, h1, run⟩ := bnd_lst run
    obtain ⟨p1, v1, e1, a1, b1, c1⟩ := lst_at s r1 h1
    subst e1
    exact ⟨p1, v1, rfl, .inl ⟨SqL.of b1, fun l hl => new_tup s run aft c1 hl⟩⟩
  · cases run
/-- repr of anything -/
def reprOk (a : PyData) : Bool := a.showable && (decide (a.shown.length ≤ sizeLine) && decide (a.depth ≤ 60))
def reprD1 (d : D) : M D := fun μ => match see μ 62 d with
  | some a => if reprOk a = true then some (.ok (.str a.shown), μ) else none
  | none => none
def reprD : List D → M D
  | [d] => reprD1 d
  | _ => M.stop
def rRepr (X : Cx) : List V → Hp → VK → Prop := fun xs H Q => ∃ α μ d x a, xs = [x] ∧ RepS X.K α H μ ∧ Rep X.K α H d x ∧ see μ 62 d = some a ∧ reprOk a = true ∧ Q (.str a.shown) H
theorem call_repr {X : Cx} (h : Here X) : CallR X (.builtin "repr") (rRepr X) := by
  intro pins s σ H xs us Q I r h'
  obtain ⟨α, μ, d, x, a, rfl, sS, rd, e, ok, q⟩ := h'
  obtain ⟨u, rfl, r1⟩ := vals1 r
  obtain ⟨as, q1, n1⟩ := see_reads I h.sys sS 62 d a x u e rd r1
  unfold reprOk at ok
  simp only [Bool.and_eq_true, decide_eq_true_eq] at ok
  obtain ⟨k1, k2, k3⟩ := ok
  have fin : ∀ h' (u' : Tok) tk, (∀ b o, s.heap.get? b = some o → h'.get? b = some o) → EP X pins σ Q (.str a.shown u') { s with heap := h', toks := tk } := fun h' u' tk kk => ⟨.str a.shown, H, I.kept (t' := tk) kk, ⟨u', rfl⟩, q⟩
  have hun := h.room.units
  have hs0 : ∀ b o, s.heap.get? b = some o → s.heap.get? b = some o := fun _ _ z => z
  cases u with
  | ref p => exact repr_of_reads' q1 k1 (fun _ => n1) h.grd (by omega) hs0 fin k2
  | none => cases q1; exact PySem.P.repr_of_none (fin s.heap _ _ hs0)
  | bool b => cases q1; exact PySem.P.repr_of_bool (fin s.heap _ _ hs0)
  | int i t => cases q1; exact PySem.P.repr_of_int (by simpa [PyData.showable] using k1) (fin s.heap _ _ hs0)
  | str y t => cases q1; exact PySem.P.repr_of_str (fin s.heap _ _ hs0) k2
  | _ => cases q1
theorem ok_repr : OkCall (.builtin "repr") reprD := by
  intro X hx
  refine ⟨_, call_repr hx, ?_⟩
  intro mg E α H μ μ' ds xs q Q s r run aft
  unfold reprD at run
  split at run
  · rename_i d
    obtain ⟨v, vr, e, r1, r2⟩ := r
    cases (show vr = [] from r2)
    unfold reprD1 at run
    cases e1 : see μ 62 d with
    | none => rw [e1] at run; cases run
    | some a =>
      rw [e1] at run
      dsimp only at run
      split at run
      · rename_i ho
        exact ⟨α, μ, d, v, a, e, s, r1, e1, ho, rd_ret s run aft rfl⟩
      · cases run
  · cases run
end Mi
/-! Mi, part D: calls of defs, isinstance, displays of dicts, targets, statements, loops, a def by its code. -/
namespace Mi
open PySem L2 PyProof.Rows

/-! ### a def of the module, called -/
/-- m takes n values -/
def Takes' (m : List D → M D) (n : Nat) : Prop := ∀ ds μ r, m ds μ = some r → ds.length = n
/-- x is a def of the module with the parameters ps, worth m, by k levels -/
def Knw (Kn : Kno) (x : Str) (ps : List Str) (m : List D → M D) (k : Nat) : Prop := ∀ P w K mg base, Kn P w K mg base →
  ∃ f fd, FnG P w K mg base k f fd ps (spOf K mg m) ∧ mg x = some (.ref f) ∧ PySem.W.keepIn K (.ref f) = true ∧ Binds K fd ps []
theorem pe_callG {X : Cx} {W : WX} {k : Nat} {f : Addr} {fd : FuncData} {ps : List Str} {sp : Sp} {x : Str} {p pos : Pos} {e : Expr} {es : List Expr} {t : TA} (F : FnG X.prog X.w X.K X.mg X.base k f fd ps sp) (hr : Room k X.A) (hgd : X.A.guards = some [])
    (hg : Gl X x) (hm : X.mg x = some (.ref f)) (hk : PySem.W.keepIn X.K (.ref f) = true) (hb : Binds X.K fd ps []) (tk : Takes X W) (ha : PA X (e :: es) t) (hd : (x == ("__debug__" : Str)) = false) (h1 : noStar e = true) (h2 : es.all noStar = true) :
    PE X (.Call (.Name x p) (e :: es) [] pos) (fun σ H Q => t σ H fun vs H1 => sp vs H1 Q fun c d H' => W c d σ H') :=
  ⟨fun pins s σ H Q I h => wpAny_Call_Name_kw (ld_glob I hg hm (PySem.W.callWith_K (h₀ := X.base) I.ok.mod.kin hk (thn (ha.run pos pins s σ H _ I h) fun us s1 z =>
    match z with
    | ⟨vs, H1, I1, r, q⟩ => ⟨I1.kIn, runG F hr hgd hb tk I1 r q⟩) (star_cons h1) (star_any h2)) hd)⟩
theorem pe_callG0 {X : Cx} {W : WX} {k : Nat} {f : Addr} {fd : FuncData} {ps : List Str} {sp : Sp} {x : Str} {p pos : Pos} (F : FnG X.prog X.w X.K X.mg X.base k f fd ps sp) (hr : Room k X.A) (hgd : X.A.guards = some [])
    (hg : Gl X x) (hm : X.mg x = some (.ref f)) (hk : PySem.W.keepIn X.K (.ref f) = true) (hb : Binds X.K fd ps []) (tk : Takes X W) (hd : (x == ("__debug__" : Str)) = false) :
    PE X (.Call (.Name x p) [] [] pos) (fun σ H Q => sp [] H Q fun c d H' => W c d σ H') :=
  ⟨fun pins s σ H Q I h => wpAny_Call_Name_kw (ld_glob I hg hm (PySem.W.callWith_K0 I.kIn hk (runG (us := []) F hr hgd hb tk I .nil h)) hd)⟩
section
variable {Kn : Kno} {k : Nat}
def cCall (x : Str) (m : List D → M D) (a : CA) : CE := ⟨fun ρ => M.bnd (a.run ρ) m, fun I e => match e with
  | .Call (.Name y _) (e1 :: es) [] _ => decide (y = x) && (glo I.sc y && (unmarked y && ((e1 :: es).all noStar && a.chk I (e1 :: es))))
  | _ => false⟩
theorem g_call {x : Str} {ps : List Str} {m : List D → M D} {a : CA} (hm : Knw Kn x ps m k) (ha : GA Kn k a) : GE Kn k (cCall x m a) := by
  intro X W cb bs e h
  dsimp only [cCall] at h
  split at h
  · rename_i y p e1 es pos
    simp only [Bool.and_eq_true, decide_eq_true_eq, glo, List.all_cons] at h
    obtain ⟨h1, h2, h3, ⟨h4, h4'⟩, h5⟩ := h
    subst h1
    obtain ⟨f, fd, F, m1, m2, m3⟩ := hm _ _ _ _ _ bs.kn
    refine PE.imp (pe_callG F bs.room bs.grd h2 m1 m2 m3 bs.tk (ha X W cb bs _ h5) (unmarked1 h3) h4 h4') ?_
    rintro σ H Q ⟨α, ρ, μ, q, μ', g, run, aft⟩
    refine rd_seq g run aft fun d v α1 H1 μ1 g1 k1 w1 run1 aft1 => ?_
    exact ⟨α1, μ1, d, q, μ', g1.s, w1, run1, aft1⟩
  · cases h
def cCall0 (x : Str) (m : List D → M D) : CE := ⟨fun _ => m [], fun I e => match e with
  | .Call (.Name y _) [] [] _ => decide (y = x) && (glo I.sc y && unmarked y)
  | _ => false⟩
theorem g_call0 {x : Str} {ps : List Str} {m : List D → M D} (hm : Knw Kn x ps m k) : GE Kn k (cCall0 x m) := by
  intro X W cb bs e h
  dsimp only [cCall0] at h
  split at h
  · simp only [Bool.and_eq_true, decide_eq_true_eq, glo] at h
    obtain ⟨h1, h2, h3⟩ := h
    subst h1
    obtain ⟨f, fd, F, m1, m2, m3⟩ := hm _ _ _ _ _ bs.kn
    refine PE.imp (pe_callG0 F bs.room bs.grd h2 m1 m2 m3 bs.tk (unmarked1 h3)) ?_
    rintro σ H Q ⟨α, ρ, μ, q, μ', g, run, aft⟩
    exact ⟨α, μ, [], q, μ', g.s, Reps.nil, run, aft⟩
  · cases h

/-! ### isinstance with one built-in class -/
def tyN (μ : List O) : D → Option String
  | .non => some "NoneType"
  | .bl _ => some "bool"
  | .int _ => some "int"
  | .str _ => some "str"
  | .tup _ => some "tuple"
  | .fro _ => some "list"
  | .ref l => match μ[l]? with
    | some (.lst _) => some "list"
    | some (.dct _) => some "dict"
    | none => none
def tyNames : List String := ["NoneType", "bool", "int", "str", "tuple", "list", "dict"]
def isSub (n T : String) : Bool := n == T || (n == "bool" && T == "int")
def isiD (T : String) (d : D) : M D := fun μ => match tyN μ d with
  | some n => some (.ok (.bl (isSub n T)), μ)
  | none => none
theorem tyN_mem {μ : List O} {d : D} {n : String} (h : tyN μ d = some n) : n ∈ tyNames := by
  unfold tyN at h
  split at h
  · cases h; decide
  · cases h; decide
  · cases h; decide
  · cases h; decide
  · cases h; decide
  · cases h; decide
  · split at h
    · cases h; decide
    · cases h; decide
    · cases h
theorem ty_rep {K : PySem.W.Frag} {α : List Addr} {H : Hp} {μ : List O} {d : D} {v : V} {n : String} (s : RepS K α H μ) (r : Rep K α H d v) (h : tyN μ d = some n) : TyX K H v (.type n) := by
  cases d with
  | non => cases h; cases (show v = .non from r); exact .base .non
  | bl b => cases h; cases (show v = .bl b from r); exact .base (.bl b)
  | int b => cases h; cases (show v = .int b from r); exact .base (.int b)
  | str b => cases h; cases (show v = .str b from r); exact .base (.str b)
  | tup ds =>
    cases h
    obtain ⟨p, vs, e, t, _⟩ := r
    subst e
    rcases t with (t | ⟨o, t⟩) | ⟨o, its, m, h1, h2, _⟩
    · exact .base (.tup t)
    · exact .fTuple t
    · exact .kTuple h1 h2
  | fro ds =>
    cases h
    obtain ⟨p, vs, e, t, _⟩ := r
    subst e
    rcases t with ⟨o, t⟩ | (t | ⟨o, t⟩) | ⟨o, its, m, h1, h2, _⟩
    · exact .base (.frz t)
    · cases t
    · cases t
    · exact .kList h1 h2
  | ref l =>
    obtain ⟨p, e, a⟩ := r
    subst e
    obtain ⟨o, h1, h2⟩ := s.there a
    dsimp only [tyN] at h
    rw [h1] at h
    cases o with
    | lst ds =>
      cases h
      obtain ⟨vs, hp, _⟩ := h2
      exact .base (.lst hp)
    | dct ds =>
      cases h
      obtain ⟨vs, hp, _⟩ := h2
      exact .base (.dK hp)
def cIsi (x : Str) (T : String) (a : CE) : CE := ⟨fun ρ => M.bnd (a.run ρ) (isiD T), fun I e => match e with
  | .Call (.Name y _) [e1, .Name z _] [] _ => decide (y = ("isinstance" : Str)) && (decide (z = x) && (glo I.sc y && (glo I.sc z && (noStar e1 && a.chk I e1))))
  | _ => false⟩
theorem g_isi {x : Str} {T : String} {a : CE} (hb : Bare Kn "isinstance") (hx : Bare Kn x) (hv : bootBuiltins x = some (.type T)) (hn : x ≠ "__name__") (hd : (x == ("__debug__" : Str)) = false)
    (ht : ∀ n ∈ tyNames, kitB n T = some (isSub n T)) (ha : GE Kn k a) : GE Kn k (cIsi x T a) := by
  intro X W cb bs e h
  dsimp only [cIsi] at h
  split at h
  · rename_i y p e1 z p2 pos
    simp only [Bool.and_eq_true, decide_eq_true_eq, glo] at h
    obtain ⟨h1, h2, h3, h4, h5, h6⟩ := h
    subst h1 h2
    have pz : PE X (.Name z p2) (tC (.ty T)) := pe_bltn (v := .ty T) h4 (hx _ _ _ _ _ bs.kn) hv rfl hn hd
    refine PE.imp (pe_callB call_isi h3 (hb _ _ _ _ _ bs.kn) (by decide +kernel) (pa_cons (ha X W cb bs _ h6) (pa_cons pz pa_nil) (star_cons h5)) (by decide) (by decide) (star_cons h5) rfl) ?_
    rintro σ H Q ⟨α, ρ, μ, q, μ', g, run, aft⟩
    refine rd_seq g run aft fun d v α1 H1 μ1 g1 k1 w1 run1 aft1 => ?_
    unfold isiD at run1
    cases e1 : tyN μ1 d with
    | none => rw [e1] at run1; cases run1
    | some n =>
      rw [e1] at run1
      exact ⟨v, .ty T, .type n, .type T, isSub n T, rfl, .ty T, ty_rep g1.s w1 e1, kit_ty (ht n (tyN_mem e1)), rd_ret g1.s run1 aft1 rfl⟩
  · cases h

/-! ### {k: v} -/
def keyD : D → Option Key
  | .int i => some (.inl i)
  | .str x => some (.inr x)
  | _ => none
/-- a dict's put -/
def putKD (kvs : List (Key × D)) (k : Key) (v : D) : List (Key × D) :=
  if (kvs.any fun kv => decide (kv.1 = k)) = true then kvs.map (fun kv => if kv.1 = k then (kv.1, v) else kv) else kvs ++ [(k, v)]
/-- {k: v}, one entry; the dict is there before its entry -/
def setEmpty (l : Nat) (kvs : List (Key × D)) : M D := fun μ => match μ[l]? with
  | some (.dct []) => some (.ok (.ref l), μ.set l (.dct kvs))
  | _ => none
def withNew (o : O) (f : Nat → M D) : M D := fun μ => f μ.length (μ ++ [o])
def cDict1 (a b : CE) : CE := ⟨fun ρ => withNew (.dct []) fun l => M.bnd (a.run ρ) fun x => M.bnd (b.run ρ) fun y => match keyD x with
    | some kk => setEmpty l [(kk, y)]
    | none => M.stop, fun I e => match e with
  | .Dict [some l] [r] _ => a.chk I l && b.chk I r
  | _ => false⟩
theorem key_rep {K : PySem.W.Frag} {α : List Addr} {H : Hp} {d : D} {v : V} {kk : Key} (r : Rep K α H d v) (h : keyD d = some kk) : v = kV kk := by
  cases d with
  | int i => cases h; exact r
  | str i => cases h; exact r
  | _ => cases h
theorem g_dict1 {a b : CE} (ha : GE Kn k a) (hb : GE Kn k b) : GE Kn k (cDict1 a b) := by
  intro X W cb bs e h
  dsimp only [cDict1] at h
  split at h
  · simp only [Bool.and_eq_true] at h
    refine PE.imp (pe_disp (pps_cons (ha X W cb bs _ h.1) (hb X W cb bs _ h.2) pps_nil) rfl rfl (fun z => by cases z) (by show 1 ≤ 15; decide)) ?_
    rintro σ H Q ⟨α, ρ, μ, q, μ', g, run, aft⟩ p hp
    have g0 : Cfg X.K (α ++ [p]) (upd H p (.dK [])) ρ σ (μ ++ [.dct []]) := ⟨g.s.push hp ⟨[], upd_same, rfl⟩, g.e.up (Ext.push hp)⟩
    have a0 : (α ++ [p])[μ.length]? = some p := by
      rw [← g.s.len, List.getElem?_append_right (Nat.le_refl _)]
      simp
    refine rd_seq g0 run (aft.up (Ext.push hp)) fun d v α1 H1 μ1 g1 k1 w1 run1 aft1 => ?_
    refine rd_seq g1 run1 aft1 fun d2 v2 α2 H2 μ2 g2 k2 w2 run2 aft2 => ?_
    have a2 := k2.pre _ _ (k1.pre _ _ a0)
    cases hk : keyD d with
    | none => rw [hk] at run2; cases run2
    | some kk =>
      rw [hk] at run2
      have ev := key_rep w1 hk
      obtain ⟨o, h1, h2⟩ := g2.s.there a2
      dsimp only [setEmpty] at run2
      rw [h1] at run2
      cases o with
      | lst ds => cases run2
      | dct ds =>
        cases ds with
        | cons _ _ => cases run2
        | nil =>
          cases run2
          obtain ⟨ws, hw, e⟩ := h2
          have e' : ws = [] := e
          subst e'
          refine ⟨hw, [(kk, v2)], by rw [ev]; rfl, by show 1 ≤ 15; decide, ?_⟩
          have x3 : Ext α2 H2 α2 (upd H2 p (.dK (mergeK [] [(kk, v2)]))) := Ext.put a2 hw fun z => z
          exact aft2 α2 _ _ x3 (g2.s.put a2 ⟨_, upd_same, v2, [], rfl, w2.up x3, rfl⟩) ⟨p, rfl, a2⟩
  · cases h
end
end Mi
/-! Mi, part E: targets, statements, loops, a def by its code. -/
namespace Mi
open PySem L2 PyProof.Rows

/-! ### statements -/
inductive SR where
  | nx (ρ : Env) | rt (d : D) | bk (ρ : Env) | ct (ρ : Env) | er (x : Ex) (ρ : Env)
abbrev Ms := List O → Option (SR × List O)
/-- an expression's run, then a statement's -/
def Ms.of {a : Type} (m : M a) (ρ : Env) (f : a → Ms) : Ms := fun μ => match m μ with
  | none => none
  | some (.error x, μ1) => some (.er x ρ, μ1)
  | some (.ok d, μ1) => f d μ1
def AftS (K : PySem.W.Frag) (mg : Str → Option Value) (W : WX) (α : List Addr) (H : Hp) (r : SR) (μ' : List O) (Dn : Ends) : Prop := match r with
  | .nx ρ => ∀ α' σ' H', Ext α H α' H' → RepS K α' H' μ' → RepE K α' H' ρ σ' → Dn.nx σ' H'
  | .bk ρ => ∀ α' σ' H', Ext α H α' H' → RepS K α' H' μ' → RepE K α' H' ρ σ' → Dn.bk σ' H'
  | .ct ρ => ∀ α' σ' H', Ext α H α' H' → RepS K α' H' μ' → RepE K α' H' ρ σ' → Dn.ct σ' H'
  | .rt d => ∀ α' v H', Ext α H α' H' → RepS K α' H' μ' → Rep K α' H' d v → Dn.rt v H'
  | .er x ρ => ∀ α' c dd σ' H', Ext α H α' H' → RepS K α' H' μ' → RepE K α' H' ρ σ' → RepX K mg α' H' x c dd → W c dd σ' H'
theorem AftS.up {K : PySem.W.Frag} {mg : Str → Option Value} {W : WX} {α α1 : List Addr} {H H1 : Hp} {r : SR} {μ' : List O} {Dn : Ends} (h : AftS K mg W α H r μ' Dn) (k : Ext α H α1 H1) : AftS K mg W α1 H1 r μ' Dn := by
  cases r with
  | nx ρ => exact fun α' σ' H' k' => h α' σ' H' (k.trans k')
  | bk ρ => exact fun α' σ' H' k' => h α' σ' H' (k.trans k')
  | ct ρ => exact fun α' σ' H' k' => h α' σ' H' (k.trans k')
  | rt d => exact fun α' v H' k' => h α' v H' (k.trans k')
  | er x ρ => exact fun α' c dd σ' H' k' => h α' c dd σ' H' (k.trans k')
def rdS (K : PySem.W.Frag) (mg : Str → Option Value) (W : WX) (m : Env → Ms) : TS := fun Dn σ H => ∃ α ρ μ r μ', Cfg K α H ρ σ μ ∧ m ρ μ = some (r, μ') ∧ AftS K mg W α H r μ' Dn
section
variable {c e : Type} {R1 : List Addr → Hp → c → e → Prop} {K : PySem.W.Frag} {mg : Str → Option Value} {W : WX} {α : List Addr} {H : Hp} {ρ : Env} {σ : L2.St} {μ μ' : List O} {r : SR} {Dn : Ends} {Q1 : e → Hp → Prop}
theorem rd_of {m1 : Env → M c} {f : c → Ms} (g : Cfg K α H ρ σ μ) (run : Ms.of (m1 ρ) ρ f μ = some (r, μ')) (aft : AftS K mg W α H r μ' Dn)
    (k : ∀ d v α1 H1 μ1, Cfg K α1 H1 ρ σ μ1 → Ext α H α1 H1 → R1 α1 H1 d v → f d μ1 = some (r, μ') → AftS K mg W α1 H1 r μ' Dn → Q1 v H1) : rd R1 K mg W m1 σ H Q1 := by
  unfold Ms.of at run
  cases h : m1 ρ μ with
  | none => rw [h] at run; cases run
  | some p =>
    obtain ⟨r1, μ1⟩ := p
    rw [h] at run
    cases r1 with
    | error x =>
      cases run
      exact ⟨α, ρ, μ, .error x, _, g, h, fun α' c dd H' k' s' x' => aft α' c dd σ H' k' s' (g.e.up k') x'⟩
    | ok d =>
      refine ⟨α, ρ, μ, .ok d, μ1, g, h, fun α1 v H1 k1 s1 r1 => ?_⟩
      exact k d v α1 H1 μ1 ⟨s1, g.e.up k1⟩ k1 r1 run (aft.up k1)
/-- a statement's end is next -/
theorem nx_ret {ρ' : Env} {σ' : L2.St} (s : RepS K α H μ) (run : some (SR.nx ρ', μ) = some (r, μ')) (aft : AftS K mg W α H r μ' Dn) (e : RepE K α H ρ' σ') : Dn.nx σ' H := by
  cases run
  exact aft α σ' H (Ext.refl α H) s e
end
structure CS where
  run : Env → Ms
  chk : Inf → Stmt → Bool
structure CB where
  run : Env → Ms
  chk : Inf → List Stmt → Bool
def GS (Kn : Kno) (k : Nat) (c : CS) : Prop := ∀ X W b, Bas Kn k b X W → PassesOwn (model X.prog X.w) X.A X.env X.xe → ∀ e, c.chk ⟨X.N, X.env.scope, b⟩ e = true → PS X e (rdS X.K X.mg W c.run)
def GB (Kn : Kno) (k : Nat) (c : CB) : Prop := ∀ X W b, Bas Kn k b X W → PassesOwn (model X.prog X.w) X.A X.env X.xe → ∀ e, c.chk ⟨X.N, X.env.scope, b⟩ e = true → PSs X e (rdS X.K X.mg W c.run)
/-- a target: a value, the slots, the store; it gives the slots behind it -/
structure CG where
  run : D → Env → List O → Option (Env × List O)
  chk : Inf → Expr → Bool
def rdG (K : PySem.W.Frag) (m : D → Env → List O → Option (Env × List O)) : TG := fun v σ H Q => ∃ α ρ μ d ρ' μ', Cfg K α H ρ σ μ ∧ Rep K α H d v ∧ m d ρ μ = some (ρ', μ') ∧ ∀ α' σ' H', Ext α H α' H' → RepS K α' H' μ' → RepE K α' H' ρ' σ' → Q σ' H'
def GG (Kn : Kno) (k : Nat) (c : CG) : Prop := ∀ X W b, Bas Kn k b X W → ∀ e, c.chk ⟨X.N, X.env.scope, b⟩ e = true → PG X e (rdG X.K c.run)
theorem PG.imp {X : Cx} {e : Expr} {t t' : TG} (h : PG X e t) (i : ∀ v σ H Q, t' v σ H Q → t v σ H Q) : PG X e t' := ⟨fun pins s σ H v u Q I r q => h.run pins s σ H v u Q I r (i v σ H Q q)⟩
theorem PGs.imp {X : Cx} {e : List Expr} {t t' : TGs} (h : PGs X e t) (i : ∀ v σ H Q, t' v σ H Q → t v σ H Q) : PGs X e t' := ⟨fun pins s σ H v u Q I r q => h.run pins s σ H v u Q I r (i v σ H Q q)⟩
/-- several targets -/
structure CGs where
  run : List D → Env → List O → Option (Env × List O)
  chk : Inf → List Expr → Bool
def rdGs (K : PySem.W.Frag) (m : List D → Env → List O → Option (Env × List O)) : TGs := fun vs σ H Q => ∃ α ρ μ ds ρ' μ', Cfg K α H ρ σ μ ∧ Reps K α H ds vs ∧ m ds ρ μ = some (ρ', μ') ∧ ∀ α' σ' H', Ext α H α' H' → RepS K α' H' μ' → RepE K α' H' ρ' σ' → Q σ' H'
def GGs (Kn : Kno) (k : Nat) (c : CGs) : Prop := ∀ X W b, Bas Kn k b X W → ∀ e, c.chk ⟨X.N, X.env.scope, b⟩ e = true → PGs X e (rdGs X.K c.run)
section
variable {Kn : Kno} {k : Nat}
def place (I : Inf) (i : Nat) (x : Str) : Bool := decide (I.N[i]? = some x) && (decide (I.sc.names.lookup x = some .local) || (I.cells x && decide (I.sc.names.lookup x = some .cell)))
theorem place_loc {I : Inf} {i : Nat} {x : Str} (h : place I i x = true) : I.N[i]? = some x ∧ Loc I.sc x ∧ (I.sc.names.lookup x = some .local ∨ (I.cells x = true)) := by
  unfold place at h
  simp only [Bool.and_eq_true, Bool.or_eq_true, decide_eq_true_eq] at h
  obtain ⟨h1, h2⟩ := h
  rcases h2 with h2 | ⟨h2, h3⟩
  · exact ⟨h1, .inl h2, .inl h2⟩
  · exact ⟨h1, .inr h3, .inr h2⟩
def gN (i : Nat) : CG := ⟨fun d ρ μ => some (ρ.set i (some d), μ), fun I e => match e with
  | .Name x _ => place I i x
  | _ => false⟩
theorem g_gN {i : Nat} : GG Kn k (gN i) := by
  intro X W cb b e h
  dsimp only [gN] at h
  split at h
  · rename_i x pos
    obtain ⟨h1, h2, h3⟩ := place_loc h
    have hf : X.fn x = true ∨ X.env.scope.names.lookup x = some .local := h3.elim Or.inr fun z => Or.inl (b.cells x z)
    refine PG.imp (pg_name b.nd h1 h2 hf) ?_
    rintro v σ H Q ⟨α, ρ, μ, d, ρ', μ', g, r, run, q⟩
    cases run
    exact q α _ H (Ext.refl α H) g.s (g.e.set i r)
  · cases h
def gsNil : CGs := ⟨fun ds ρ μ => match ds with
  | [] => some (ρ, μ)
  | _ => none, fun _ es => match es with
  | [] => true
  | _ => false⟩
def gsCons (a : CG) (r : CGs) : CGs := ⟨fun ds ρ μ => match ds with
  | d :: dr => match a.run d ρ μ with
    | some (ρ1, μ1) => r.run dr ρ1 μ1
    | none => none
  | [] => none, fun I es => match es with
  | e :: er => noStar e && (a.chk I e && r.chk I er)
  | [] => false⟩
theorem asg_cons {e : Expr} {es : List Expr} {env : PySem.Env} (h : noStar e = true) : assignEach (e :: es) env = (false, assign e env) :: assignEach es env := by
  cases e <;> first | rfl | cases h
theorem g_gsNil : GGs Kn k gsNil := by
  intro X W cb b e h
  dsimp only [gsNil] at h
  split at h
  · refine PGs.imp pgs_nil ?_
    rintro v σ H Q ⟨α, ρ, μ, ds, ρ', μ', g, r, run, q⟩
    cases ds with
    | nil =>
      cases run
      exact ⟨r, q α σ H (Ext.refl α H) g.s g.e⟩
    | cons _ _ => cases run
  · cases h
theorem g_gsCons {a : CG} {r : CGs} (ha : GG Kn k a) (hr : GGs Kn k r) : GGs Kn k (gsCons a r) := by
  intro X W cb b e h
  dsimp only [gsCons] at h
  split at h
  · simp only [Bool.and_eq_true] at h
    obtain ⟨h1, h2, h3⟩ := h
    refine PGs.imp (pgs_cons (ha X W cb b _ h2) (hr X W cb b _ h3) (by rw [asg_cons h1]; rfl)) ?_
    rintro vs σ H Q ⟨α, ρ, μ, ds, ρ', μ', g, w, run, q⟩
    cases ds with
    | nil => cases run
    | cons d dr =>
      obtain ⟨v, vr, e, w1, w2⟩ := w
      subst e
      dsimp only [gsCons] at run
      cases e1 : a.run d ρ μ with
      | none => rw [e1] at run; cases run
      | some p =>
        obtain ⟨ρ1, μ1⟩ := p
        rw [e1] at run
        refine ⟨v, vr, rfl, α, ρ, μ, d, ρ1, μ1, g, w1, e1, fun α1 σ1 H1 k1 s1 r1 => ?_⟩
        exact ⟨α1, ρ1, μ1, dr, ρ', μ', ⟨s1, r1⟩, w2.up k1, run, fun α' σ' H' k' => q α' σ' H' (k1.trans k')⟩
  · cases h
theorem asg_len {env : PySem.Env} : ∀ {es : List Expr}, es.all noStar = true → (assignEach es env).length = es.length ∧ (assignEach es env).findIdx? (·.1) = none
  | [], _ => ⟨rfl, rfl⟩
  | e :: es, h => by
    rw [List.all_cons, Bool.and_eq_true] at h
    rw [asg_cons h.1]
    obtain ⟨h1, h2⟩ := asg_len (env := env) h.2
    refine ⟨by rw [List.length_cons, List.length_cons, h1], ?_⟩
    rw [List.findIdx?_cons]
    simp [h2]
/-- (a, b, ..) = a tuple -/
def gT (r : CGs) (n : Nat) : CG := ⟨fun d ρ μ => match d with
  | .tup ds => if ds.length = n then r.run ds ρ μ else none
  | _ => none, fun I e => match e with
  | .Tuple es _ _ => decide (es.length = n) && (es.all noStar && r.chk I es)
  | _ => false⟩
theorem g_gT {r : CGs} {n : Nat} (hr : GGs Kn k r) : GG Kn k (gT r n) := by
  intro X W cb b e h
  dsimp only [gT] at h
  split at h
  · simp only [Bool.and_eq_true, decide_eq_true_eq] at h
    obtain ⟨h1, h2, h3⟩ := h
    obtain ⟨l1, l2⟩ := asg_len (env := X.env) h2
    refine PG.imp (pg_tup (n := n) b.calm (hr X W cb b _ h3) (l1.trans h1) l2) ?_
    rintro v σ H Q ⟨α, ρ, μ, d, ρ', μ', g, w, run, q⟩
    cases d with
    | tup ds =>
      dsimp only [gT] at run
      split at run
      · rename_i hl
        obtain ⟨p, vs, e, t, w2⟩ := w
        exact ⟨p, vs, e, t, w2.len.trans hl, α, ρ, μ, ds, ρ', μ', g, w2, run, q⟩
      · cases run
    | _ => cases run
  · cases h
/-- xs[i] = v, a list of the store -/
def setL (d : D) (o i : D) (μ : List O) : Option (List O) := match o, i with
  | .ref l, .int j => match μ[l]? with
    | some (.lst ds) => match ixN ds.length j with
      | some n => some (μ.set l (.lst (ds.set n d)))
      | none => none
    | _ => none
  | _, _ => none
def gS (a b : CE) : CG := ⟨fun d ρ μ => match M.bnd (a.run ρ) (fun o => M.bnd (b.run ρ) fun i => M.ret (o, i)) μ with
  | some (.ok (o, i), μ1) => (setL d o i μ1).map fun μ2 => (ρ, μ2)
  | _ => none, fun I e => match e with
  | .Subscript o i _ => plainIx i && (a.chk I o && b.chk I i)
  | _ => false⟩
theorem asg_sub {o i : Expr} {pos : Pos} {env : PySem.Env} (h : plainIx i = true) : ∀ v, assign (.Subscript o i pos) env v = (do
      let ov ← holding [v] (eval o env)
      let iv ← holding [v, ov] (eval i env)
      standAt pos
      holding [v, ov, iv] (setItem ov iv v)
      release [v, ov, iv] []) := by
  intro v
  cases i <;> first | rfl | cases h
theorem g_gS {a b : CE} (ha : GE Kn k a) (hb : GE Kn k b) : GG Kn k (gS a b) := by
  intro X W cb bs e h
  dsimp only [gS] at h
  split at h
  · simp only [Bool.and_eq_true] at h
    obtain ⟨h1, h2, h3⟩ := h
    have tk0 : Bas Kn k cb X fun _ _ _ _ => False := ⟨bs.kn, bs.calm, bs.nd, bs.room, bs.grd, takes0, bs.sys, bs.cells⟩
    refine PG.imp (pg_sub (ha X _ cb tk0 _ h2) (hb X _ cb tk0 _ h3) set_list (asg_sub h1)) ?_
    rintro v σ H Q ⟨α, ρ, μ, d, ρ', μ', g, w, run, q⟩
    dsimp only [gS] at run
    cases e1 : M.bnd (a.run ρ) (fun o => M.bnd (b.run ρ) fun i => M.ret (o, i)) μ with
    | none => rw [e1] at run; cases run
    | some p =>
      obtain ⟨r1, μ1⟩ := p
      rw [e1] at run
      cases r1 with
      | error x => cases run
      | ok oi =>
        obtain ⟨o, i⟩ := oi
        dsimp only at run
        show rd (Rep X.K) X.K X.mg (fun _ _ _ _ => False) a.run σ H fun o H1 => rd (Rep X.K) X.K X.mg (fun _ _ _ _ => False) b.run σ H1 fun i H2 => rSetL o i v H2 fun H3 => Q σ H3
        refine rd_seq (R := fun _ _ (x : D × D) (y : Unit) => True) (r := .ok (o, i)) (μ' := μ1) (Q := fun _ _ => True) g e1 (fun _ _ _ _ _ _ => True.intro) fun o1 ov α1 H1 μ2 g1 k1 w1 run1 _ => ?_
        refine rd_seq (R := fun _ _ (x : D × D) (y : Unit) => True) (r := .ok (o, i)) (μ' := μ1) (Q := fun _ _ => True) g1 run1 (fun _ _ _ _ _ _ => True.intro) fun i1 iv α2 H2 μ3 g2 k2 w2 run2 _ => ?_
        cases run2
        have w1' := w1.up k2
        cases o with
        | ref l =>
          cases i with
          | int j =>
            dsimp only [setL] at run
            cases e2 : μ1[l]? with
            | none => rw [e2] at run; cases run
            | some ob =>
              rw [e2] at run
              cases ob with
              | dct _ => cases run
              | lst ds =>
                dsimp only at run
                cases e3 : ixN ds.length j with
                | none => rw [e3] at run; cases run
                | some n =>
                  rw [e3] at run
                  cases run
                  obtain ⟨p, vs, ep, ea, eh, er⟩ := lst_at g2.s w1' e2
                  refine ⟨p, vs, j, n, ep, w2, eh, by rw [er.len]; exact e3, ?_⟩
                  have x3 : Ext α2 H2 α2 (upd H2 p (.lst (vs.set n v))) := Ext.put ea eh fun z => z
                  have wv := w.up (k1.trans k2)
                  exact q α2 σ _ ((k1.trans k2).trans x3) (g2.s.put ea ⟨_, upd_same, (er.set n wv).up x3⟩) (g2.e.up x3)
          | _ => cases run
        | _ => cases run
  · cases h

/-! ### small statements -/
def bNil : CB := ⟨fun ρ μ => some (.nx ρ, μ), fun _ st => match st with
  | [] => true
  | _ => false⟩
def bCons (s : CS) (r : CB) : CB := ⟨fun ρ μ => match s.run ρ μ with
  | some (.nx ρ1, μ1) => r.run ρ1 μ1
  | x => x, fun I st => match st with
  | s1 :: sr => s.chk I s1 && r.chk I sr
  | [] => false⟩
theorem g_bNil : GB Kn k bNil := by
  intro X W cb bs po e h
  dsimp only [bNil] at h
  split at h
  · refine PSs.imp pss_nil ?_
    rintro σ H D ⟨α, ρ, μ, r, μ', g, run, aft⟩
    exact nx_ret g.s run aft g.e
  · cases h
theorem g_bCons {s : CS} {r : CB} (hs : GS Kn k s) (hr : GB Kn k r) : GB Kn k (bCons s r) := by
  intro X W cb bs po e h
  dsimp only [bCons] at h
  split at h
  · rw [Bool.and_eq_true] at h
    refine PSs.imp (pss_cons (hs X W cb bs po _ h.1) (hr X W cb bs po _ h.2)) ?_
    rintro σ H D ⟨α, ρ, μ, q, μ', g, run, aft⟩
    dsimp only [bCons] at run
    cases e1 : s.run ρ μ with
    | none => rw [e1] at run; cases run
    | some p =>
      obtain ⟨r1, μ1⟩ := p
      rw [e1] at run
      cases r1 with
      | nx ρ1 => exact ⟨α, ρ, μ, .nx ρ1, μ1, g, e1, fun α' σ' H' k' s' e' => ⟨α', ρ1, μ1, q, μ', ⟨s', e'⟩, run, aft.up k'⟩⟩
      | rt d => cases run; exact ⟨α, ρ, μ, _, _, g, e1, aft⟩
      | bk ρ1 => cases run; exact ⟨α, ρ, μ, _, _, g, e1, aft⟩
      | ct ρ1 => cases run; exact ⟨α, ρ, μ, _, _, g, e1, aft⟩
      | er x ρ1 => cases run; exact ⟨α, ρ, μ, _, _, g, e1, aft⟩
  · cases h
/-- no comprehension: its stores are plain -/
def noComp : Expr → Bool
  | .ListComp _ _ _ _ => false
  | .SetComp _ _ _ _ => false
  | .DictComp _ _ _ _ _ => false
  | _ => true
theorem noComp_sw {e : Expr} {t : Option Expr} {l : Nat} {env : PySem.Env} (h : noComp e = true) : swapsWith e t l env = pure false := by
  cases e <;> first | rfl | cases h
def sExpr (a : CE) : CS := ⟨fun ρ => Ms.of (a.run ρ) ρ fun _ μ => some (.nx ρ, μ), fun I st => match st with
  | .Expr e _ => noComp e && a.chk I e
  | _ => false⟩
theorem g_sExpr {a : CE} (ha : GE Kn k a) : GS Kn k (sExpr a) := by
  intro X W cb bs po e h
  dsimp only [sExpr] at h
  split at h
  · rw [Bool.and_eq_true] at h
    refine PS.imp (ps_expr (ha X W cb bs _ h.2) (noComp_sw h.1)) ?_
    rintro σ H D ⟨α, ρ, μ, q, μ', g, run, aft⟩
    exact rd_of g run aft fun d v α1 H1 μ1 g1 k1 r1 run1 aft1 => nx_ret g1.s run1 aft1 g1.e
  · cases h
def sRet (a : CE) : CS := ⟨fun ρ => Ms.of (a.run ρ) ρ fun d μ => some (.rt d, μ), fun I st => match st with
  | .Return (some e) _ => a.chk I e
  | _ => false⟩
theorem g_sRet {a : CE} (ha : GE Kn k a) : GS Kn k (sRet a) := by
  intro X W cb bs po e h
  dsimp only [sRet] at h
  split at h
  · refine PS.imp (ps_ret (ha X W cb bs _ h)) ?_
    rintro σ H D ⟨α, ρ, μ, q, μ', g, run, aft⟩
    refine rd_of g run aft fun d v α1 H1 μ1 g1 k1 r1 run1 aft1 => ?_
    cases run1
    exact aft1 α1 v H1 (Ext.refl _ _) g1.s r1
  · cases h
def sRetN : CS := ⟨fun ρ μ => some (.rt .non, μ), fun _ st => match st with
  | .Return none _ => true
  | _ => false⟩
theorem g_sRetN : GS Kn k sRetN := by
  intro X W cb bs po e h
  dsimp only [sRetN] at h
  split at h
  · refine PS.imp ps_retN ?_
    rintro σ H D ⟨α, ρ, μ, q, μ', g, run, aft⟩
    cases run
    exact aft α .non H (Ext.refl _ _) g.s rfl
  · cases h
def sPass : CS := ⟨fun ρ μ => some (.nx ρ, μ), fun _ st => match st with
  | .Pass _ => true
  | _ => false⟩
theorem g_sPass : GS Kn k sPass := by
  intro X W cb bs po e h
  dsimp only [sPass] at h
  split at h
  · refine PS.imp ps_pass ?_
    rintro σ H D ⟨α, ρ, μ, q, μ', g, run, aft⟩
    exact nx_ret g.s run aft g.e
  · cases h
def sCont : CS := ⟨fun ρ μ => some (.ct ρ, μ), fun _ st => match st with
  | .Continue _ => true
  | _ => false⟩
theorem g_sCont : GS Kn k sCont := by
  intro X W cb bs po e h
  dsimp only [sCont] at h
  split at h
  · refine PS.imp ps_continue ?_
    rintro σ H D ⟨α, ρ, μ, q, μ', g, run, aft⟩
    cases run
    exact aft α σ H (Ext.refl _ _) g.s g.e
  · cases h
def sBrk : CS := ⟨fun ρ μ => some (.bk ρ, μ), fun _ st => match st with
  | .Break _ => true
  | _ => false⟩
theorem g_sBrk : GS Kn k sBrk := by
  intro X W cb bs po e h
  dsimp only [sBrk] at h
  split at h
  · refine PS.imp ps_break ?_
    rintro σ H D ⟨α, ρ, μ, q, μ', g, run, aft⟩
    cases run
    exact aft α σ H (Ext.refl _ _) g.s g.e
  · cases h
def sIf (t : CT) (a b : CB) : CS := ⟨fun ρ => Ms.of (t.run ρ) ρ fun c => if c = true then a.run ρ else b.run ρ, fun I st => match st with
  | .If e x y _ => t.chk I e && (a.chk I x && b.chk I y)
  | _ => false⟩
theorem g_sIf {t : CT} {a b : CB} (ht : GT Kn k t) (ha : GB Kn k a) (hb : GB Kn k b) : GS Kn k (sIf t a b) := by
  intro X W cb bs po e h
  dsimp only [sIf] at h
  split at h
  · simp only [Bool.and_eq_true] at h
    refine PS.imp (ps_if (ht X W cb bs _ h.1) (ha X W cb bs po _ h.2.1) (hb X W cb bs po _ h.2.2)) ?_
    rintro σ H D ⟨α, ρ, μ, q, μ', g, run, aft⟩
    refine rd_of g run aft fun d v α1 H1 μ1 g1 k1 r1 run1 aft1 => ?_
    subst r1
    cases d with
    | true =>
      rw [if_pos rfl]
      exact ⟨α1, ρ, μ1, q, μ', g1, run1, aft1⟩
    | false =>
      rw [if_neg Bool.false_ne_true]
      exact ⟨α1, ρ, μ1, q, μ', g1, run1, aft1⟩
  · cases h
/-- target = value, where no stores are exchanged -/
def noTup : Expr → Bool
  | .Tuple _ _ _ => false
  | .List _ _ => false
  | _ => true
def plainAsg (t e : Expr) : Bool := noComp e && (noStar t && (noTup t || noTup e))
theorem plainAsg_sw {t e : Expr} {env : PySem.Env} (h : plainAsg t e = true) : swappedStores [t] e env = pure none := by
  unfold plainAsg at h
  simp only [Bool.and_eq_true, Bool.or_eq_true] at h
  obtain ⟨_, _, z⟩ := h
  rcases z with z | z
  · cases t <;> first | rfl | cases z
  · cases t <;> cases e <;> first | rfl | cases z
def asgRun (g : CG) (a : CE) : Env → Ms := fun ρ => Ms.of (a.run ρ) ρ fun d μ => match g.run d ρ μ with
  | some (ρ1, μ1) => some (.nx ρ1, μ1)
  | none => none
def sAsg (g : CG) (a : CE) : CS := ⟨asgRun g a, fun I st => match st with
  | .Assign [t] e _ => plainAsg t e && (g.chk I t && a.chk I e)
  | _ => false⟩
theorem asg_fin {g : CG} {a : CE} {X : Cx} {W : WX} : ∀ σ H Dn, rdS X.K X.mg W (asgRun g a) Dn σ H → tAsg (rdE X.K X.mg W a.run) (rdG X.K g.run) Dn σ H := by
  rintro σ H Dn ⟨α, ρ, μ, q, μ', g0, run, aft⟩
  refine rd_of g0 run aft fun d v α1 H1 μ1 g1 k1 r1 run1 aft1 => ?_
  cases e1 : g.run d ρ μ1 with
  | none => rw [e1] at run1; cases run1
  | some p =>
    obtain ⟨ρ1, μ2⟩ := p
    rw [e1] at run1
    cases run1
    exact ⟨α1, ρ, μ1, d, ρ1, _, g1, r1, e1, fun α' σ' H' k' s' e' => aft1 α' σ' H' k' s' e'⟩
theorem g_sAsg {g : CG} {a : CE} (hg : GG Kn k g) (ha : GE Kn k a) : GS Kn k (sAsg g a) := by
  intro X W cb bs po e h
  dsimp only [sAsg] at h
  split at h
  · rename_i t e pos
    simp only [Bool.and_eq_true] at h
    obtain ⟨h1, h2, h3⟩ := h
    have hp : noComp e = true ∧ noStar t = true := by
      unfold plainAsg at h1
      simp only [Bool.and_eq_true] at h1
      exact ⟨h1.1, h1.2.1⟩
    exact PS.imp (ps_asg (ha X W cb bs _ h3) (hg X W cb bs _ h2) (noComp_sw hp.1) (plainAsg_sw h1) (by rw [asg_cons hp.2]; rfl)) (asg_fin)
  · cases h
/-- a, b = x, y: both sides written, all targets plain local names: stored at once -/
def names2 (I : Inf) (i j : Nat) (x y : Expr) : Bool := match x, y with
  | .Name a p, .Name b q => decide (I.N[i]? = some a) && (decide (I.N[j]? = some b) && (decide (I.sc.names.lookup a = some .local) && (decide (I.sc.names.lookup b = some .local) && (p.line == q.line && !(a == b)))))
  | _, _ => false
def foldFree (es : List Expr) : Bool := es.all noStar && (!es.all (foldedForSure 8) && !es.all (constantsAlone 8))
theorem noStar_any {es : List Expr} (h : es.all noStar = true) : (es.any fun | .Starred .. => true | _ => false) = false := by
  rw [List.any_eq_false]
  intro e he
  have := List.all_eq_true.mp h e he
  cases e <;> first | exact Bool.false_ne_true | cases this
theorem notSt {e : Expr} : (match e with | .Starred .. => true | _ => false) = true → noStar e = true → False := by
  cases e <;> first | exact fun z _ => absurd z Bool.false_ne_true | exact fun _ z => absurd z Bool.false_ne_true
theorem fn_block {env : PySem.Env} (h : env.scope.kind = .function) : env.blockKind = .function := by
  unfold PySem.Env.blockKind
  rw [h]
  rfl
def sPar (i j : Nat) (a b : CE) : CS := ⟨fun ρ => Ms.of (M.bnd (a.run ρ) fun x => M.bnd (b.run ρ) fun y => M.ret (x, y)) ρ fun (p : D × D) μ => some (.nx ((ρ.set i (some p.1)).set j (some p.2)), μ), fun I st => match st with
  | .Assign [.Tuple [t1, t2] _ _] (.Tuple [e1, e2] _ _) _ => decide (I.sc.kind = .function) && (!decide (i = j) && (names2 I i j t1 t2 && (foldFree [e1, e2] && (a.chk I e1 && b.chk I e2))))
  | _ => false⟩
theorem swap2 {x y : Str} {px py pt pt2 : Pos} {kt k2 : Nat} {e1 e2 : Expr} {env : PySem.Env} (hk : env.scope.kind = .function) (hx : env.scope.names.lookup x = some .local) (hy : env.scope.names.lookup y = some .local)
    (hl : (px.line == py.line) = true) (hne : (x == y) = false) (hf : foldFree [e1, e2] = true) :
    swappedStores [.Tuple [.Name x px, .Name y py] kt pt] (.Tuple [e1, e2] k2 pt2) env = pure (some [x, y]) := by
  unfold foldFree at hf
  simp only [Bool.and_eq_true, Bool.not_eq_true'] at hf
  have q1 := noStar_any hf.1
  have kx : env.kindOf x = some .local := hx
  have ky : env.kindOf y = some .local := hy
  have hl' : px.line = py.line := by simpa using hl
  have hne' : ¬ y = x := fun z => by rw [z] at hne; simp at hne
  have v1 : noStar e1 = true ∧ noStar e2 = true := by simpa using hf.1
  unfold swappedStores
  simp [fn_block hk, kx, ky, hf.2.1, hf.2.2, hl', hne', List.eraseDups_cons, Expr.pos]
  intro z
  rcases z with z | z
  · exact (notSt z v1.1).elim
  · exact (notSt z v1.2).elim
theorem g_sPar {i j : Nat} {a b : CE} (ha : GE Kn k a) (hb : GE Kn k b) : GS Kn k (sPar i j a b) := by
  intro X W cb bs po e h
  dsimp only [sPar] at h
  split at h
  · rename_i t1 t2 k1 p1 e1 e2 k2 p2 pos
    simp only [Bool.and_eq_true, decide_eq_true_eq, Bool.not_eq_true', decide_eq_false_iff_not] at h
    obtain ⟨hk, hij, hn, hf, h1, h2⟩ := h
    unfold names2 at hn
    split at hn
    · rename_i x px y py
      simp only [Bool.and_eq_true, decide_eq_true_eq, Bool.not_eq_true'] at hn
      obtain ⟨n1, n2, n3, n4, n5, n6⟩ := hn
      have hs : [e1, e2].all noStar = true := by
        unfold foldFree at hf
        rw [Bool.and_eq_true] at hf
        exact hf.1
      simp only [List.all_cons, List.all_nil, Bool.and_true, Bool.and_eq_true] at hs
      refine PS.imp (ps_par bs.calm bs.nd n1 n2 hij n3 n4 (pa_cons (ha X W cb bs _ h1) (pa_cons (hb X W cb bs _ h2) pa_nil (star_cons hs.2)) (star_cons hs.1)) (swap2 hk n3 n4 n5 n6 hf)) ?_
      rintro σ H Dn ⟨α, ρ, μ, q, μ', g, run, aft⟩
      -- the pair's run, part by part
      dsimp only [sPar, Ms.of] at run
      cases e0 : M.bnd (a.run ρ) (fun x => M.bnd (b.run ρ) fun y => M.ret (x, y)) μ with
      | none => rw [e0] at run; cases run
      | some pr =>
        obtain ⟨r0, μ0⟩ := pr
        rw [e0] at run
        refine rd_seq (R := fun _ _ (x : D × D) (y : V × V) => True) (Q := fun _ _ => True) (r := r0) (μ' := μ0) g e0 ?_ fun x1 v1 α1 H1 μ1 g1 x1' w1 run1 aft1 => ?_
        · cases r0 with
          | ok _ => exact fun _ _ _ _ _ _ => True.intro
          | error x =>
            cases run
            exact fun α' c dd H' k' s' x' => aft α' c dd σ H' k' s' (g.e.up k') x'
        · refine rd_seq (R := fun _ _ (x : D × D) (y : V × V) => True) (Q := fun _ _ => True) (r := r0) (μ' := μ0) g1 run1 aft1 fun x2 v2 α2 H2 μ2 g2 x2' w2 run2 aft2 => ?_
          cases run2
          cases run
          refine ⟨v1, v2, rfl, ?_⟩
          exact aft α2 _ H2 (x1'.trans x2') g2.s ((g2.e.set i (w1.up x2')).set j w2)
    · cases hn
  · cases h

/-! ### loops -/
/-- at most so many turns -/
def whl (t : Env → M Bool) (b : Env → Ms) : Nat → Env → Ms
  | 0, _ => fun _ => none
  | n + 1, ρ => Ms.of (t ρ) ρ fun c => if c = true then (fun μ => match b ρ μ with
      | some (.nx ρ1, μ1) => whl t b n ρ1 μ1
      | some (.ct ρ1, μ1) => whl t b n ρ1 μ1
      | some (.bk ρ1, μ1) => some (.nx ρ1, μ1)
      | x => x) else fun μ => some (.nx ρ, μ)
def sWhile (m : Env → Nat) (t : CT) (b : CB) : CS := ⟨fun ρ μ => whl t.run b.run (m ρ) ρ μ, fun I st => match st with
  | .While e x [] _ => t.chk I e && b.chk I x
  | _ => false⟩
theorem g_sWhile {m : Env → Nat} {t : CT} {b : CB} (ht : GT Kn k t) (hb : GB Kn k b) : GS Kn k (sWhile m t b) := by
  intro X W cb bs po e h
  dsimp only [sWhile] at h
  split at h
  · rw [Bool.and_eq_true] at h
    refine PS.imp (ps_while po (ht X W cb bs _ h.1) (hb X W cb bs po _ h.2)) ?_
    rintro σ H D ⟨α, ρ, μ, q, μ', g, run, aft⟩
    refine ⟨fun n σ' H' => ∃ α' ρ' μ1, Cfg X.K α' H' ρ' σ' μ1 ∧ Ext α H α' H' ∧ whl t.run b.run n ρ' μ1 = some (q, μ'), ⟨m ρ, α, ρ, μ, g, Ext.refl _ _, run⟩, ?_⟩
    rintro n σ1 H1 ⟨α1, ρ1, μ1, g1, x1, run1⟩
    cases n with
    | zero => cases run1
    | succ n =>
      refine rd_of g1 run1 (aft.up x1) fun d v α2 H2 μ2 g2 x2 r2 run2 aft2 => ?_
      subst r2
      cases d with
      | false =>
        rw [if_neg Bool.false_ne_true]
        exact nx_ret g2.s run2 aft2 g2.e
      | true =>
        rw [if_pos rfl] at run2 ⊢
        refine ⟨fun σ' H' => ∃ α' ρ' μ1, Cfg X.K α' H' ρ' σ' μ1 ∧ Ext α H α' H' ∧ whl t.run b.run n ρ' μ1 = some (q, μ'), fun σ' H' z => ⟨n, Nat.lt_succ_self n, z⟩, ?_⟩
        cases e1 : b.run ρ1 μ2 with
        | none => rw [e1] at run2; cases run2
        | some p =>
          obtain ⟨r3, μ3⟩ := p
          rw [e1] at run2
          cases r3 with
          | nx ρ3 => exact ⟨α2, ρ1, μ2, _, _, g2, e1, fun α' σ' H' k' s' e' => ⟨α', ρ3, μ3, ⟨s', e'⟩, (x1.trans x2).trans k', run2⟩⟩
          | ct ρ3 => exact ⟨α2, ρ1, μ2, _, _, g2, e1, fun α' σ' H' k' s' e' => ⟨α', ρ3, μ3, ⟨s', e'⟩, (x1.trans x2).trans k', run2⟩⟩
          | bk ρ3 => cases run2; exact ⟨α2, ρ1, μ2, _, _, g2, e1, aft2⟩
          | rt d => cases run2; exact ⟨α2, ρ1, μ2, _, _, g2, e1, aft2⟩
          | er x ρ3 => cases run2; exact ⟨α2, ρ1, μ2, _, _, g2, e1, aft2⟩
  · cases h
/-- what is walked: at turn i, by the store as it is then: an item, or the end -/
structure Wk where
  get : Nat → List O → Option (Option D)
  fuel : Nat
def JOk (K : PySem.W.Frag) (α0 : List Addr) (H0 : Hp) (w : Wk) (J : It) : Prop := ∀ α H μ i, Ext α0 H0 α H → RepS K α H μ → match w.get i μ with
  | some none => J.stop i H
  | some (some d) => J.go i H ∧ ∀ x H', J.yld i H x H' → Ext α H α H' ∧ RepS K α H' μ ∧ Rep K α H' d x
  | none => True
structure CI where
  run : Env → M Wk
  chk : Inf → Expr → Expr → Bool
def GI (Kn : Kno) (k : Nat) (c : CI) : Prop := ∀ X W b, Bas Kn k b X W → ∀ tg e, c.chk ⟨X.N, X.env.scope, b⟩ tg e = true → PI X tg e (rd (fun α H w J => JOk X.K α H w J) X.K X.mg W c.run)
theorem PI.imp {X : Cx} {tg e : Expr} {t t' : TI} (h : PI X tg e t) (i : ∀ σ H Q, t' σ H Q → t σ H Q) : PI X tg e t' := ⟨fun pins s σ H Q I q => h.run pins s σ H Q I (i σ H Q q)⟩
def forRun (w : Wk) (g : CG) (b : CB) : Nat → Nat → Env → Ms
  | 0, i, ρ => fun μ => match w.get i μ with
    | some none => some (.nx ρ, μ)
    | _ => none
  | n + 1, i, ρ => fun μ => match w.get i μ with
    | some none => some (.nx ρ, μ)
    | some (some d) => match g.run d ρ μ with
      | some (ρ1, μ1) => match b.run ρ1 μ1 with
        | some (.nx ρ2, μ2) => forRun w g b n (i + 1) ρ2 μ2
        | some (.ct ρ2, μ2) => forRun w g b n (i + 1) ρ2 μ2
        | some (.bk ρ2, μ2) => some (.nx ρ2, μ2)
        | x => x
      | none => none
    | none => none
def noSetI : Expr → Bool
  | .Set _ _ _ => false
  | _ => true
theorem noSetI_eq {e : Expr} {env : PySem.Env} (h : noSetI e = true) : ∀ x, foldedSetIterable e env x = pure x := by
  intro x
  cases e <;> first | rfl | cases h
def sFor (g : CG) (it : CI) (b : CB) : CS := ⟨fun ρ => Ms.of (it.run ρ) ρ fun w => forRun w g b w.fuel 0 ρ, fun I st => match st with
  | .For t e x [] _ => noSetI e && (it.chk I t e && (g.chk I t && b.chk I x))
  | _ => false⟩
theorem g_sFor {tc : CG} {it : CI} {b : CB} (hg : GG Kn k tc) (hi : GI Kn k it) (hb : GB Kn k b) : GS Kn k (sFor tc it b) := by
  intro X W cb bs po e h
  dsimp only [sFor] at h
  split at h
  · simp only [Bool.and_eq_true] at h
    obtain ⟨h0, h1, h2, h3⟩ := h
    refine PS.imp (ps_for po bs.calm (hi X W cb bs _ _ h1) (hg X W cb bs _ h2) (hb X W cb bs po _ h3) (noSetI_eq h0)) ?_
    rintro σ H D ⟨α, ρ, μ, q, μ', g, run, aft⟩
    refine rd_of g run aft fun w J α0 H0 μ0 g0 x0 jok run0 aft0 => ?_
    refine ⟨fun i n σ' H' => ∃ α' ρ' μ1, Cfg X.K α' H' ρ' σ' μ1 ∧ Ext α0 H0 α' H' ∧ forRun w tc b n i ρ' μ1 = some (q, μ'), ⟨w.fuel, α0, ρ, μ0, g0, Ext.refl _ _, run0⟩, ?_⟩
    rintro i n σ1 H1 ⟨α1, ρ1, μ1, g1, x1, run1⟩
    have j1 := jok α1 H1 μ1 i x1 g1.s
    have stop : w.get i μ1 = some none → some (SR.nx ρ1, μ1) = some (q, μ') → J.stop i H1 ∧ D.nx σ1 H1 := fun e1 z => by
      rw [e1] at j1
      exact ⟨j1, nx_ret g1.s z (aft0.up x1) g1.e⟩
    cases n with
    | zero =>
      dsimp only [forRun] at run1
      cases e1 : w.get i μ1 with
      | none => rw [e1] at run1; cases run1
      | some o =>
        cases o with
        | none => rw [e1] at run1; exact .inl (stop e1 run1)
        | some d => rw [e1] at run1; cases run1
    | succ n =>
      dsimp only [forRun] at run1
      cases e1 : w.get i μ1 with
      | none => rw [e1] at run1; cases run1
      | some o =>
        cases o with
        | none => rw [e1] at run1; exact .inl (stop e1 run1)
        | some d =>
          rw [e1] at run1 j1
          obtain ⟨jg, jy⟩ := j1
          refine .inr ⟨jg, fun σ' H' => ∃ α' ρ' μ1, Cfg X.K α' H' ρ' σ' μ1 ∧ Ext α0 H0 α' H' ∧ forRun w tc b n (i + 1) ρ' μ1 = some (q, μ'), fun σ' H' z => ⟨n, Nat.lt_succ_self n, z⟩, fun x H' y => ?_⟩
          obtain ⟨y1, y2, y3⟩ := jy x H' y
          dsimp only at run1
          cases e2 : tc.run d ρ1 μ1 with
          | none => rw [e2] at run1; cases run1
          | some p =>
            obtain ⟨ρ2, μ2⟩ := p
            rw [e2] at run1
            dsimp only at run1
            refine ⟨α1, ρ1, μ1, d, ρ2, μ2, ⟨y2, g1.e.up y1⟩, y3, e2, fun α2 σ2 H2 x2 s2 r2 => ?_⟩
            have x02 : Ext α0 H0 α2 H2 := (x1.trans y1).trans x2
            cases e3 : b.run ρ2 μ2 with
            | none => rw [e3] at run1; cases run1
            | some p =>
              obtain ⟨r3, μ3⟩ := p
              rw [e3] at run1
              cases r3 with
              | nx ρ3 => exact ⟨α2, ρ2, μ2, _, _, ⟨s2, r2⟩, e3, fun α' σ' H' k' s' e' => ⟨α', ρ3, μ3, ⟨s', e'⟩, x02.trans k', run1⟩⟩
              | ct ρ3 => exact ⟨α2, ρ2, μ2, _, _, ⟨s2, r2⟩, e3, fun α' σ' H' k' s' e' => ⟨α', ρ3, μ3, ⟨s', e'⟩, x02.trans k', run1⟩⟩
              | bk ρ3 => cases run1; exact ⟨α2, ρ2, μ2, _, _, ⟨s2, r2⟩, e3, aft0.up x02⟩
              | rt d => cases run1; exact ⟨α2, ρ2, μ2, _, _, ⟨s2, r2⟩, e3, aft0.up x02⟩
              | er x ρ3 => cases run1; exact ⟨α2, ρ2, μ2, _, _, ⟨s2, r2⟩, e3, aft0.up x02⟩
  · cases h
/-! ### what is walked: a list, a tuple, range -/
def wkOf (ds : List D) : Wk := ⟨fun i _ => some ds[i]?, ds.length⟩
def wkL (l n : Nat) : Wk := ⟨fun i μ => match μ[l]? with
  | some (.lst ds) => some ds[i]?
  | _ => none, n⟩
/-- x walked: a list as it stands at each turn -/
def seqW : D → M Wk
  | .fro ds => M.ret (wkOf ds)
  | .ref l => M.bnd (M.lst l) fun ds => M.ret (wkL l ds.length)
  | _ => M.stop
def tupW : D → M Wk
  | .tup ds => M.ret (wkOf ds)
  | _ => M.stop
def iL (a : CE) : CI := ⟨fun ρ => M.bnd (a.run ρ) seqW, fun I _ e => a.chk I e⟩
def iT (a : CE) : CI := ⟨fun ρ => M.bnd (a.run ρ) tupW, fun I _ e => a.chk I e⟩
theorem jok_tup {K : PySem.W.Frag} {α : List Addr} {H : Hp} {ds : List D} {vs : List V} {p : Addr} (t : SqT K H p vs) (r : Reps K α H ds vs) : JOk K α H (wkOf ds) (Itt K p) := by
  intro α1 H1 μ i x s
  have t1 := x.sqT t
  have r1 := r.up x
  dsimp only [wkOf]
  cases e : ds[i]? with
  | none => exact ⟨vs, t1, by rw [r1.len]; exact List.getElem?_eq_none_iff.mp e⟩
  | some d =>
    obtain ⟨v, h1, h2⟩ := r1.get e
    refine ⟨⟨vs, v, t1, h1⟩, fun y H' hy => ?_⟩
    obtain ⟨eh, q⟩ := hy
    subst eh
    have q1 := q vs t1
    rw [h1] at q1
    cases q1
    exact ⟨Ext.refl _ _, s, h2⟩
theorem jok_fro {K : PySem.W.Frag} {α : List Addr} {H : Hp} {ds : List D} {vs : List V} {p : Addr} (t : FqL K H p vs) (r : Reps K α H ds vs) : JOk K α H (wkOf ds) (Itl K p) := by
  intro α1 H1 μ i x s
  have t1 := (x.fqL t).sq
  have r1 := r.up x
  dsimp only [wkOf]
  cases e : ds[i]? with
  | none => exact ⟨vs, t1, by rw [r1.len]; exact List.getElem?_eq_none_iff.mp e⟩
  | some d =>
    obtain ⟨v, h1, h2⟩ := r1.get e
    refine ⟨⟨vs, v, t1, h1⟩, fun y H' hy => ?_⟩
    obtain ⟨eh, q⟩ := hy
    subst eh
    have q1 := q vs t1
    rw [h1] at q1
    cases q1
    exact ⟨Ext.refl _ _, s, h2⟩
theorem jok_lst {K : PySem.W.Frag} {α : List Addr} {H : Hp} {l n : Nat} {p : Addr} (a : α[l]? = some p) : JOk K α H (wkL l n) (Itl K p) := by
  intro α1 H1 μ i x s
  have a1 := x.pre l p a
  dsimp only [wkL]
  cases e0 : μ[l]? with
  | none => trivial
  | some o =>
    cases o with
    | dct _ => trivial
    | lst ds =>
      obtain ⟨vs, hp, r1⟩ := s.at_ l _ p e0 a1
      dsimp only
      cases e : ds[i]? with
      | none => exact ⟨vs, SqL.of hp, by rw [r1.len]; exact List.getElem?_eq_none_iff.mp e⟩
      | some d =>
        obtain ⟨v, h1, h2⟩ := r1.get e
        refine ⟨⟨vs, v, SqL.of hp, h1⟩, fun y H' hy => ?_⟩
        obtain ⟨eh, q⟩ := hy
        subst eh
        have q1 := q vs (SqL.of hp)
        rw [h1] at q1
        cases q1
        exact ⟨Ext.refl _ _, s, h2⟩
theorem g_iT {a : CE} (ha : GE Kn k a) : GI Kn k (iT a) := by
  intro X W cb bs tg e h
  refine PI.imp (pi_tup (ha X W cb bs e h)) ?_
  rintro σ H R ⟨α, ρ, μ, q, μ', g, run, aft⟩
  refine rd_seq g run aft fun d v α1 H1 μ1 g1 k1 r1 run1 aft1 => ?_
  cases d with
  | tup ds =>
    obtain ⟨p, vs, e, t, w⟩ := r1
    exact ⟨p, e, ⟨vs, t⟩, rd_ret (R := fun α H w J => JOk X.K α H w J) g1.s run1 aft1 (jok_tup t w)⟩
  | _ => cases run1
theorem g_iL {a : CE} (ha : GE Kn k a) : GI Kn k (iL a) := by
  intro X W cb bs tg e h
  refine PI.imp (pi_list (ha X W cb bs e h)) ?_
  rintro σ H R ⟨α, ρ, μ, q, μ', g, run, aft⟩
  refine rd_seq g run aft fun d v α1 H1 μ1 g1 k1 r1 run1 aft1 => ?_
  cases d with
  | fro ds =>
    obtain ⟨p, vs, e, t, w⟩ := r1
    exact ⟨p, e, ⟨vs, t.sq⟩, rd_ret (R := fun α H w J => JOk X.K α H w J) g1.s run1 aft1 (jok_fro t w)⟩
  | ref l =>
    obtain ⟨ds, h1, run1⟩ := bnd_lst run1
    obtain ⟨p1, v1, e1, a1, b1, c1⟩ := lst_at g1.s r1 h1
    exact ⟨p1, e1, ⟨v1, SqL.of b1⟩, rd_ret (R := fun α H w J => JOk X.K α H w J) g1.s run1 aft1 (jok_lst a1)⟩
  | _ => cases run1
def wkR (lo : Int) (n : Nat) : Wk := ⟨fun i _ => if i < n then some (some (.int (lo + i))) else some none, n⟩
def ok62 (i : Int) : Prop := -(2 ^ 62) ≤ i ∧ i < 2 ^ 62
instance (i : Int) : Decidable (ok62 i) := by unfold ok62; infer_instance
def rngW1 : D → M Wk
  | .int n => if ok62 n then M.ret (wkR 0 n.toNat) else M.stop
  | _ => M.stop
def rngW2 : D → D → M Wk
  | .int a, .int b => if ok62 a ∧ ok62 b then M.ret (wkR a (b - a).toNat) else M.stop
  | _, _ => M.stop
theorem jok_rng {K : PySem.W.Frag} {α : List Addr} {H : Hp} {lo : Int} {n : Nat} : JOk K α H (wkR lo n) (Itr lo n) := by
  intro α1 H1 μ i x s
  dsimp only [wkR]
  by_cases h : i < n
  · rw [if_pos h]
    refine ⟨h, fun y H' hy => ?_⟩
    obtain ⟨eh, q⟩ := hy
    subst eh
    exact ⟨Ext.refl _ _, s, q⟩
  · rw [if_neg h]
    exact Nat.le_of_not_lt h
def iR1 (a : CE) : CI := ⟨fun ρ => M.bnd (a.run ρ) rngW1, fun I _ e => match e with
  | .Call (.Name y _) [x] [] _ => decide (y = ("range" : Str)) && (glo I.sc y && (noStar x && a.chk I x))
  | _ => false⟩
theorem g_iR1 {a : CE} (hb : Bare Kn "range") (ha : GE Kn k a) : GI Kn k (iR1 a) := by
  intro X W cb bs tg e h
  dsimp only [iR1] at h
  split at h
  · simp only [Bool.and_eq_true, decide_eq_true_eq, glo] at h
    obtain ⟨h1, h2, h3, h4⟩ := h
    subst h1
    refine PI.imp (pi_range1 h2 (hb _ _ _ _ _ bs.kn) (pa_cons (ha X W cb bs _ h4) pa_nil (star_cons h3)) (star_cons h3)) ?_
    rintro σ H R ⟨α, ρ, μ, q, μ', g, run, aft⟩
    refine rd_seq g run aft fun d v α1 H1 μ1 g1 k1 r1 run1 aft1 => ?_
    cases d with
    | int n =>
      dsimp only [rngW1] at run1
      split at run1
      · rename_i hn
        exact ⟨n, by rw [show v = .int n from r1], hn.1, hn.2, rd_ret (R := fun α H w J => JOk X.K α H w J) g1.s run1 aft1 jok_rng⟩
      · cases run1
    | _ => cases run1
  · cases h
def iR2 (a b : CE) : CI := ⟨fun ρ => M.bnd (a.run ρ) fun x => M.bnd (b.run ρ) fun y => rngW2 x y, fun I _ e => match e with
  | .Call (.Name y _) [x, z] [] _ => decide (y = ("range" : Str)) && (glo I.sc y && (noStar x && (noStar z && (a.chk I x && b.chk I z))))
  | _ => false⟩
theorem g_iR2 {a b : CE} (hbr : Bare Kn "range") (ha : GE Kn k a) (hb : GE Kn k b) : GI Kn k (iR2 a b) := by
  intro X W cb bs tg e h
  dsimp only [iR2] at h
  split at h
  · simp only [Bool.and_eq_true, decide_eq_true_eq, glo] at h
    obtain ⟨h1, h2, h3, h3', h4, h5⟩ := h
    subst h1
    refine PI.imp (pi_range2 h2 (hbr _ _ _ _ _ bs.kn) (pa_cons (ha X W cb bs _ h4) (pa_cons (hb X W cb bs _ h5) pa_nil (star_cons h3')) (star_cons h3)) (by rw [star_cons h3, star_cons h3']; rfl) (by rw [star_cons h3']; rfl)) ?_
    rintro σ H R ⟨α, ρ, μ, q, μ', g, run, aft⟩
    refine rd_seq g run aft fun d v α1 H1 μ1 g1 k1 r1 run1 aft1 => ?_
    refine rd_seq g1 run1 aft1 fun d2 v2 α2 H2 μ2 g2 k2 r2 run2 aft2 => ?_
    have r1' := r1.up k2
    cases d with
    | int n =>
      cases d2 with
      | int m =>
        dsimp only [rngW2] at run2
        split at run2
        · rename_i hn
          exact ⟨n, m, by rw [show v = .int n from r1', show v2 = .int m from r2], ⟨hn.1.1, hn.1.2, hn.2.1, hn.2.2⟩, rd_ret (R := fun α H w J => JOk X.K α H w J) g2.s run2 aft2 jok_rng⟩
        · cases run2
      | _ => cases run2
    | _ => cases run2
  · cases h
end
end Mi
/-! Mi, part F: a def by its code; the law's end. -/
namespace Mi
open PySem L2 PyProof.Rows

/-- the function of data that a def's code is: N slots, np parameters -/
def mir (N np : Nat) (run : Env → Ms) : List D → M D := fun ds μ =>
  if ds.length = np then match run (ds.map some ++ List.replicate (N - np) none) μ with
    | some (.nx _, μ') => some (.ok .non, μ')
    | some (.rt d, μ') => some (.ok d, μ')
    | some (.er x _, μ') => some (.error x, μ')
    | _ => none
  else none
theorem mir_len {N np : Nat} {run : Env → Ms} {ds : List D} {μ : List O} {p : Except Ex D × List O} (h : mir N np run ds μ = some p) : ds.length = np := by
  unfold mir at h
  split at h
  · assumption
  · cases h
section
variable {P : Program} {w : World} {K : PySem.W.Frag} {mg : Str → Option Value} {base : Heap}
/-- THE RULE: a def whose code is good is worth its function -/
theorem fnG {Kn : Kno} {x qual : Str} {st : Stmt} {f : Addr} {fd : FuncData} {N ps : List Str} {k : Nat} {c : CB} (F : Fun K x qual st f fd) (S : FnScope N ps (defScope st)) (hk : Kn P w K mg base) (sys : ∃ o, base.get? sysModules = some o) (hg : GB Kn k c)
    (hc : c.chk ⟨N, defScope st, fun _ => true⟩ (defBody st) = true) : FnG P w K mg base (k + 1) f fd ps (spOf K mg (mir N.length ps.length c.run)) := by
  obtain ⟨oc, od, kV, doc, pm, an, cdv, ct, osl, rfl, lk, hcd⟩ := F.ex
  have len : ∀ vs H Q E, spOf K mg (mir N.length ps.length c.run) vs H Q E → vs.length = ps.length := by
    rintro vs H Q E ⟨α, μ, ds, r, μ', s, w, run, _⟩
    rw [w.len]
    exact mir_len run
  refine ⟨len, fun A outer s H args us vs Q E hr hgd e0 hb r hsp => ?_⟩
  have hl := len _ _ _ _ hsp
  have lim : s.heap.NoLimit := e0.mod.nolimit.keeps fun b o e => (e0.bs b o e).1
  have KX : K.In s.heap := e0.mod.kin.keeps fun b o e => (e0.bs b o e).1
  have kinds : ∀ y ∈ ps.zip us, (defScope st).names.lookup y.1 = some .local ∨ ((defScope st).names.lookup y.1 = some .cell ∧ ((cellsFrom (s.heap.objs.size + 1) (defScope st).names []).lookup y.1).isSome = true) := fun y hy => by
    rcases S.par y.1 (List.of_mem_zip (a := y.1) (b := y.2) hy).1 with q | q
    · exact .inl q
    · exact .inr ⟨q, PySem.W.cellsFrom_some _ _ _ (.inl q)⟩
  obtain ⟨α, μ, ds, r0, μ', sS, w0, run, aft⟩ := hsp
  have hdl := mir_len run
  unfold mir at run
  rw [if_pos hdl] at run
  refine codeAny_call_function hr.depth (KX _ _ lk) rfl S.co S.gen rfl (PySem.W.codeRec_of KX hcd) (hb _ _ _ _ (wpAny_newFunctionEnv_cells S.kind kinds fun env he s1 x => ?_))
  subst he
  refine ⟨lim.keeps x.toInCall.keep, codeAny_func ?_⟩
  have I : Inv (cxOf (CXr P w) P w K mg base N qual (defScope st) f cdv A outer s H E) [] (L2.start N vs) H s1 := inv_start S hr.hd e0 hl r x
  have bas : Bas Kn k (fun _ => true) (cxOf (CXr P w) P w K mg base N qual (defScope st) f cdv A outer s H E) (fun c d _ H' => E c d H') :=
    ⟨hk, rfl, S.nd, hr.deeper _, hgd, takes_of rfl rfl rfl rfl, sys, fun _ _ => rfl⟩
  have body := hg _ _ _ bas (passes_of rfl) (defBody st) hc
  have e1 : RepE K α H (ds.map some ++ List.replicate (N.length - ps.length) none) (L2.start N vs) := by
    have := RepE.start (N := N) w0
    rwa [hdl] at this
  cases hrun : c.run (ds.map some ++ List.replicate (N.length - ps.length) none) μ with
  | none => rw [hrun] at run; cases run
  | some p =>
    obtain ⟨sr, μ1⟩ := p
    rw [hrun] at run
    have q : rdS K mg (fun c d _ H' => E c d H') c.run { nx := fun _ H' => Q .non H', rt := Q } (L2.start N vs) H := by
      refine ⟨α, _, μ, sr, μ1, ⟨sS, e1⟩, hrun, ?_⟩
      cases sr with
      | nx ρ => cases run; exact fun α' σ' H' k' s' _ => aft α' .non H' k' s' rfl
      | rt d => cases run; exact fun α' v H' k' s' r' => aft α' v H' k' s' r'
      | er x ρ => cases run; exact fun α' cc dd σ' H' k' s' _ x' => aft α' cc dd H' k' s' x'
      | bk ρ => cases run
      | ct ρ => cases run
    refine wpAny_mono (body.run [] s1 _ H _ I q) (fun fl s' hs => ?_) fun e s' z => z
    have done : ∀ {σ' : L2.St} {H' : Hp} {v : V} {u : Value}, Inv (cxOf (CXr P w) P w K mg base N qual (defScope st) f cdv A outer s H E) [] σ' H' s' → RelV v u → Q v H' → L2.CE outer P w H s Q u s' :=
      fun {σ' H' v u} J rv z => ⟨v, H', J.os, J.bare, J.base, J.hok, rv, z⟩
    cases fl with
    | ret u =>
      obtain ⟨v, σ', H', J, rv, z⟩ := hs
      exact done J rv z
    | next =>
      obtain ⟨σ', H', J, z⟩ := hs
      exact done (v := V.non) (u := Value.none) J rfl z
    | brk =>
      obtain ⟨_, _, _, z⟩ := hs
      exact z.elim
    | cont =>
      obtain ⟨_, _, _, z⟩ := hs
      exact z.elim
end

/-! ### the law's end -/
/-- the script as data -/
def scr (ns : List Int) : D := .fro (ns.map .int)
theorem reps_ints {K : PySem.W.Frag} {α : List Addr} {H : Hp} : ∀ ns : List Int, Reps K α H (ns.map D.int) (ns.map V.int)
  | [] => rfl
  | n :: ns => ⟨.int n, ns.map V.int, rfl, rfl, reps_ints ns⟩
theorem sys_there {h : Heap} (n : h.NoSeer) {H : Hp} {a : Addr} {vs : Array Value} {k : Nat} (ha : h.get? a = some { cls := .type "list", data := .seq vs k }) (hA : ∀ b, H b ≠ none → b = a) : ∃ o, (hidT h H).get? sysModules = some o := by
  obtain ⟨mm, ⟨o, es, ep, e, d, _⟩, _⟩ := n.mods
  refine ⟨o, hidT_get e ?_⟩
  cases q : H sysModules with
  | none => rfl
  | some u =>
    have z := hA sysModules (by rw [q]; simp)
    rw [z, ha] at e
    cases e
    have d' : Data.seq vs k = Data.dict es ep := d
    cases d'
theorem lawG {P : Program} {w : World} {K : PySem.W.Frag} {mg mb : Str → Option Value} {k : Nat} {fa a : Addr} {fd : FuncData} {x : Str} {m : List D → M D} {s₁ : Shared} {vs : List Value} {ns : List Int}
    (KX : K.In s₁.heap) (hns : s₁.heap.Ns mainGlobals mg) (hb : s₁.heap.Ns builtinsNs mb) (hbb : ∀ x : Str, x ≠ "__name__" → mb x = bootBuiltins x) (hlim : s₁.heap.NoLimit) (hseer : s₁.heap.NoSeer) (hg : s₁.gens = #[])
    (ha : s₁.heap.get? a = some { cls := .type "list", data := .seq vs.toArray }) (hi : IntsAre vs ns) (hl : ns.length ≤ sizeLine) (hr : Room k callerA)
    (F : ∀ base : Heap, K.In base → base.Ns mainGlobals mg → (∃ o, base.get? sysModules = some o) → FnG P w K mg base k fa fd [x] (spOf K mg m)) (hbind : ∀ (s : Shared) (u : Value), BindsTo s fd ⟨[u], []⟩ [(x, u)])
    (hm : ∃ μ', m [scr ns] [] = some (.ok (.bl true), μ')) :
    codeAny (model P w) callerA (.call (.ref fa) ⟨[.ref a], []⟩) (fun r s' => r = .ok (.ret (.bool true)) ∧ OldK s₁.heap s'.heap ∧ s'.os = s₁.os ∧ AllBare s'.gens) s₁ := by
  have rv := vals_ints hi
  have lenV := hi.length
  obtain ⟨μ', hm⟩ := hm
  have main : ∀ H : Hp, Only H → SqL K H a (ns.map V.int) → HOk P w H s₁.heap → (∀ b, H b ≠ none → b = a) → (H a ≠ none → K.lookup a = none) →
      codeAny (model P w) callerA (.call (.ref fa) ⟨[.ref a], []⟩) (fun r s' => r = .ok (.ret (.bool true)) ∧ OldK s₁.heap s'.heap ∧ s'.os = s₁.os ∧ AllBare s'.gens) s₁ := by
    intro H hO hS hok hA hK
    have notA : ∀ {b : Addr} {o : Obj} {es : Array DictEntry} {ep : Nat}, s₁.heap.get? b = some o → o.data = .dict es ep → H b = none := fun {b o es ep} e d => by
      cases q : H b with
      | none => rfl
      | some u =>
        have e' := hA b (by rw [q]; simp)
        subst e'
        rw [ha] at e
        cases e
        have d' : Data.seq vs.toArray _ = Data.dict es ep := d
        cases d'
    have ns_at : ∀ {b : Addr} {m : Str → Option Value}, s₁.heap.Ns b m → (hidT s₁.heap H).Ns b m := fun {b m} z => by
      obtain ⟨o, es, ep, e, d, r⟩ := z
      exact ⟨o, es, ep, hidT_get e (notA e d), d, r⟩
    have kin : K.In (hidT s₁.heap H) := fun b o e => hidT_get (KX b o e) (by
      cases q : H b with
      | none => rfl
      | some u =>
        have e' := hA b (by rw [q]; simp)
        subst e'
        rw [hK (by rw [q]; simp)] at e
        cases e)
    have lim : (hidT s₁.heap H).NoLimit := by
      obtain ⟨mc, h1, h2⟩ := hlim
      exact ⟨mc, ns_at h1, h2⟩
    have mod : Mod K mg (hidT s₁.heap H) := ⟨kin, ns_at hns, ⟨mb, ns_at hb, hbb⟩, lim⟩
    have e0 : Env0 P w K mg (hidT s₁.heap H) callerA [] s₁ H := ⟨rfl, mod, fun b o e => of_hidT e, Nat.le_of_eq (hidT_size _ _), trivial, fun b z => (List.not_mem_nil z).elim, hok, .of_eq hg⟩
    have sp : spOf K mg m [.ref a] H (fun v _ => v = .bl true) (fun _ _ _ => False) := by
      refine ⟨[], [], [scr ns], .ok (.bl true), μ', ⟨rfl, List.nodup_nil, fun l o p h => by simp at h⟩, ⟨.ref a, [], rfl, ⟨a, ns.map V.int, rfl, fqL_only hO hS, reps_ints ns⟩, rfl⟩, hm, fun α' v H' _ _ r => r⟩
    refine codeAny_mono ((F _ kin (ns_at hns) (sys_there hseer ha hA)).run callerA [] s₁ H ⟨[.ref a], []⟩ [.ref a] [.ref a] _ _ hr rfl e0 (hbind s₁ (.ref a)) (.cons rfl .nil) sp) fun r s' h => ?_
    cases r with
    | error e =>
      obtain ⟨_, _, _, _, _, _, _, _, _, _, _, _, z⟩ := h
      exact z.elim
    | ok fl =>
      cases fl with
      | next => exact False.elim h
      | brk => exact False.elim h
      | cont => exact False.elim h
      | ret u =>
        obtain ⟨v, H', os, bare, un, hok', r', q⟩ := h
        subst q
        obtain rfl : u = Value.bool true := r'
        refine ⟨rfl, OldK.of_keep fun b o e => ?_, os, bare⟩
        cases q : H b with
        | none => exact un.keep b o e q (List.not_mem_nil) (List.not_mem_nil)
        | some u =>
          rcases hO b with z | ⟨ob, xs, z⟩
          · rw [q] at z
            cases z
          · obtain ⟨e1, _⟩ := hok b _ z
            obtain ⟨e2, _⟩ := hok' b _ (un.frzs b ob _ z)
            rw [e] at e1
            cases e1
            exact e2
  cases hk : K.lookup a with
  | some o =>
    have e := KX a o hk
    rw [ha] at e
    cases e
    exact main (fun _ => none) (fun _ => .inl rfl) (.inr ⟨_, vs.toArray, _, hk, rfl, rfl, rfl, by rw [List.size_toArray, lenV]; exact hl, by simpa using rv⟩) (fun b u z => by cases z) (fun b z => absurd rfl z) fun z => absurd rfl z
  | none =>
    refine main (fun b => if b = a then some (.frz { cls := .type "list", data := .seq vs.toArray } (.lst (ns.map V.int))) else none) (fun b => ?_) (.inl (.inr ⟨_, if_pos rfl⟩)) (fun b u z => ?_) (fun b z => ?_) fun _ => hk
    · by_cases hb : b = a
      · exact .inr ⟨_, _, if_pos hb⟩
      · exact .inl (if_neg hb)
    · by_cases hb : b = a
      · have z' := (if_pos hb).symm.trans z
        cases z'
        subst hb
        exact ⟨ha, by rw [List.length_map]; exact hl, vs, _, rv, ha⟩
      · have z' := (if_neg hb).symm.trans z
        cases z'
    · by_cases hb : b = a
      · exact hb
      · exact absurd (if_neg hb) z
/-- from the law's function to the walk: the same for every script of the length that the row allows -/
theorem walkG {l : PySem.W.OpenLaw} {n k : Nat} {q : Program} {loose : List Str} {XP : (Str → Option Value) → Heap → Prop} {YP : World → Heap → Prop} {d : DefRec} {K : Params → PySem.W.Frag} {m : List D → M D} {x : Str}
    (hn : l.most = some n) (hn2 : n ≤ sizeLine) (hdf : d.params.defaults = []) (hr : Room k callerA) (hi : importsNone q = true) (hY : ∀ (w : World) (h : Heap), YP w h → (K w.params).In h)
    (F : ∀ (w : World) (mg : Str → Option Value) (fa : Addr) (h : Heap), (K w.params).In h → h.Ns mainGlobals mg → mg d.name = some (.ref fa) →
      ∃ fd : FuncData, (∀ (s : Shared) (u : Value), BindsTo s fd ⟨[u], []⟩ [(x, u)]) ∧
        ∀ base : Heap, (K w.params).In base → base.Ns mainGlobals mg → (∃ o, base.get? sysModules = some o) → FnG l.prog w (K w.params) mg base k fa fd [x] (spOf (K w.params) mg m))
    (hm : ∀ ns : List Int, ns.length ≤ n → ∃ μ', m [scr ns] [] = some (.ok (.bl true), μ')) :
    PySem.W.WalkO q loose XP YP l.row.toRowW d [] (fun f vs => PySem.call f vs) := by
  refine Att.attach_call hn hdf fun w s₀ s₁ mg mb fa o pm cd doc a vs ns G Y ho hd hcd hmg hobj hints hlen hg => ?_
  have KX := hY w _ Y
  obtain ⟨fd, hb, hF⟩ := F w mg fa _ KX G.T.g hmg
  exact lawG KX G.T.g G.T.b G.T.builtins G.T.nolimit (G.T.seer hi) hg hobj hints (Nat.le_trans hlen hn2) hr hF hb (hm ns hlen)
end Mi
namespace Mi
open PySem L2 PyProof.Rows
theorem Knw.up {Kn : Kno} {x : Str} {ps : List Str} {m : List D → M D} {j k : Nat} (h : Knw Kn x ps m j) (l : j ≤ k) : Knw Kn x ps m k := fun P w K mg base q => by
  obtain ⟨f, fd, F, a, b, c⟩ := h P w K mg base q
  exact ⟨f, fd, F.up l, a, b, c⟩
/-- as many turns as a slot's number is great -/
def gas (i : Nat) (ρ : Env) : Nat := match ρ[i]? with
  | some (some (.int n)) => n.natAbs + 1
  | _ => 0
end Mi
/-! Mi, part I: comprehensions, more walkers, calls with names, methods. -/
namespace Mi
open PySem L2 PyProof.Rows

/-! ### own slots of a block -/
def wipeE (ρ : Env) : List Nat → Env
  | [] => ρ
  | v :: vs => (wipeE ρ vs).set v none
section
variable {K : PySem.W.Frag} {α : List Addr} {H : Hp} {ρ : Env} {σ : L2.St}
theorem RepE.none (e : RepE K α H ρ σ) (i : Nat) : RepE K α H (ρ.set i none) (σ.set i none) :=
  ⟨by simp [e.len], fun j d h => by
    by_cases hj : j = i
    · subst hj
      have hl := (List.getElem?_eq_some_iff.mp h).1
      rw [List.length_set] at hl
      rw [List.getElem?_set_self hl] at h
      cases h
    · rw [List.getElem?_set_ne (Ne.symm hj)] at h
      obtain ⟨w, h1, h2⟩ := e.at_ j d h
      exact ⟨w, by rw [List.getElem?_set_ne (Ne.symm hj)]; exact h1, h2⟩⟩
theorem RepE.wipe (e : RepE K α H ρ σ) : ∀ vs : List Nat, RepE K α H (wipeE ρ vs) (L2.wipe σ vs)
  | [] => e
  | v :: vs => (e.wipe vs).none v
end
theorem wipe_at {σ : L2.St} {i : Nat} : ∀ {vs : List Nat}, i ∈ vs → (wipe σ vs)[i]? = if i < σ.length then some none else none
  | [], h => by cases h
  | v :: vs, h => by
    unfold wipe
    by_cases hv : v = i
    · subst hv
      by_cases hl : v < σ.length
      · rw [List.getElem?_set_self (by rw [wipe_length]; exact hl), if_pos hl]
      · rw [if_neg hl, List.getElem?_eq_none (by rw [List.length_set, wipe_length]; omega)]
    · rw [List.getElem?_set_ne hv]
      rcases List.mem_cons.mp h with e | e
      · exact (hv e.symm).elim
      · exact wipe_at e
theorem wipe_eq {σ τ : L2.St} {vs : List Nat} (hl : σ.length = τ.length) (h : ∀ i, i ∉ vs → σ[i]? = τ[i]?) : wipe σ vs = wipe τ vs := by
  apply List.ext_getElem?
  intro i
  by_cases hi : i ∈ vs
  · rw [wipe_at hi, wipe_at hi, hl]
  · rw [wipe_out hi, wipe_out hi, h i hi]
theorem wipe_set {σ : L2.St} {vs : List Nat} {i : Nat} {a : Option V} (h : i ∈ vs) : wipe (σ.set i a) vs = wipe σ vs :=
  wipe_eq (by rw [List.length_set]) fun j hj => List.getElem?_set_ne fun e => hj (by rw [← e]; exact h)
theorem wipe_wipe {σ : L2.St} {vs : List Nat} : wipe (wipe σ vs) vs = wipe σ vs := wipe_eq (wipe_length σ vs) fun j hj => wipe_out hj

/-! ### targets that set own slots alone -/
def rdGc (K : PySem.W.Frag) (m : D → Env → List O → Option (Env × List O)) (vs : List Nat) : TG := fun v σ H Q => ∃ α ρ μ d ρ' μ', Cfg K α H ρ σ μ ∧ Rep K α H d v ∧ m d ρ μ = some (ρ', μ') ∧ ∀ α' σ' H', Ext α H α' H' → RepS K α' H' μ' → RepE K α' H' ρ' σ' → wipe σ' vs = wipe σ vs → Q σ' H'
def GGc (Kn : Kno) (k : Nat) (vs : List Nat) (c : CG) : Prop := ∀ X W b, Bas Kn k b X W → ∀ e, c.chk ⟨X.N, X.env.scope, b⟩ e = true → PG X e (rdGc X.K c.run vs)
def rdGsc (K : PySem.W.Frag) (m : List D → Env → List O → Option (Env × List O)) (vs : List Nat) : TGs := fun xs σ H Q => ∃ α ρ μ ds ρ' μ', Cfg K α H ρ σ μ ∧ Reps K α H ds xs ∧ m ds ρ μ = some (ρ', μ') ∧ ∀ α' σ' H', Ext α H α' H' → RepS K α' H' μ' → RepE K α' H' ρ' σ' → wipe σ' vs = wipe σ vs → Q σ' H'
def GGsc (Kn : Kno) (k : Nat) (vs : List Nat) (c : CGs) : Prop := ∀ X W b, Bas Kn k b X W → ∀ e, c.chk ⟨X.N, X.env.scope, b⟩ e = true → PGs X e (rdGsc X.K c.run vs)
section
variable {Kn : Kno} {k : Nat} {vs : List Nat}
theorem c_gN {i : Nat} (hi : i ∈ vs) : GGc Kn k vs (gN i) := by
  intro X W cb b e h
  dsimp only [gN] at h
  split at h
  · rename_i x pos
    obtain ⟨h1, h2, h3⟩ := place_loc h
    have hf : X.fn x = true ∨ X.env.scope.names.lookup x = some .local := h3.elim Or.inr fun z => Or.inl (b.cells x z)
    refine PG.imp (pg_name b.nd h1 h2 hf) ?_
    rintro v σ H Q ⟨α, ρ, μ, d, ρ', μ', g, r, run, q⟩
    cases run
    exact q α _ H (Ext.refl α H) g.s (g.e.set i r) (wipe_set hi)
  · cases h
theorem c_gsNil : GGsc Kn k vs gsNil := by
  intro X W cb b e h
  dsimp only [gsNil] at h
  split at h
  · refine PGs.imp pgs_nil ?_
    rintro v σ H Q ⟨α, ρ, μ, ds, ρ', μ', g, r, run, q⟩
    cases ds with
    | nil =>
      cases run
      exact ⟨r, q α σ H (Ext.refl α H) g.s g.e rfl⟩
    | cons _ _ => cases run
  · cases h
theorem c_gsCons {a : CG} {r : CGs} (ha : GGc Kn k vs a) (hr : GGsc Kn k vs r) : GGsc Kn k vs (gsCons a r) := by
  intro X W cb b e h
  dsimp only [gsCons] at h
  split at h
  · simp only [Bool.and_eq_true] at h
    obtain ⟨h1, h2, h3⟩ := h
    refine PGs.imp (pgs_cons (ha X W cb b _ h2) (hr X W cb b _ h3) (by rw [asg_cons h1]; rfl)) ?_
    rintro vs σ H Q ⟨α, ρ, μ, ds, ρ', μ', g, w, run, q⟩
    cases ds with
    | nil => cases run
    | cons d dr =>
      obtain ⟨v, vr, e, w1, w2⟩ := w
      subst e
      dsimp only [gsCons] at run
      cases e1 : a.run d ρ μ with
      | none => rw [e1] at run; cases run
      | some p =>
        obtain ⟨ρ1, μ1⟩ := p
        rw [e1] at run
        refine ⟨v, vr, rfl, α, ρ, μ, d, ρ1, μ1, g, w1, e1, fun α1 σ1 H1 k1 s1 r1 z1 => ?_⟩
        exact ⟨α1, ρ1, μ1, dr, ρ', μ', ⟨s1, r1⟩, w2.up k1, run, fun α' σ' H' k' s' r' z' => q α' σ' H' (k1.trans k') s' r' (z'.trans z1)⟩
  · cases h
theorem c_gT {r : CGs} {n : Nat} (hr : GGsc Kn k vs r) : GGc Kn k vs (gT r n) := by
  intro X W cb b e h
  dsimp only [gT] at h
  split at h
  · simp only [Bool.and_eq_true, decide_eq_true_eq] at h
    obtain ⟨h1, h2, h3⟩ := h
    obtain ⟨l1, l2⟩ := asg_len (env := X.env) h2
    refine PG.imp (pg_tup (n := n) b.calm (hr X W cb b _ h3) (l1.trans h1) l2) ?_
    rintro v σ H Q ⟨α, ρ, μ, d, ρ', μ', g, w, run, q⟩
    cases d with
    | tup ds =>
      dsimp only [gT] at run
      split at run
      · rename_i hl
        obtain ⟨p, vs, e, t, w2⟩ := w
        exact ⟨p, vs, e, t, w2.len.trans hl, α, ρ, μ, ds, ρ', μ', g, w2, run, q⟩
      · cases run
    | _ => cases run
  · cases h
end

/-! ### a comprehension -/
/-- the ifs of a clause: none, or one -/
structure CF where
  run : Env → M Bool
  chk : Inf → List Expr → Bool
def GF (Kn : Kno) (k : Nat) (c : CF) : Prop := ∀ X W b, Bas Kn k b X W → ∀ e, c.chk ⟨X.N, X.env.scope, b⟩ e = true → PTs X e (rdT X.K X.mg W c.run)
theorem PTs.imp {X : Cx} {e : List Expr} {t t' : TT} (h : PTs X e t) (i : ∀ σ H Q, t' σ H Q → t σ H Q) : PTs X e t' := ⟨fun pins s σ H Q I q => h.run pins s σ H Q I (i σ H Q q)⟩
def fNil : CF := ⟨fun _ => M.ret true, fun _ es => match es with
  | [] => true
  | _ => false⟩
def fOne (t : CT) : CF := ⟨t.run, fun I es => match es with
  | [e] => t.chk I e
  | _ => false⟩
section
variable {Kn : Kno} {k : Nat}
theorem g_fNil : GF Kn k fNil := by
  intro X W cb b e h
  dsimp only [fNil] at h
  split at h
  · refine PTs.imp pts_nil ?_
    rintro σ H Q ⟨α, ρ, μ, r, μ', g, run, aft⟩
    exact rd_ret g.s run aft rfl
  · cases h
theorem g_fOne {t : CT} (ht : GT Kn k t) : GF Kn k (fOne t) := by
  intro X W cb b e h
  dsimp only [fOne] at h
  split at h
  · exact pts_one (ht X W cb b _ h)
  · cases h
end
def lcRun (w : Wk) (g : CG) (f : Env → M Bool) (e : Env → M D) (l : Nat) (ρ : Env) : Nat → Nat → M D
  | 0, i => fun μ => match w.get i μ with
    | some none => some (.ok (.ref l), μ)
    | _ => none
  | n + 1, i => fun μ => match w.get i μ with
    | some none => some (.ok (.ref l), μ)
    | some (some d) => match g.run d ρ μ with
      | some (ρ1, μ1) => match f ρ1 μ1 with
        | some (.ok true, μ2) => match e ρ1 μ2 with
          | some (.ok y, μ3) => match μ3[l]? with
            | some (.lst acc) => if acc.length < sizeLine then lcRun w g f e l ρ n (i + 1) (μ3.set l (.lst (acc ++ [y]))) else none
            | _ => none
          | _ => none
        | some (.ok false, μ2) => lcRun w g f e l ρ n (i + 1) μ2
        | _ => none
      | none => none
    | none => none
/-- where a block's code stands -/
def relS (sc scope : Scope) : Scope := { scope with names := scope.names.map fun (n, k) => if (k == NameKind.free && sc.kind == .function && sc.names.lookup n == some .cell) then (n, NameKind.cell) else (n, k) }
def inB (I : Inf) (scope : Scope) : Inf := ⟨I.N, relS I.sc scope, fun x => scope.names.lookup x == some .cell⟩
/-- [e for g in it if f]; vs: the block's names and their slots -/
def cLc (it : CI) (g : CG) (f : CF) (e : CE) (vs : List (Str × Nat)) : CE :=
  ⟨fun ρ => M.bnd (it.run ρ) fun w μ => lcRun w g f.run e.run μ.length (wipeE ρ (vs.map (·.2))) w.fuel 0 (μ ++ [.lst []]), fun I x => match x with
  | .ListComp elt [⟨tg, iter, ifs, 0⟩] scope _ => noSetI iter && (it.chk I tg iter && (blkC I.N I.sc scope vs && (g.chk (inB I scope) tg && (f.chk (inB I scope) ifs && e.chk (inB I scope) elt))))
  | _ => false⟩
theorem lc_bridge {K : PySem.W.Frag} {mg : Str → Option Value} {W : WX} {it : CI} {g : CG} {f : CF} {e : CE} {vs : List (Str × Nat)} :
    ∀ σ H Q, rdE K mg W (cLc it g f e vs).run σ H Q → tLc (rd (fun α H w J => JOk K α H w J) K mg W it.run) (rdGc K g.run (vs.map (·.2))) (rdT K mg (fun _ _ _ _ => False) f.run) (rdE K mg (fun _ _ _ _ => False) e.run) (vs.map (·.2)) σ H Q := by
  rintro σ H Q ⟨α, ρ, μ, q, μ', g0, run, aft⟩
  refine rd_seq g0 run aft fun w J α1 H1 μ1 g1 k1 jok run1 aft1 => fun D0 hD => ?_
  have xD : Ext α1 H1 (α1 ++ [D0]) (upd H1 D0 (.lst [])) := Ext.push hD
  have sD : RepS K (α1 ++ [D0]) (upd H1 D0 (.lst [])) (μ1 ++ [.lst []]) := g1.s.push hD ⟨[], upd_same, Reps.nil⟩
  have aD : (α1 ++ [D0])[μ1.length]? = some D0 := by
    rw [← g1.s.len, List.getElem?_append_right (Nat.le_refl _)]
    simp
  refine ⟨fun i n H' => ∃ α' μ2, RepS K α' H' μ2 ∧ Ext (α1 ++ [D0]) (upd H1 D0 (.lst [])) α' H' ∧ lcRun w g f.run e.run μ1.length (wipeE ρ (vs.map (·.2))) n i μ2 = some (q, μ'), ⟨w.fuel, _, _, sD, Ext.refl _ _, run1⟩, ?_⟩
  rintro i n H2 ⟨α2, μ2, s2, x2, run2⟩
  have x12 := xD.trans x2
  have j2 := jok α2 H2 μ2 i x12 s2
  have a2 : α2[μ1.length]? = some D0 := x2.pre _ _ aD
  have fin : w.get i μ2 = some none → (some (.ok (.ref μ1.length), μ2) : Option (Except Ex D × List O)) = some (q, μ') → J.stop i H2 ∧ Q (.ref D0) H2 := by
    intro e1 z
    rw [e1] at j2
    cases z
    exact ⟨j2, aft1 α2 _ H2 x12 s2 ⟨D0, rfl, a2⟩⟩
  cases n with
  | zero =>
    dsimp only [lcRun] at run2
    cases e1 : w.get i μ2 with
    | none => rw [e1] at run2; cases run2
    | some o =>
      cases o with
      | none => rw [e1] at run2; exact .inl (fin e1 run2)
      | some d => rw [e1] at run2; cases run2
  | succ n =>
    dsimp only [lcRun] at run2
    cases e1 : w.get i μ2 with
    | none => rw [e1] at run2; cases run2
    | some o =>
      cases o with
      | none => rw [e1] at run2; exact .inl (fin e1 run2)
      | some d =>
        rw [e1] at run2 j2
        obtain ⟨jg, jy⟩ := j2
        refine .inr ⟨jg, fun H' => ∃ α' μ2, RepS K α' H' μ2 ∧ Ext (α1 ++ [D0]) (upd H1 D0 (.lst [])) α' H' ∧ lcRun w g f.run e.run μ1.length (wipeE ρ (vs.map (·.2))) n (i + 1) μ2 = some (q, μ'), fun H' z => ⟨n, Nat.lt_succ_self n, z⟩, fun x H' y => ?_⟩
        obtain ⟨y1, y2, y3⟩ := jy x H' y
        dsimp only at run2
        cases e2 : g.run d (wipeE ρ (vs.map (·.2))) μ2 with
        | none => rw [e2] at run2; cases run2
        | some p =>
          obtain ⟨ρ3, μ3⟩ := p
          rw [e2] at run2
          dsimp only at run2
          have ew : RepE K α2 H' (wipeE ρ (vs.map (·.2))) (wipe σ (vs.map (·.2))) := ((g1.e.up (x12.trans y1))).wipe _
          refine ⟨α2, _, μ2, d, ρ3, μ3, ⟨y2, ew⟩, y3, e2, fun α3 σ3 H3 k3 s3 r3 z3 => ⟨z3.trans wipe_wipe, ?_⟩⟩
          have x3 := (x2.trans y1).trans k3
          cases e3 : f.run ρ3 μ3 with
          | none => rw [e3] at run2; cases run2
          | some p =>
            obtain ⟨r4, μ4⟩ := p
            rw [e3] at run2
            cases r4 with
            | error _ => cases run2
            | ok b =>
              refine ⟨α3, ρ3, μ3, .ok b, μ4, ⟨s3, r3⟩, e3, fun α4 b' H4 k4 s4 eb => ?_⟩
              subst eb
              have x4 := x3.trans k4
              cases b with
              | false =>
                rw [if_neg Bool.false_ne_true]
                exact ⟨α4, μ4, s4, x4, run2⟩
              | true =>
                rw [if_pos rfl]
                dsimp only at run2
                cases e4 : e.run ρ3 μ4 with
                | none => rw [e4] at run2; cases run2
                | some p =>
                  obtain ⟨r5, μ5⟩ := p
                  rw [e4] at run2
                  cases r5 with
                  | error _ => cases run2
                  | ok dy =>
                    refine ⟨α4, ρ3, μ4, .ok dy, μ5, ⟨s4, r3.up k4⟩, e4, fun α5 y' H5 k5 s5 ry => ?_⟩
                    have x5 := x4.trans k5
                    have a5 : α5[μ1.length]? = some D0 := x5.pre _ _ aD
                    dsimp only at run2
                    cases e5 : μ5[μ1.length]? with
                    | none => rw [e5] at run2; cases run2
                    | some ob =>
                      rw [e5] at run2
                      cases ob with
                      | dct _ => cases run2
                      | lst acc =>
                        dsimp only at run2
                        split at run2
                        · rename_i hz
                          obtain ⟨accv, hp, rp⟩ := s5.at_ _ _ _ e5 a5
                          have x6 : Ext α5 H5 α5 (upd H5 D0 (.lst (accv ++ [y']))) := Ext.put a5 hp fun z => z
                          refine ⟨accv, hp, by rw [rp.len]; exact hz, α5, _, s5.put (o := .lst (acc ++ [dy])) a5 ⟨_, upd_same, (rp.app (Reps.cons ry Reps.nil)).up x6⟩, x5.trans x6, run2⟩
                        · cases run2
section
variable {Kn : Kno} {k : Nat}
theorem Bas.blk {cb : Str → Bool} {X : Cx} {W : WX} (b : Bas Kn k cb X W) (s : Shared) (H : Hp) (scope : Scope) (C : Addr) (cl : List (Str × Addr)) (fp : List Addr) : Bas Kn k (fun x => scope.names.lookup x == some .cell) (X.blk s H scope (compEnvC scope cl C X.env) fp) (fun _ _ _ _ => False) :=
  ⟨b.kn, b.calm, b.nd, b.room, b.grd, takes0, b.sys, fun x hx => hx⟩
theorem g_lc {it : CI} {g : CG} {f : CF} {e : CE} {vs : List (Str × Nat)} (hi : GI Kn k it) (hg : GGc Kn k (vs.map (·.2)) g) (hf : GF Kn k f) (he : GE Kn k e) : GE Kn k (cLc it g f e vs) := by
  intro X W cb b x h
  dsimp only [cLc] at h
  split at h
  · rename_i elt tg iter ifs scope pos
    simp only [Bool.and_eq_true] at h
    obtain ⟨h1, h2, h3, h4, h5, h6⟩ := h
    refine PE.imp (pe_lc (g := rdGc X.K g.run (vs.map (·.2))) (tt := rdT X.K X.mg (fun _ _ _ _ => False) f.run) (te := rdE X.K X.mg (fun _ _ _ _ => False) e.run) b.calm b.nd (hi X W cb b _ _ h2) (blkOk_by h3) (fun s H C cl fp => hg _ _ _ (b.blk s H scope C cl fp) _ h4) (fun s H C cl fp => hf _ _ _ (b.blk s H scope C cl fp) _ h5)
      (fun s H C cl fp => he _ _ _ (b.blk s H scope C cl fp) _ h6) (noSetI_eq h1)) ?_
    exact lc_bridge
  · cases h
end

/-! ### stores: a comprehension, a display -/
def lcScope : Expr → Option Scope
  | .ListComp _ _ s _ => some s
  | .SetComp _ _ s _ => some s
  | .DictComp _ _ _ s _ => some s
  | _ => none
/-- the value is a comprehension that is put into a plain local name on its row -/
def swaps1 (sc : Scope) (t e : Expr) : Bool := match t with
  | .Name y p => decide (sc.names.lookup y = some .local) && p.line == e.pos.line && (match lcScope e with
    | some s => !(s.names.any fun (n, k) => n == y && (k == .local || k == .cell))
    | none => false)
  | _ => false
theorem swaps1_yes {sc : Scope} {t e : Expr} {l : Nat} {env : PySem.Env} (he : env.scope = sc) (hf : sc.kind = .function) (h : swaps1 sc t e = true) : swapsWith e (some t) l env = pure true := by
  subst he
  unfold swaps1 at h
  split at h
  · rename_i y p
    simp only [Bool.and_eq_true, decide_eq_true_eq] at h
    obtain ⟨⟨h1, h2⟩, h3⟩ := h
    have ky : env.kindOf y = some .local := h1
    have hb := fn_block hf
    cases e with
    | ListComp a b s q => dsimp only [lcScope] at h3; unfold swapsWith; simp only [hb, ky, h2, h3]; rfl
    | SetComp a b s q => dsimp only [lcScope] at h3; unfold swapsWith; simp only [hb, ky, h2, h3]; rfl
    | DictComp a b c s q => dsimp only [lcScope] at h3; unfold swapsWith; simp only [hb, ky, h2, h3]; rfl
    | _ => cases h3
  · cases h
theorem swaps1_no {sc : Scope} {t e : Expr} {l : Nat} {env : PySem.Env} (he : env.scope = sc) (h : swaps1 sc t e = false) : swapsWith e (some t) l env = pure false := by
  subst he
  cases hs : lcScope e with
  | none => cases e <;> first | rfl | cases hs
  | some s =>
    cases t with
    | Name y p =>
      have ky : (env.kindOf y == some .local) = decide (env.scope.names.lookup y = some .local) := by
        show (env.scope.names.lookup y == some .local) = _
        by_cases z : env.scope.names.lookup y = some .local
        · rw [z]; rfl
        · rw [decide_eq_false z]
          simp [z]
      unfold swaps1 at h
      dsimp only at h
      rw [hs] at h
      dsimp only at h
      have fin : ∀ b : Bool, (pure (b && (env.kindOf y == some .local) && p.line == e.pos.line && !(s.names.any fun (n, k) => n == y && (k == .local || k == .cell))) : Sem Bool) = pure false := by
        intro b
        rw [ky]
        cases b with
        | false => rfl
        | true => rw [Bool.true_and]; rw [h]
      cases e with
      | ListComp a b s q => cases hs; exact fin _
      | SetComp a b s q => cases hs; exact fin _
      | DictComp a b c s q => cases hs; exact fin _
      | _ => cases hs
    | _ =>
      cases e with
      | ListComp a b s q => rfl
      | SetComp a b s q => rfl
      | DictComp a b c s q => rfl
      | _ => cases hs
/-- no stores are exchanged -/
def parNo (sc : Scope) (t e : Expr) : Bool := match t with
  | .Tuple ts _ _ => (match e with
    | .Tuple vs _ _ => (!(ts.length == 2 || ts.length == 3) || vs.length != ts.length) || (decide ((ts.filterMap fun
      | .Name id pos => if sc.names.lookup id == some .local && pos.line == (ts.head?.map (·.pos.line)).getD 0 then some id else none
      | _ => none).length ≠ ts.length) || vs.all (foldedForSure 8))
    | _ => true)
  | .List _ _ => false
  | _ => true
theorem parNo_sw {sc : Scope} {t e : Expr} {env : PySem.Env} (he : env.scope = sc) (h : parNo sc t e = true) : swappedStores [t] e env = pure none := by
  subst he
  cases t with
  | Tuple ts k1 p1 =>
    cases e with
    | Tuple vs k2 p2 =>
      dsimp only [parNo] at h
      unfold swappedStores
      dsimp only
      by_cases h1 : (!(ts.length == 2 || ts.length == 3) || vs.length != ts.length || env.blockKind != .function) = true
      · simp only [h1, if_true]
      · have h1' := Bool.eq_false_iff.mpr h1
        simp only [h1', Bool.false_eq_true, if_false]
        simp only [Bool.or_eq_false_iff] at h1'
        rw [h1'.1.1, h1'.1.2] at h
        simp only [Bool.or_false, Bool.false_or, Bool.or_eq_true, decide_eq_true_eq] at h
        split
        · rfl
        · rcases h with h | h
          · rw [if_pos]
            rw [Bool.or_eq_true]
            left
            rw [bne_iff_ne]
            intro e
            refine h (Eq.trans ?_ e)
            congr 2
          · split
            · rfl
            · simp only [h, if_true]
    | _ => rfl
  | List _ _ => cases h
  | _ => rfl
section
variable {Kn : Kno} {k : Nat}
/-- a store of any target, where nothing is exchanged -/
def sAsg2 (g : CG) (a : CE) : CS := ⟨asgRun g a, fun I st => match st with
  | .Assign [t] e _ => !swaps1 I.sc t e && (noStar t && (parNo I.sc t e && (g.chk I t && a.chk I e)))
  | _ => false⟩
theorem g_sAsg2 {g : CG} {a : CE} (hg : GG Kn k g) (ha : GE Kn k a) : GS Kn k (sAsg2 g a) := by
  intro X W cb bs po e h
  dsimp only [sAsg2] at h
  split at h
  · simp only [Bool.and_eq_true, Bool.not_eq_true'] at h
    obtain ⟨h0, h1, h2, h3, h4⟩ := h
    exact PS.imp (ps_asg (ha X W cb bs _ h4) (hg X W cb bs _ h3) (swaps1_no rfl h0) (parNo_sw rfl h2) (by rw [asg_cons h1]; rfl)) (asg_fin)
  · cases h
/-- a plain local name and a comprehension on its row -/
def sSetLc (i : Nat) (it : CI) (g : CG) (f : CF) (e : CE) (vs : List (Str × Nat)) : CS := ⟨asgRun (gN i) (cLc it g f e vs), fun I st => match st with
  | .Assign [.Name y p] (.ListComp elt [⟨tg, iter, ifs, 0⟩] scope q) _ => decide (I.sc.kind = .function) && (decide (I.N[i]? = some y) && (decide (I.sc.names.lookup y = some .local) && (swaps1 I.sc (.Name y p) (.ListComp elt [⟨tg, iter, ifs, 0⟩] scope q) && (cLc it g f e vs).chk I (.ListComp elt [⟨tg, iter, ifs, 0⟩] scope q))))
  | _ => false⟩
theorem g_sSetLc {i : Nat} {it : CI} {g : CG} {f : CF} {e : CE} {vs : List (Str × Nat)} (hi : GI Kn k it) (hg : GGc Kn k (vs.map (·.2)) g) (hf : GF Kn k f) (he : GE Kn k e) : GS Kn k (sSetLc i it g f e vs) := by
  intro X W cb b po x h
  dsimp only [sSetLc] at h
  split at h
  · rename_i y p elt tg iter ifs scope q spos
    simp only [Bool.and_eq_true, decide_eq_true_eq] at h
    obtain ⟨z1, z2, z3, z4, h⟩ := h
    dsimp only [cLc] at h
    simp only [Bool.and_eq_true] at h
    obtain ⟨h1, h2, h3, h4, h5, h6⟩ := h
    refine PS.imp (ps_setLc (g := rdGc X.K g.run (vs.map (·.2))) (tt := rdT X.K X.mg (fun _ _ _ _ => False) f.run) (te := rdE X.K X.mg (fun _ _ _ _ => False) e.run) b.calm b.nd z2 z3 (swaps1_yes rfl z1 z4) (hi X W cb b _ _ h2) (blkOk_by h3) (fun s H C cl fp => hg _ _ _ (b.blk s H scope C cl fp) _ h4)
      (fun s H C cl fp => hf _ _ _ (b.blk s H scope C cl fp) _ h5) (fun s H C cl fp => he _ _ _ (b.blk s H scope C cl fp) _ h6) (noSetI_eq h1)) ?_
    rintro σ H Dn ⟨α, ρ, μ, q, μ', g0, run, aft⟩
    have z := asg_fin (g := gN i) (a := cLc it g f e vs) (X := X) (W := W) σ H Dn ⟨α, ρ, μ, q, μ', g0, run, aft⟩
    refine lc_bridge σ H _ ?_
    obtain ⟨α, ρ, μ, r, μ1, c1, c2, c3⟩ := z
    refine ⟨α, ρ, μ, r, μ1, c1, c2, ?_⟩
    cases r with
    | error x => exact c3
    | ok d =>
      intro α' v H' k' s' r'
      obtain ⟨α4, ρ4, μ4, d4, ρ5, μ5, g4, r4, e4, q4⟩ := c3 α' v H' k' s' r'
      cases e4
      exact q4 α4 _ H' (Ext.refl _ _) g4.s (g4.e.set i r4)
  · cases h
end
end Mi
/-! Mi, part J: enumerate over a tuple. -/
namespace Mi
open PySem L2 PyProof.Rows

theorem enumT_new (t : Addr) (items : Array Value) (n : Nat) (dct : Option Addr) (sl : Array (Option Value)) :
    Meets (Builtin.«enumerate.__new__» ⟨[.type "enumerate", .ref t], []⟩) (fun _ R s => s.heap.get? t = some { cls := .type "tuple", dict := dct, data := .seq items n, slots := sl } ∧
      R (.ok (.ret (.ref (s.heap.push { cls := .type "tuple_iterator", data := .fields #[.ref t, .int 0 0] }).objs.size)))
        { s with heap := (s.heap.push { cls := .type "tuple_iterator", data := .fields #[.ref t, .int 0 0] }).push { cls := .type "enumerate", data := .fields #[.none, .bool false, .ref s.heap.objs.size, rawInt 0, .none, .none] } }) :=
  .of_wp fun prog w A R s hh => by
    obtain ⟨hp, g, d, tk, os⟩ := s
    obtain ⟨ht, hh⟩ := hh
    have hs1 := sub_enumerate
    have hT : Heap.IsTuple (Shared.heap ⟨hp, g, d, tk, os⟩) t items := ⟨_, ht, rfl, n, rfl⟩
    wp_walk using AutoSeq1.wpAny_loadPart' ht
    refine wpAny_stack_any fun st => wpAny_pure ?_
    split
    · rename_i c _ _ _ _ _
      cases (c == Value.type "enumerate")
      · wp_walk using AutoSeq1.wpAny_loadPart' ht, wpAny_pyIter_tuple hT
        exact ⟨_, rfl, hh⟩
      · wp_walk using AutoSeq1.wpAny_loadPart' ht, wpAny_pyIter_tuple hT
        exact ⟨_, rfl, hh⟩
    · wp_walk using AutoSeq1.wpAny_loadPart' ht, wpAny_pyIter_tuple hT
      exact ⟨_, rfl, hh⟩
section
variable {prog : Program} {w : World} {A : Around} {E : Value → Shared → Prop} {s : Shared}
theorem enumT_call {t : Addr} {items : Array Value} {Q : Value → Shared → Prop} (hT : s.heap.IsTuple t items)
    (h : ∀ h', IsEnum h' (s.heap.objs.size + 1) s.heap.objs.size 0 .none → h'.IsTupleIter s.heap.objs.size t 0 → h'.objs.size = s.heap.objs.size + 2 →
      (∀ b o, s.heap.get? b = some o → h'.get? b = some o) → Q (.ref (s.heap.objs.size + 1)) { s with heap := h' }) :
    wpAny (model prog w) A (call (.type "enumerate") [.ref t]) Q E s := by
  obtain ⟨⟨c, dct, dt, sl⟩, ht, hc, n, hd⟩ := hT
  replace hc : c = .type "tuple" := hc
  replace hd : dt = .seq items n := hd
  subst hc hd
  refine callType_new F.called_enumerate (by decide) (F.typeCall_enumerate_1 _) (F.newCall_enumerate_1 _) (fun obj => F.args_object_init_2 obj _) F.entry_enumerate_new (enumT_new t items n dct sl) ⟨ht, ?_⟩
  have hz : (s.heap.push { cls := .type "tuple_iterator", data := .fields #[.ref t, .int 0 0] }).objs.size = s.heap.objs.size + 1 := Heap.size_push ..
  show _ ∧ _
  rw [hz]
  have he : IsEnum ((s.heap.push { cls := .type "tuple_iterator", data := .fields #[.ref t, .int 0 0] }).push
      { cls := .type "enumerate", data := .fields #[.none, .bool false, .ref s.heap.objs.size, rawInt 0, .none, .none] }) (s.heap.objs.size + 1) s.heap.objs.size 0 .none := by
    have := Heap.get?_push_size (s.heap.push { cls := .type "tuple_iterator", data := .fields #[.ref t, .int 0 0] })
      (o := { cls := .type "enumerate", data := .fields #[.none, .bool false, .ref s.heap.objs.size, rawInt 0, .none, .none] }) rfl
    rw [hz] at this; exact this
  refine ⟨⟨_, he, rfl⟩, h _ he ⟨_, Heap.get?_push_of_some _ (Heap.get?_push_size _ rfl), rfl, rfl⟩ (by rw [Heap.size_push, hz]) fun b o x => Heap.get?_push_of_some _ (Heap.get?_push_of_some _ x)⟩
end
/-- the tuple at a, each item in a new pair -/
def ItT (K : PySem.W.Frag) (a : Addr) (n : Nat) : It :=
  ⟨fun i H => ∃ (xs : List V) (x : V), SqT K H a xs ∧ xs.length = n ∧ xs[i]? = some x, fun i H v H' => ∃ T x, v = .ref T ∧ H T = none ∧ H' = upd H T (.tup [.int (i : Nat), x]) ∧ ∀ xs, SqT K H a xs → xs[i]? = some x, fun i H => ∃ xs : List V, SqT K H a xs ∧ xs.length = n ∧ xs.length ≤ i⟩
theorem turn_enT {P : Program} {w : World} {K : PySem.W.Frag} {elts : List Expr} {kk : Nat} {tpos : Pos} (a e it : Addr) (n : Nat) (hai : a ≠ it) (hae : a ≠ e) (hne : e ≠ it) :
    Turn P w K (.Tuple elts kk tpos) (ItT K a n) [e, it] e (fun i h => i ≤ n ∧ (∃ old, IsEnum h e it ((i : Nat) : Int) old) ∧ h.IsTupleIter it a i) where
  mem := by simp
  obj := fun i h st b hb => by
    obtain ⟨_, ⟨old, he⟩, ⟨o, ho, hc, hd⟩⟩ := st
    have e' : b = e ∨ b = it := by simpa using hb
    rcases e' with z | z
    · rw [z]; exact ⟨_, he, fun v q => nomatch q⟩
    · rw [z]; exact ⟨o, ho, fun v q => by rw [hd] at q; cases q⟩
  keep := fun i h h' st k => let ⟨hi, ⟨old, he⟩, ht⟩ := st; ⟨hi, ⟨old, k e (by simp) _ he⟩, ht.at fun o q => k it (by simp) o q⟩
  item := by
    intro X hP hw hK hc i pins s σ H E I hf st hg
    subst hP hw hK
    obtain ⟨hi, ⟨old, he⟩, hit⟩ := st
    obtain ⟨xs, x, hq, hn, hx⟩ := hg
    obtain ⟨its, rv, p, hz⟩ := I.tuple hq
    obtain ⟨u, hu, ru⟩ := rv.get hx
    have hel : e < s.heap.objs.size := Heap.lt_size he
    have hil : it < s.heap.objs.size := by obtain ⟨_, q, _⟩ := hit; exact Heap.lt_size q
    have D := Draws.tuple (prog := X.prog) (w := X.w) (A := X.A.in1) (I.ok.hd hc) it a hai its.toArray
    have hlt : i < its.toArray.size := by
      have := (List.getElem?_eq_some_iff.mp hu).1
      simpa using this
    refine wpAny_pyNext_enum_itemD D he ⟨hit, p⟩ hlt hne (by simp [hne, Ne.symm hae]) fun y h' tk hy ho hit' hT hsz hk => ?_
    have eu : y = u := by
      have h1 : its[i]? = some y := by simpa using hy
      rw [h1] at hu
      exact Option.some.inj hu
    subst eu
    refine ⟨_, rfl, wpAny_letOwnedTupleGo_enum (s := { s with heap := h', toks := tk + 1 }) ho fun h'' he' sb => ?_⟩
    have hT2 : h''.get? s.heap.objs.size = some { cls := .type "tuple", data := .seq #[.int i tk, y] } := (sb.2 _ (Nat.ne_of_gt hel)).trans hT
    have new : ObjOk X.prog X.w (upd H s.heap.objs.size (.tup [.int (i : Nat), x])) h'' s.heap.objs.size (.tup [.int (i : Nat), x]) :=
      ⟨by show 2 ≤ sizeLine; decide, [.int i tk, y], .cons ⟨_, rfl⟩ (.cons ru .nil), ⟨_, hT2, rfl, _, rfl⟩⟩
    have I1 : Inv X pins σ (upd H s.heap.objs.size (.tup [.int (i : Nat), x])) { s with heap := h'', toks := tk + 1 } :=
      I.turnedNew (ch := [e, it]) (fun b ob hb q => (sb.2 b (fun z => hb (by simp [z]))).trans (hk b ob (fun z => hb (by simp [z])) (fun z => hb (by simp [z])) q)) hf (Nat.le_refl _) new
    have hit2 : h''.IsTupleIter it a (i + 1) := hit'.1.at fun o q => (sb.2 it (Ne.symm hne)).trans q
    refine ⟨.ref s.heap.objs.size, _, I1, rfl, ⟨_, x, rfl, I.hok.fresh (Nat.le_refl _), rfl, fun ys hy => by rw [I.tuple_inj hy hq]; exact hx⟩, ⟨?_, ⟨y, ?_⟩, hit2⟩, fun b hb => ?_⟩
    · have := (List.getElem?_eq_some_iff.mp hx).1
      omega
    · have e1 : ((i + 1 : Nat) : Int) = (i : Int) + 1 := by omega
      rw [e1]; exact he'
    · have hb' : b < s.heap.objs.size := by
        have e' : b = e ∨ b = it := by simpa using hb
        rcases e' with z | z
        · rw [z]; exact hel
        · rw [z]; exact hil
      rw [upd_ne (Nat.ne_of_lt hb')]
      exact (hf b hb).1
  done := by
    intro X hP hw hK hc i pins s σ H E I hf st hg
    subst hP hw hK
    obtain ⟨hi, ⟨old, he⟩, hit⟩ := st
    obtain ⟨xs, hq, hn, hx⟩ := hg
    obtain ⟨its, rv, p, hz⟩ := I.tuple hq
    obtain ⟨f0, f1, f2, f3, f4, f5⟩ := hf it (by simp)
    have hl := rv.length
    have D := Draws.tuple (prog := X.prog) (w := X.w) (A := X.A.in1) (I.ok.hd hc) it a hai its.toArray
    have hz2 : its.toArray.size = i := by
      show its.length = i
      omega
    refine wpAny_pyNext_enum_endD D he ⟨by rw [hz2]; exact hit, p⟩ fun h' eb => ⟨rfl, I.turned (t' := s.toks) (fun b o hb q => eb b o hb q) f0 f1 f3 f4 f5⟩
  self := fun A i s Q E st h => let ⟨_, ⟨_, he⟩, _⟩ := st; wpAny_pyIter_enum he h

def iEnT (K : PySem.W.Frag) (ta : TA) : TI := fun σ H R => ta σ H fun vs H1 => ∃ a xs, vs = [.ref a] ∧ ((SqL K H1 a xs ∧ R (Ite K a) H1) ∨ (SqT K H1 a xs ∧ R (ItT K a xs.length) H1))
/-- enumerate of a list, a tuple -/
theorem pi_enT {X : Cx} {e : Expr} {ta : TA} {p pos tpos : Pos} {elts : List Expr} {kk : Nat} (hg : Gl X "enumerate") (hm : X.mg "enumerate" = none) (ha : PA X [e] ta) (hs : starEach [e] X.env = [(false, eval e X.env)] := by rfl) :
    PI X (.Tuple elts kk tpos) (.Call (.Name "enumerate" p) [e] [] pos) (iEnT X.K ta) := by
  refine ⟨fun pins s σ H R I h => ?_⟩
  refine Call_ (ld_blt I hg hm boot_enumerate (PyProof.Rows.callWith_type1 (thn (ha.run pos pins s σ H _ I h) fun us s1 ⟨vs, H1, I1, r1, q1⟩ => ?_) hs rfl))
  obtain ⟨a, xs, ex, q1⟩ := q1
  subst ex
  have fr : ∀ b ∈ [s1.heap.objs.size + 1, s1.heap.objs.size], FpOk X pins H1 b := fun b hb => by
    have e' : b = s1.heap.objs.size + 1 ∨ b = s1.heap.objs.size := by simpa using hb
    have hle : s1.heap.objs.size ≤ b := by
      rcases e' with z | z
      · rw [z]; exact Nat.le_add_right _ _
      · rw [z]; exact Nat.le_refl _
    exact I1.fpOk hle (I1.hok.fresh hle)
  cases r1 with
  | cons r rr =>
    cases rr
    cases r
    rcases q1 with ⟨hq, q⟩ | ⟨hq, q⟩
    · obtain ⟨its, rv, p', hz⟩ := I1.list hq
      refine call_enumerate_list p'.isList fun h' he hit hsz hk => wpAny_pyIter_enum he ?_
      have I2 : Inv X pins σ H1 { s1 with heap := h' } := I1.kept (t' := s1.toks) hk
      exact ⟨s1.heap.objs.size + 1, [s1.heap.objs.size + 1, s1.heap.objs.size], _, _, H1, rfl, I2, turn_enum a (s1.heap.objs.size + 1) s1.heap.objs.size, ⟨⟨.none, he⟩, hit, Nat.succ_ne_self _⟩, fr, q⟩
    · obtain ⟨its, rv, p', hz⟩ := I1.tuple hq
      obtain ⟨o1, ho1, _⟩ := id p'
      have hlt := Heap.lt_size ho1
      refine enumT_call p' fun h' he hit hsz hk => wpAny_pyIter_enum he ?_
      have I2 : Inv X pins σ H1 { s1 with heap := h' } := I1.kept (t' := s1.toks) hk
      exact ⟨s1.heap.objs.size + 1, [s1.heap.objs.size + 1, s1.heap.objs.size], _, _, H1, rfl, I2, turn_enT a (s1.heap.objs.size + 1) s1.heap.objs.size xs.length (Nat.ne_of_lt hlt) (Nat.ne_of_lt (Nat.lt_succ_of_lt hlt)) (Nat.succ_ne_self _), ⟨Nat.zero_le _, ⟨.none, he⟩, hit⟩, fr, q⟩

/-! ### walkers: enumerate, zip -/
def wkE (w : Wk) : Wk := ⟨fun i μ => match w.get i μ with
  | some (some d) => some (some (.tup [.int i, d]))
  | some none => some none
  | none => none, w.fuel⟩
def wkZ (w u : Wk) : Wk := ⟨fun i μ => match w.get i μ, u.get i μ with
  | some (some d), some (some e) => some (some (.tup [d, e]))
  | some none, some _ => some none
  | some _, some none => some none
  | _, _ => none, w.fuel⟩
def enW : D → M Wk
  | .tup ds => M.ret (wkE (wkOf ds))
  | .fro ds => M.ret (wkE (wkOf ds))
  | .ref l => M.bnd (M.lst l) fun ds => M.ret (wkE (wkL l ds.length))
  | _ => M.stop
def zipW : D → D → M Wk
  | .tup ds, .tup es => M.ret (wkZ (wkOf ds) (wkOf es))
  | .fro ds, .fro es => M.ret (wkZ (wkOf ds) (wkOf es))
  | .ref l, .fro es => M.bnd (M.lst l) fun ds => M.ret (wkZ (wkL l ds.length) (wkOf es))
  | .fro ds, .ref m => M.bnd (M.lst m) fun es => M.ret (wkZ (wkOf ds) (wkL m es.length))
  | .ref l, .ref m => M.bnd (M.lst l) fun ds => M.bnd (M.lst m) fun es => M.ret (wkZ (wkL l ds.length) (wkL m es.length))
  | _, _ => M.stop
theorem pair_in {K : PySem.W.Frag} {α : List Addr} {H : Hp} {μ : List O} {T : Addr} {x y : V} {d e : D} (s : RepS K α H μ) (hT : H T = none) (r1 : Rep K α H d x) (r2 : Rep K α H e y) :
    Ext α H α (upd H T (.tup [x, y])) ∧ RepS K α (upd H T (.tup [x, y])) μ ∧ Rep K α (upd H T (.tup [x, y])) (.tup [d, e]) (.ref T) :=
  ⟨Ext.lay hT, s.lay hT, T, [x, y], rfl, SqT.of upd_same, (Reps.cons r1 (Reps.cons r2 Reps.nil)).up (Ext.lay hT)⟩
/-- a source that is a sequence -/
def SOk (K : PySem.W.Frag) (α0 : List Addr) (H0 : Hp) (w : Wk) (Sq : Hp → List V → Prop) : Prop := ∀ α H μ i, Ext α0 H0 α H → RepS K α H μ → match w.get i μ with
  | some none => ∃ xs, Sq H xs ∧ xs.length ≤ i
  | some (some d) => ∃ xs x, Sq H xs ∧ xs[i]? = some x ∧ Rep K α H d x
  | none => True
section
variable {K : PySem.W.Frag} {α : List Addr} {H : Hp} {w u : Wk} {p q : Addr} {ds : List D} {vs : List V} {n m : Nat}
theorem SOk.up {α' : List Addr} {H' : Hp} {Sq : Hp → List V → Prop} (h : SOk K α H w Sq) (x : Ext α H α' H') : SOk K α' H' w Sq := fun α1 H1 μ i x1 => h α1 H1 μ i (x.trans x1)
theorem s_tup (t : SqT K H p vs) (r : Reps K α H ds vs) : SOk K α H (wkOf ds) fun H xs => SqT K H p xs ∧ xs.length = vs.length := by
  intro α1 H1 μ i x s
  have t1 := x.sqT t
  have r1 := r.up x
  dsimp only [wkOf]
  cases e : ds[i]? with
  | none => exact ⟨vs, ⟨t1, rfl⟩, by rw [r1.len]; exact List.getElem?_eq_none_iff.mp e⟩
  | some d =>
    obtain ⟨v, h1, h2⟩ := r1.get e
    exact ⟨vs, v, ⟨t1, rfl⟩, h1, h2⟩
theorem s_fro (t : FqL K H p vs) (r : Reps K α H ds vs) : SOk K α H (wkOf ds) fun H xs => SqL K H p xs := by
  intro α1 H1 μ i x s
  have t1 := (x.fqL t).sq
  have r1 := r.up x
  dsimp only [wkOf]
  cases e : ds[i]? with
  | none => exact ⟨vs, t1, by rw [r1.len]; exact List.getElem?_eq_none_iff.mp e⟩
  | some d =>
    obtain ⟨v, h1, h2⟩ := r1.get e
    exact ⟨vs, v, t1, h1, h2⟩
theorem s_lst {l : Nat} (a : α[l]? = some p) : SOk K α H (wkL l n) fun H xs => SqL K H p xs := by
  intro α1 H1 μ i x s
  have a1 := x.pre l p a
  dsimp only [wkL]
  cases e0 : μ[l]? with
  | none => trivial
  | some o =>
    cases o with
    | dct _ => trivial
    | lst ds =>
      obtain ⟨vs, hp, r1⟩ := s.at_ l _ p e0 a1
      dsimp only
      cases e : ds[i]? with
      | none => exact ⟨vs, SqL.of hp, by rw [r1.len]; exact List.getElem?_eq_none_iff.mp e⟩
      | some d =>
        obtain ⟨v, h1, h2⟩ := r1.get e
        exact ⟨vs, v, SqL.of hp, h1, h2⟩
theorem jok_enL (j : SOk K α H w fun H xs => SqL K H p xs) : JOk K α H (wkE w) (Ite K p) := by
  intro α1 H1 μ i x s
  have j1 := j α1 H1 μ i x s
  dsimp only [wkE]
  cases e : w.get i μ with
  | none => trivial
  | some o =>
    rw [e] at j1
    cases o with
    | none => exact j1
    | some d =>
      obtain ⟨xs, v, t1, h1, r1⟩ := j1
      refine ⟨⟨xs, v, t1, h1⟩, ?_⟩
      rintro y H' ⟨T, x0, rfl, hT, rfl, hx⟩
      have e0 := hx xs t1
      rw [h1] at e0
      cases e0
      exact pair_in s hT rfl r1
theorem jok_enT (j : SOk K α H w fun H xs => SqT K H p xs ∧ xs.length = n) : JOk K α H (wkE w) (ItT K p n) := by
  intro α1 H1 μ i x s
  have j1 := j α1 H1 μ i x s
  dsimp only [wkE]
  cases e : w.get i μ with
  | none => trivial
  | some o =>
    rw [e] at j1
    cases o with
    | none =>
      obtain ⟨xs, ⟨t1, t2⟩, h⟩ := j1
      exact ⟨xs, t1, t2, h⟩
    | some d =>
      obtain ⟨xs, v, ⟨t1, t2⟩, h1, r1⟩ := j1
      refine ⟨⟨xs, v, t1, t2, h1⟩, ?_⟩
      rintro y H' ⟨T, x0, rfl, hT, rfl, hx⟩
      have e0 := hx xs t1
      rw [h1] at e0
      cases e0
      exact pair_in s hT rfl r1
theorem jok_zipL (j : SOk K α H w fun H xs => SqL K H p xs) (j' : SOk K α H u fun H xs => SqL K H q xs) : JOk K α H (wkZ w u) (Itz K p q) := by
  intro α1 H1 μ i x s
  have j1 := j α1 H1 μ i x s
  have j2 := j' α1 H1 μ i x s
  dsimp only [wkZ]
  cases e : w.get i μ with
  | none => trivial
  | some o =>
    rw [e] at j1
    cases e' : u.get i μ with
    | none => cases o <;> trivial
    | some o' =>
      rw [e'] at j2
      cases o with
      | none =>
        obtain ⟨xs, t1, h1⟩ := j1
        cases o' with
        | none =>
          obtain ⟨ys, t2, h2⟩ := j2
          exact ⟨xs, ys, t1, t2, .inl h1⟩
        | some d' =>
          obtain ⟨ys, y, t2, h2, r2⟩ := j2
          exact ⟨xs, ys, t1, t2, .inl h1⟩
      | some d =>
        obtain ⟨xs, v, t1, h1, r1⟩ := j1
        cases o' with
        | none =>
          obtain ⟨ys, t2, h2⟩ := j2
          exact ⟨xs, ys, t1, t2, .inr h2⟩
        | some d' =>
          obtain ⟨ys, v', t2, h2, r2⟩ := j2
          refine ⟨⟨xs, ys, v, v', t1, t2, h1, h2⟩, ?_⟩
          rintro y H' ⟨T, x0, y0, rfl, hT, rfl, hx, hy⟩
          have e0 := hx xs t1
          rw [h1] at e0
          cases e0
          have e1 := hy ys t2
          rw [h2] at e1
          cases e1
          exact pair_in s hT r1 r2
theorem jok_zipT (j : SOk K α H w fun H xs => SqT K H p xs ∧ xs.length = n) (j' : SOk K α H u fun H xs => SqT K H q xs ∧ xs.length = m) : JOk K α H (wkZ w u) (RZ.ItzT K p q) := by
  intro α1 H1 μ i x s
  have j1 := j α1 H1 μ i x s
  have j2 := j' α1 H1 μ i x s
  dsimp only [wkZ]
  cases e : w.get i μ with
  | none => trivial
  | some o =>
    rw [e] at j1
    cases e' : u.get i μ with
    | none => cases o <;> trivial
    | some o' =>
      rw [e'] at j2
      cases o with
      | none =>
        obtain ⟨xs, ⟨t1, _⟩, h1⟩ := j1
        cases o' with
        | none =>
          obtain ⟨ys, ⟨t2, _⟩, h2⟩ := j2
          exact ⟨xs, ys, t1, t2, .inl h1⟩
        | some d' =>
          obtain ⟨ys, y, ⟨t2, _⟩, h2, r2⟩ := j2
          exact ⟨xs, ys, t1, t2, .inl h1⟩
      | some d =>
        obtain ⟨xs, v, ⟨t1, _⟩, h1, r1⟩ := j1
        cases o' with
        | none =>
          obtain ⟨ys, ⟨t2, _⟩, h2⟩ := j2
          exact ⟨xs, ys, t1, t2, .inr h2⟩
        | some d' =>
          obtain ⟨ys, v', ⟨t2, _⟩, h2, r2⟩ := j2
          refine ⟨⟨xs, ys, v, v', t1, t2, h1, h2⟩, ?_⟩
          rintro y H' ⟨T, x0, y0, rfl, hT, rfl, hx, hy⟩
          have e0 := hx xs t1
          rw [h1] at e0
          cases e0
          have e1 := hy ys t2
          rw [h2] at e1
          cases e1
          exact pair_in s hT r1 r2
end
def isTup : Expr → Bool
  | .Tuple _ _ _ => true
  | _ => false
section
variable {Kn : Kno} {k : Nat}
def iEn (a : CE) : CI := ⟨fun ρ => M.bnd (a.run ρ) enW, fun I tg e => match tg, e with
  | .Tuple _ _ _, .Call (.Name y _) [x] [] _ => decide (y = ("enumerate" : Str)) && (glo I.sc y && (noStar x && a.chk I x))
  | _, _ => false⟩
theorem g_iEn {a : CE} (hb : Bare Kn "enumerate") (ha : GE Kn k a) : GI Kn k (iEn a) := by
  intro X W cb bs tg e h
  dsimp only [iEn] at h
  split at h
  · simp only [Bool.and_eq_true, decide_eq_true_eq, glo] at h
    obtain ⟨h1, h2, h3, h4⟩ := h
    subst h1
    refine PI.imp (pi_enT h2 (hb _ _ _ _ _ bs.kn) (pa_cons (ha X W cb bs _ h4) pa_nil (star_cons h3)) (star_cons h3)) ?_
    rintro σ H R ⟨α, ρ, μ, q, μ', g, run, aft⟩
    refine rd_seq g run aft fun d v α1 H1 μ1 g1 k1 r1 run1 aft1 => ?_
    cases d with
    | tup ds =>
      obtain ⟨p, vs, e, t, w⟩ := r1
      subst e
      exact ⟨p, vs, rfl, .inr ⟨t, rd_ret (R := fun α H w J => JOk X.K α H w J) g1.s run1 aft1 (jok_enT (s_tup t w))⟩⟩
    | fro ds =>
      obtain ⟨p, vs, e, t, w⟩ := r1
      subst e
      exact ⟨p, vs, rfl, .inl ⟨t.sq, rd_ret (R := fun α H w J => JOk X.K α H w J) g1.s run1 aft1 (jok_enL (s_fro t w))⟩⟩
    | ref l =>
      obtain ⟨ds, h1, run1⟩ := bnd_lst run1
      obtain ⟨p1, v1, e1, a1, b1, c1⟩ := lst_at g1.s r1 h1
      subst e1
      exact ⟨p1, v1, rfl, .inl ⟨SqL.of b1, rd_ret (R := fun α H w J => JOk X.K α H w J) g1.s run1 aft1 (jok_enL (s_lst a1))⟩⟩
    | _ => cases run1
  · cases h
def iZp (a b : CE) : CI := ⟨fun ρ => M.bnd (a.run ρ) fun x => M.bnd (b.run ρ) fun y => zipW x y, fun I tg e => match tg, e with
  | .Tuple _ _ _, .Call (.Name n _) [x, y] [] _ => decide (n = ("zip" : Str)) && (glo I.sc n && (noStar x && (noStar y && (a.chk I x && b.chk I y))))
  | _, _ => false⟩
theorem g_iZp {a b : CE} (hz : Bare Kn "zip") (ha : GE Kn k a) (hb : GE Kn k b) : GI Kn k (iZp a b) := by
  intro X W cb bs tg e h
  dsimp only [iZp] at h
  split at h
  · simp only [Bool.and_eq_true, decide_eq_true_eq, glo] at h
    obtain ⟨h1, h2, h3, h3', h4, h5⟩ := h
    subst h1
    refine PI.imp (RZ.pi_zipA h2 (hz _ _ _ _ _ bs.kn) (pa_cons (ha X W cb bs _ h4) (pa_cons (hb X W cb bs _ h5) pa_nil (star_cons h3')) (star_cons h3)) (by rw [star_cons h3]) (by rw [star_cons h3']; rfl)) ?_
    rintro σ H R ⟨α, ρ, μ, q, μ', g, run, aft⟩
    refine rd_seq g run aft fun d v α1 H1 μ1 g1 k1 r1 run1 aft1 => ?_
    refine rd_seq g1 run1 aft1 fun d2 v2 α2 H2 μ2 g2 k2 r2 run2 aft2 => ?_
    have r1' := r1.up k2
    cases d with
    | tup ds =>
      cases d2 with
      | tup es =>
        obtain ⟨p, vs, e, t, w⟩ := r1'
        obtain ⟨p', vs', e', t', w'⟩ := r2
        subst e e'
        exact ⟨p, p', vs, vs', rfl, .inr ⟨t, t', rd_ret (R := fun α H w J => JOk X.K α H w J) g2.s run2 aft2 (jok_zipT (s_tup t w) (s_tup t' w'))⟩⟩
      | _ => cases run2
    | fro ds =>
      obtain ⟨p, vs, e, t, w⟩ := r1'
      subst e
      cases d2 with
      | fro es =>
        obtain ⟨p', vs', e', t', w'⟩ := r2
        subst e'
        exact ⟨p, p', vs, vs', rfl, .inl ⟨t.sq, t'.sq, rd_ret (R := fun α H w J => JOk X.K α H w J) g2.s run2 aft2 (jok_zipL (s_fro t w) (s_fro t' w'))⟩⟩
      | ref m =>
        obtain ⟨es, h1, run2⟩ := bnd_lst run2
        obtain ⟨p1, v1, e1, a1, b1, c1⟩ := lst_at g2.s r2 h1
        subst e1
        exact ⟨p, p1, vs, v1, rfl, .inl ⟨t.sq, SqL.of b1, rd_ret (R := fun α H w J => JOk X.K α H w J) g2.s run2 aft2 (jok_zipL (s_fro t w) (s_lst a1))⟩⟩
      | _ => cases run2
    | ref l =>
      cases d2 with
      | fro es =>
        obtain ⟨p', vs', e', t', w'⟩ := r2
        subst e'
        obtain ⟨ds, h1, run2⟩ := bnd_lst run2
        obtain ⟨p1, v1, e1, a1, b1, c1⟩ := lst_at g2.s r1' h1
        subst e1
        exact ⟨p1, p', v1, vs', rfl, .inl ⟨SqL.of b1, t'.sq, rd_ret (R := fun α H w J => JOk X.K α H w J) g2.s run2 aft2 (jok_zipL (s_lst a1) (s_fro t' w'))⟩⟩
      | ref m =>
        obtain ⟨ds, h1, run2⟩ := bnd_lst run2
        obtain ⟨es, h2, run2⟩ := bnd_lst run2
        obtain ⟨p1, v1, e1, a1, b1, c1⟩ := lst_at g2.s r1' h1
        obtain ⟨p2, v2', e2, a2, b2, c2⟩ := lst_at g2.s r2 h2
        subst e1 e2
        exact ⟨p1, p2, v1, v2', rfl, .inl ⟨SqL.of b1, SqL.of b2, rd_ret (R := fun α H w J => JOk X.K α H w J) g2.s run2 aft2 (jok_zipL (s_lst a1) (s_lst a2))⟩⟩
      | _ => cases run2
    | _ => cases run2
  · cases h
end
end Mi
/-! Mi, part L: calls with names, methods, more built-ins. -/
namespace Mi
open PySem L2 PyProof.Rows

/-! ### a def of the module, called with names -/
def permL {a : Type} (perm : List Nat) (xs : List a) : List a := perm.filterMap (xs[·]?)
theorem vals_get : ∀ {vs : List V} {us : List Value} {i : Nat}, Vals vs us → (vs[i]? = none ∧ us[i]? = none) ∨ ∃ v u, vs[i]? = some v ∧ us[i]? = some u ∧ RelV v u
  | _, _, _, .nil => .inl ⟨rfl, rfl⟩
  | _, _, 0, .cons r t => .inr ⟨_, _, rfl, rfl, r⟩
  | _, _, i + 1, .cons r t => vals_get (i := i) t
theorem perm_vals {vs : List V} {us : List Value} (r : Vals vs us) : ∀ perm : List Nat, Vals (permL perm vs) (permL perm us)
  | [] => .nil
  | i :: p => by
    unfold permL
    rcases vals_get (i := i) r with ⟨h1, h2⟩ | ⟨v, u, h1, h2, h3⟩
    · rw [List.filterMap_cons, List.filterMap_cons, h1, h2]
      exact perm_vals r p
    · rw [List.filterMap_cons, List.filterMap_cons, h1, h2]
      exact .cons h3 (perm_vals r p)
theorem perm_reps {K : PySem.W.Frag} {α : List Addr} {H : Hp} {ds : List D} {vs : List V} (r : Reps K α H ds vs) : ∀ perm : List Nat, Reps K α H (permL perm ds) (permL perm vs)
  | [] => rfl
  | i :: p => by
    unfold permL
    rw [List.filterMap_cons, List.filterMap_cons]
    cases h : ds[i]? with
    | none =>
      have h2 : vs[i]? = none := by
        rw [List.getElem?_eq_none_iff] at h ⊢
        rw [r.len]
        exact h
      rw [h2]
      exact perm_reps r p
    | some d =>
      obtain ⟨v, h1, h2⟩ := r.get h
      rw [h1]
      exact Reps.cons h2 (perm_reps r p)
/-- how a call with names binds: np values by place, then the names ks -/
def KwB (K : PySem.W.Frag) (fd : FuncData) (ps ks : List Str) (np : Nat) (perm : List Nat) : Prop := ∀ (s : Shared) (us ws : List Value), us.length = np → ws.length = ks.length → BindsTo s fd ⟨us, ks.zip ws⟩ (ps.zip (permL perm (us ++ ws)))
theorem _root_.L2.Fun.kw {K : PySem.W.Frag} {x qual : Str} {st : Stmt} {f : Addr} {fd : FuncData} {ps ks : List Str} {np : Nat} {perm : List Nat} (F : Fun K x qual st f fd)
    (h : ∀ (kV doc pm : Value) (an : Option Addr) (cdv ct : Value) (us ws : List Value), us.length = np → ws.length = ks.length → bindArgs (PySem.W.fnOf x qual (defArgs st) (defBody st) (defScope st) .none kV doc pm an cdv ct) ⟨us, ks.zip ws⟩ = pure (ps.zip (permL perm (us ++ ws)))) : KwB K fd ps ks np perm := by
  obtain ⟨oc, od, kV, doc, pm, an, cdv, ct, osl, rfl, lk, hcd⟩ := F.ex
  exact fun s us ws h1 h2 => .of_eq (h kV doc pm an cdv ct us ws h1 h2)
def Knk (Kn : Kno) (x : Str) (ps ks : List Str) (np : Nat) (perm : List Nat) (m : List D → M D) (k : Nat) : Prop := ∀ P w K mg base, Kn P w K mg base →
  ∃ f fd, FnG P w K mg base k f fd ps (spOf K mg m) ∧ mg x = some (.ref f) ∧ PySem.W.keepIn K (.ref f) = true ∧ KwB K fd ps ks np perm
theorem Knk.up {Kn : Kno} {x : Str} {ps ks : List Str} {np : Nat} {perm : List Nat} {m : List D → M D} {j k : Nat} (h : Knk Kn x ps ks np perm m j) (hj : j ≤ k) : Knk Kn x ps ks np perm m k := fun P w K mg base q => by
  obtain ⟨f, fd, F, r⟩ := h P w K mg base q
  exact ⟨f, fd, F.up hj, r⟩
theorem runGw {X : Cx} {W : WX} {k np : Nat} {f : Addr} {fd : FuncData} {ps ks : List Str} {perm : List Nat} {sp : Sp} {pins : List (Addr × Obj)} {σ : L2.St} {H : Hp} {s : Shared} {Q : VK} {us ws : List Value} {vs zs : List V} (F : FnG X.prog X.w X.K X.mg X.base k f fd ps sp) (hr : Room k X.A) (hg : X.A.guards = some []) (hb : KwB X.K fd ps ks np perm) (tk : Takes X W) (I : Inv X pins σ H s)
    (r : Vals vs us) (rz : Vals zs ws) (h1 : us.length = np) (h2 : ws.length = ks.length) (h : sp (permL perm (vs ++ zs)) H Q fun c d H' => W c d σ H') : wpAny (model X.prog X.w) X.A (call (.ref f) us (ks.zip ws)) (EP X pins σ Q) X.xe s := by
  refine wpAny_call (codeAny_mono (F.run X.A X.stack s H ⟨us, ks.zip ws⟩ _ (permL perm (vs ++ zs)) Q _ hr hg I.env0 (hb s us ws h1 h2) (perm_vals (r.append rz) perm) h) fun r s' hq => ?_)
  have z := ended tk I hq
  cases r with
  | error e => exact z
  | ok fl => cases fl <;> exact z
/-- the names' values -/
structure CK where
  run : Env → M (List D)
  chk : Inf → List Keyword → Bool
def GK (Kn : Kno) (k : Nat) (c : CK) : Prop := ∀ X W b, Bas Kn k b X W → ∀ e, c.chk ⟨X.N, X.env.scope, b⟩ e = true → PK X e (rdA X.K X.mg W c.run)
section
variable {Kn : Kno} {k : Nat}
def kNil : CK := ⟨fun _ => M.ret [], fun _ es => match es with
  | [] => true
  | _ => false⟩
def kCons (c : CE) (cs : CK) : CK := ⟨fun ρ => M.bnd (c.run ρ) fun d => M.bnd (cs.run ρ) fun ds => M.ret (d :: ds), fun I es => match es with
  | ⟨_, e, _⟩ :: r => c.chk I e && cs.chk I r
  | _ => false⟩
theorem g_kNil : GK Kn k kNil := by
  intro X W cb b e h
  dsimp only [kNil] at h
  split at h
  · exact PK.imp pk_nil fun σ H Q ⟨α, ρ, μ, r, μ', g, run, aft⟩ => rd_ret g.s run aft Reps.nil
  · cases h
theorem g_kCons {c : CE} {cs : CK} (hc : GE Kn k c) (hs : GK Kn k cs) : GK Kn k (kCons c cs) := by
  intro X W cb b e h
  dsimp only [kCons] at h
  split at h
  · simp only [Bool.and_eq_true] at h
    obtain ⟨h1, h2⟩ := h
    refine PK.imp (pk_cons (hc X W cb b _ h1) (hs X W cb b _ h2)) ?_
    rintro σ H Q ⟨α, ρ, μ, r, μ', g, run, aft⟩
    refine rd_seq g run aft fun d v α1 H1 μ1 g1 k1 r1 run1 aft1 => ?_
    refine rd_seq g1 run1 aft1 fun ds vs α2 H2 μ2 g2 k2 r2 run2 aft2 => ?_
    exact rd_ret g2.s run2 aft2 (Reps.cons (r1.up k2) r2)
  · cases h
def kwNames (kws : List Keyword) : List (Option Str) := kws.map (·.arg)
theorem kw_facts {kws : List Keyword} {ks : List Str} {pos : Pos} {env : PySem.Env} (h : kwNames kws = ks.map some) : (backToKw pos (keywordEach kws env)).all (·.1.isSome) = true ∧ (backToKw pos (keywordEach kws env)).filterMap (·.1) = ks ∧ (backToKw pos (keywordEach kws env)).any (·.1.isNone) = false := by
  induction kws generalizing ks with
  | nil =>
    cases ks with
    | nil => exact ⟨rfl, rfl, rfl⟩
    | cons _ _ => cases h
  | cons c r ih =>
    cases ks with
    | nil => cases h
    | cons k0 ks =>
      obtain ⟨a, e, p⟩ := c
      simp only [kwNames, List.map_cons, List.cons.injEq] at h
      obtain ⟨h1, h2⟩ := h
      subst h1
      obtain ⟨i1, i2, i3⟩ := ih h2
      refine ⟨?_, ?_, ?_⟩
      · show (true && _) = true
        rw [Bool.true_and]; exact i1
      · show k0 :: _ = _
        exact congrArg _ i2
      · show (false || _) = false
        rw [Bool.false_or]; exact i3
/-- x(k1 = e1, ..): all by names -/
def cCallK (x : Str) (ks : List Str) (perm : List Nat) (m : List D → M D) (a : CK) : CE := ⟨fun ρ => M.bnd (a.run ρ) fun ds => if ds.length = ks.length then m (permL perm ds) else M.stop, fun I e => match e with
  | .Call (.Name y _) [] kws _ => decide (y = x) && (glo I.sc y && (unmarked y && (decide (kwNames kws = ks.map some) && a.chk I kws)))
  | _ => false⟩
theorem g_callK {x : Str} {ps ks : List Str} {perm : List Nat} {m : List D → M D} {a : CK} (hm : Knk Kn x ps ks 0 perm m k) (ha : GK Kn k a) : GE Kn k (cCallK x ks perm m a) := by
  intro X W cb bs e h
  dsimp only [cCallK] at h
  split at h
  · rename_i y p kws pos
    simp only [Bool.and_eq_true, decide_eq_true_eq, glo] at h
    obtain ⟨h1, h2, h3, h4, h5⟩ := h
    subst h1
    obtain ⟨f, fd, F, m1, m2, m3⟩ := hm _ _ _ _ _ bs.kn
    obtain ⟨k1, k2, k3⟩ := kw_facts (pos := pos) (env := X.env) h4
    refine ⟨fun pins s σ H Q I h => ?_⟩
    obtain ⟨α, ρ, μ, q, μ', g, run, aft⟩ := h
    refine wpAny_Call_Name_kw (ld_glob I h2 m1 (PySem.W.callWith_KW0 (h₀ := X.base) I.ok.mod.kin m2 k1 (thn ((ha X W cb bs _ h5).run pos pins s σ H (fun vs H1 => vs.length = ks.length ∧ spOf X.K X.mg m (permL perm ([] ++ vs)) H1 Q fun c d H' => W c d σ H') I ?_) fun ws s1 z => ?_) (by rw [k3]; rfl)) (unmarked1 h3))
    · refine rd_seq g run aft fun d v α1 H1 μ1 g1 x1 w1 run1 aft1 => ?_
      split at run1
      · rename_i hl
        exact ⟨w1.len.trans hl, α1, μ1, permL perm d, q, μ', g1.s, perm_reps w1 perm, run1, aft1⟩
      · cases run1
    · obtain ⟨zs, H1, I1, rz, hl, q1⟩ := z
      refine ⟨I1.kIn, ?_⟩
      rw [k2]
      exact runGw F bs.room bs.grd m3 bs.tk I1 .nil rz rfl (by rw [← rz.length]; exact hl) q1
  · cases h
end

/-! ### methods -/
def plainO : Expr → Bool
  | .Call _ _ _ _ => false
  | _ => true
theorem plainO_eq {o : Expr} {attr : Str} {env : PySem.Env} (h : plainO o = true) : attributeBase o attr env (eval o env) = eval o env := by
  cases o <;> first | rfl | cases h
/-- a value of a type that has methods -/
def isT (T : String) : D → M Unit
  | .str _ => if T = "str" then M.ret () else M.stop
  | .ref l => fun μ => match μ[l]? with
    | some (.lst _) => if T = "list" then some (.ok (), μ) else none
    | some (.dct _) => if T = "dict" then some (.ok (), μ) else none
    | none => none
  | .fro _ => if T = "list" then M.ret () else M.stop
  | _ => M.stop
theorem isT_ty {T : String} {K : PySem.W.Frag} {α : List Addr} {H : Hp} {μ : List O} {d : D} {v : V} {p : Except Ex Unit × List O} (s : RepS K α H μ) (r : Rep K α H d v) (run : isT T d μ = some p) : tyV K T v H ∧ p = (.ok (), μ) := by
  cases d with
  | str x =>
    dsimp only [isT] at run
    split at run
    · rename_i ht
      cases (show v = .str _ from r)
      cases run
      exact ⟨ht, rfl⟩
    · cases run
  | fro ds =>
    dsimp only [isT] at run
    split at run
    · rename_i ht
      obtain ⟨a, vs, e, t, w⟩ := r
      subst e
      cases run
      exact ⟨.inl ⟨ht, vs, t.sq⟩, rfl⟩
    · cases run
  | ref l =>
    dsimp only [isT] at run
    cases h : μ[l]? with
    | none => rw [h] at run; cases run
    | some o =>
      rw [h] at run
      obtain ⟨a, e, ha⟩ := r
      subst e
      have ho := s.at_ l o a h ha
      cases o with
      | lst ds =>
        dsimp only at run
        split at run
        · rename_i ht
          obtain ⟨vs, hp, _⟩ := ho
          cases run
          exact ⟨.inl ⟨ht, vs, SqL.of hp⟩, rfl⟩
        · cases run
      | dct ds =>
        dsimp only at run
        split at run
        · rename_i ht
          obtain ⟨ws, hp, _⟩ := ho
          cases run
          exact ⟨.inr (.inr (.inl ⟨ht, .inl ⟨ws, hp⟩⟩)), rfl⟩
        · cases run
  | _ => cases run
def MtD (K : PySem.W.Frag) (r : V → List V → Hp → VK → Prop) (f : D → List D → M D) : Prop := ∀ (mg : Str → Option Value) (E : XK) (α : List Addr) (H : Hp) (μ μ' : List O) (d : D) (x : V) (ds : List D) (xs : List V) (q : Except Ex D) (Q : VK),
  RepS K α H μ → Rep K α H d x → Reps K α H ds xs → f d ds μ = some (q, μ') → Aft (Rep K) K mg E α H q μ' Q → r x xs H Q
def OkMt (id : String) (f : D → List D → M D) : Prop := ∀ X : Cx, Here X → ∃ r, MtR X id r ∧ MtD X.K r f
/-- what is known of a method -/
structure MtK (T name id : String) : Prop where
  pa : PlainAttrs T
  slot : Slot T name id
  ty : typeOf (.builtin id) = pure (.type "method_descriptor")
section
variable {Kn : Kno} {k : Nat}
def cM0 (T name : String) (f : D → List D → M D) (o : CE) : CE := ⟨fun ρ => M.bnd (o.run ρ) fun x => M.bnd (isT T x) fun _ => f x [], fun I e => match e with
  | .Call (.Attribute o1 n apos) [] [] cpos => decide (n = (name : Str)) && (plainO o1 && (apos.endLine == cpos.line && o.chk I o1))
  | _ => false⟩
def cM (T name : String) (f : D → List D → M D) (o : CE) (a : CA) : CE := ⟨fun ρ => M.bnd (o.run ρ) fun x => M.bnd (isT T x) fun _ => M.bnd (a.run ρ) fun ds => f x ds, fun I e => match e with
  | .Call (.Attribute o1 n apos) (e1 :: es) [] cpos => decide (n = (name : Str)) && (plainO o1 && (apos.endLine == cpos.line && (decide ((e1 :: es).length < 30) && ((e1 :: es).all noStar && (o.chk I o1 && a.chk I (e1 :: es))))))
  | _ => false⟩
theorem g_m0 {T name id : String} {f : D → List D → M D} {o : CE} (hk : MtK T name id) (hf : OkMt id f) (ho : GE Kn k o) : GE Kn k (cM0 T name f o) := by
  intro X W cb bs e h
  dsimp only [cM0] at h
  split at h
  · simp only [Bool.and_eq_true, decide_eq_true_eq] at h
    obtain ⟨h1, h2, h3, h4⟩ := h
    subst h1
    obtain ⟨r, c1, c2⟩ := hf X bs.here
    refine PE.imp (pe_bm0 hk.pa hk.slot hk.ty c1 (ho X W cb bs _ h4) (plainO_eq h2) h3) ?_
    rintro σ H Q ⟨α, ρ, μ, q, μ', g, run, aft⟩
    refine rd_seq g run aft fun d v α1 H1 μ1 g1 k1 r1 run1 aft1 => ?_
    unfold M.bnd at run1
    cases e1 : isT T d μ1 with
    | none => rw [e1] at run1; cases run1
    | some p =>
      obtain ⟨ty, rfl⟩ := isT_ty g1.s r1 e1
      rw [e1] at run1
      exact ⟨ty, c2 _ _ _ _ _ _ _ _ _ _ _ _ g1.s r1 Reps.nil run1 aft1⟩
  · cases h
theorem star_all {pos : Pos} {env : PySem.Env} : ∀ {es : List Expr}, es.all noStar = true → (backTo pos (starEach es env)).all (fun x => !x.1) = true
  | [], _ => rfl
  | e :: es, h => by
    rw [List.all_cons, Bool.and_eq_true] at h
    rw [star_cons h.1]
    show (true && (backTo pos (starEach es env)).all (fun x => !x.1)) = true
    rw [star_all h.2]; rfl
theorem g_m {T name id : String} {f : D → List D → M D} {o : CE} {a : CA} (hk : MtK T name id) (hf : OkMt id f) (ho : GE Kn k o) (ha : GA Kn k a) : GE Kn k (cM T name f o a) := by
  intro X W cb bs e h
  dsimp only [cM] at h
  split at h
  · rename_i o1 n apos e1 es cpos
    simp only [Bool.and_eq_true, decide_eq_true_eq] at h
    obtain ⟨h1, h2, h3, h6, h7, h4, h5⟩ := h
    subst h1
    obtain ⟨r, c1, c2⟩ := hf X bs.here
    have h7' := h7
    rw [List.all_cons, Bool.and_eq_true] at h7'
    refine PE.imp (pe_bm hk.pa hk.slot hk.ty c1 (ho X W cb bs _ h4) (ha X W cb bs _ h5) (plainO_eq h2) (by rw [star_all h7]; exact decide_eq_true h6) h3 (star_cons h7'.1) (star_any h7'.2)) ?_
    rintro σ H Q ⟨α, ρ, μ, q, μ', g, run, aft⟩
    refine rd_seq g run aft fun d v α1 H1 μ1 g1 k1 r1 run1 aft1 => ?_
    unfold M.bnd at run1
    cases e1 : isT T d μ1 with
    | none => rw [e1] at run1; cases run1
    | some p =>
      obtain ⟨ty, rfl⟩ := isT_ty g1.s r1 e1
      rw [e1] at run1
      refine ⟨ty, ?_⟩
      refine rd_seq (f := fun ds => f d ds) g1 run1 aft1 fun ds vs α2 H2 μ2 g2 k2 r2 run2 aft2 => ?_
      exact c2 _ _ _ _ _ _ _ _ _ _ _ _ g2.s (r1.up k2) r2 run2 aft2
  · cases h
end
/-! ### list.append, list.pop, list.extend -/
def appD : D → List D → M D := fun x ds μ => match x, ds with
  | .ref l, [y] => match μ[l]? with
    | some (.lst xs) => if xs.length < sizeLine then some (.ok .non, μ.set l (.lst (xs ++ [y]))) else none
    | _ => none
  | _, _ => none
theorem ok_app : OkMt "list.append" appD := by
  intro X _
  refine ⟨rAppend, mt_append, ?_⟩
  intro mg E α H μ μ' d x ds xs q Q s rx r run aft
  unfold appD at run
  split at run
  · rename_i l y
    cases h : μ[l]? with
    | none => rw [h] at run; cases run
    | some o =>
      rw [h] at run
      cases o with
      | dct _ => cases run
      | lst ys =>
        dsimp only at run
        split at run
        · rename_i hz
          obtain ⟨v, vr, e, r1, r2⟩ := r
          cases (show vr = [] from r2)
          obtain ⟨p1, v1, e1, a1, b1, c1⟩ := lst_at s rx h
          subst e e1
          refine ⟨p1, v1, v, rfl, rfl, b1, by rw [c1.len]; exact hz, ?_⟩
          cases run
          have x3 : Ext α H α (upd H p1 (.lst (v1 ++ [v]))) := Ext.put a1 b1 fun z => z
          exact aft α _ _ x3 (s.put (o := .lst (ys ++ [y])) a1 ⟨_, upd_same, (c1.app (Reps.cons r1 Reps.nil)).up x3⟩) rfl
        · cases run
  · cases run
def popD : D → List D → M D := fun x ds μ => match x, ds with
  | .ref l, [] => match μ[l]? with
    | some (.lst xs) => match xs[xs.length - 1]? with
      | some y => some (.ok y, μ.set l (.lst xs.dropLast))
      | none => none
    | _ => none
  | _, _ => none
theorem Reps.dropLast {K : PySem.W.Frag} {α : List Addr} {H : Hp} : ∀ {ds : List D} {vs : List V}, Reps K α H ds vs → Reps K α H ds.dropLast vs.dropLast
  | [], _, r => by cases (show _ = [] from r); rfl
  | [d], _, r => by
    obtain ⟨v, vr, e, r1, r2⟩ := r
    cases (show vr = [] from r2)
    subst e
    rfl
  | d :: e :: r, _, h => by
    obtain ⟨v, vr, e1, r1, r2⟩ := h
    subst e1
    obtain ⟨v2, vr2, e2, r3, r4⟩ := r2
    subst e2
    exact Reps.cons r1 (Reps.dropLast (ds := e :: r) (Reps.cons r3 r4))
theorem ok_pop : OkMt "list.pop" popD := by
  intro X _
  refine ⟨rPop, mt_pop, ?_⟩
  intro mg E α H μ μ' d x ds xs q Q s rx r run aft
  unfold popD at run
  split at run
  · rename_i l
    cases h : μ[l]? with
    | none => rw [h] at run; cases run
    | some o =>
      rw [h] at run
      cases o with
      | dct _ => cases run
      | lst ys =>
        dsimp only at run
        cases hy : ys[ys.length - 1]? with
        | none => rw [hy] at run; cases run
        | some y =>
          rw [hy] at run
          cases (show xs = [] from r)
          obtain ⟨p1, v1, e1, a1, b1, c1⟩ := lst_at s rx h
          subst e1
          obtain ⟨v, h1, h2⟩ := c1.get hy
          refine ⟨p1, v1, v, rfl, rfl, b1, by rw [c1.len]; exact h1, ?_⟩
          cases run
          have x3 : Ext α H α (upd H p1 (.lst v1.dropLast)) := Ext.put a1 b1 fun z => z
          exact aft α _ _ x3 (s.put (o := .lst ys.dropLast) a1 ⟨_, upd_same, (Reps.dropLast c1).up x3⟩) (h2.up x3)
  · cases run
theorem k_append : MtK "list" "append" "list.append" := ⟨F.plainAttrs_list, F.slot_list_append, F.type_list_append⟩
theorem k_pop : MtK "list" "pop" "list.pop" := ⟨F.plainAttrs_list, F.slot_list_pop, F.type_list_pop⟩
end Mi
/-! Mi, part N: a sequence turned about; max, min, all, any, in. -/
namespace Mi
open PySem L2 PyProof.Rows

/-! ### xs[::-1] of a tuple -/
section
variable {prog : Program} {w : World} {A : Around} {E : Value → Shared → Prop} {s : Shared}
theorem applied_rev {sl : Addr} {u : Tok} {n : Nat} {Q : Int × Int × Nat → Shared → Prop} (hs : s.heap.IsSliceOf sl .none .none (.int (-1) u))
    (h : Q ((n : Int) - 1, -1, n) s) : wpAny (model prog w) A (Builtin.Slice.sliceApplied (.ref sl) (pure (n : Int))) Q E s := by
  obtain ⟨os, hos, hcs, hds⟩ := id hs
  unfold Builtin.Slice.sliceApplied Builtin.Slice.sliceFields
  refine wpAny_bind (wpAny_bind (wpAny_field hos hds (x := .none) rfl (wpAny_bind (wpAny_field hos hds (x := .none) rfl (wpAny_bind (wpAny_field hos hds (x := .int (-1) u) rfl (wpAny_pure ?_)))))))
  refine wpAny_bind (slicePart_int ?_)
  show wpAny _ _ (if ((-1 : Int) == 0) = true then _ else _) _ _ s
  rw [if_neg (by decide)]
  refine wpAny_bind (slicePart_none (wpAny_bind (slicePart_none (wpAny_bind (wpAny_pure ?_)))))
  have e : Builtin.Slice.slicePlaces ((n : Int) - 1) (-1) (-1) = n := by
    unfold Builtin.Slice.slicePlaces
    rw [if_neg (by decide)]
    by_cases h0 : (n : Int) - 1 > -1
    · rw [if_pos h0]
      have : ((n : Int) - 1 - -1 - 1) / (- -1) = (n : Int) - 1 := by
        rw [show (- -1 : Int) = 1 by decide, Int.ediv_one]
        omega
      rw [this]
      omega
    · rw [if_neg h0]
      have : n = 0 := by omega
      rw [this]
      rfl
  show wpAny _ _ (pure ((n : Int) - 1, (-1 : Int), Builtin.Slice.slicePlaces ((n : Int) - 1) (-1) (-1))) _ _ s
  rw [e]
  exact wpAny_pure h
theorem fm_map {a b : Type} {f : a → Option b} {g : a → b} : ∀ {l : List a}, (∀ x ∈ l, f x = some (g x)) → l.filterMap f = l.map g
  | [], _ => rfl
  | x :: r, h => by
    rw [List.filterMap_cons, h x List.mem_cons_self, List.map_cons]
    exact congrArg _ (fm_map fun y hy => h y (List.mem_cons_of_mem _ hy))
theorem pick_rev (xs : Array Value) : ((List.range xs.size).filterMap fun (m : Nat) => xs[((xs.size : Int) - 1 + (m : Int) * -1).toNat]?).toArray = xs.toList.reverse.toArray := by
  congr 1
  apply List.ext_getElem?
  intro i
  have e : (List.range xs.size).filterMap (fun (m : Nat) => xs[((xs.size : Int) - 1 + (m : Int) * -1).toNat]?) = (List.range xs.size).map fun m => (xs.toList.reverse[m]?).getD .none := by
    apply fm_map
    intro m hm
    have hm' := List.mem_range.mp hm
    have h1 : ((xs.size : Int) - 1 + (m : Int) * -1).toNat = xs.size - 1 - m := by omega
    have h2 : xs.toList.reverse[m]? = xs[xs.size - 1 - m]? := by
      rw [List.getElem?_reverse (by simpa using hm')]
      simp
    show xs[((xs.size : Int) - 1 + (m : Int) * -1).toNat]? = some _
    rw [h1, h2, Array.getElem?_eq_getElem (by omega)]
    rfl
  rw [e, List.getElem?_map]
  by_cases hi : i < xs.size
  · rw [List.getElem?_range hi]
    have : i < xs.toList.reverse.length := by simpa using hi
    rw [List.getElem?_eq_getElem this]
    show some (xs.toList.reverse[i]?.getD Value.none) = _
    rw [List.getElem?_eq_getElem this]
    rfl
  · rw [List.getElem?_eq_none (by simp; omega), List.getElem?_eq_none (by simp; omega)]
    rfl
theorem item_rev {t sl : Addr} {items : Array Value} {u : Tok} {Q : Value → Shared → Prop} (ht : IsTup s.heap t items) (hs : s.heap.IsSliceOf sl .none .none (.int (-1) u))
    (h : Q (.ref s.heap.objs.size) { s with heap := s.heap.push { cls := .type "tuple", data := .seq items.toList.reverse.toArray } })
    (hsz : items.size ≤ sizeLine) : wpAny (model prog w) A (getItem (.ref t) (.ref sl)) Q E s := by
  have hok : sizeOk (.seq items.toList.reverse.toArray) := by
    show items.toList.reverse.toArray.size ≤ sizeLine
    rw [List.size_toArray, List.length_reverse, Array.length_toList]
    exact hsz
  obtain ⟨os, hos, hcs, hds⟩ := id hs
  have hTs : s.TypeIs (.ref sl) "slice" := ⟨os, hos, hcs⟩
  unfold getItem
  try with_reducible refine wpAny_holding ?_
  first | refine wpAny_bind (wpAny_pure ?_) | skip
  refine wpAny_bind (wpAny_sequenceKey ht.typeIs (by decide) ?_)
  refine wpAny_bind (wpAny_callSpecial?_slot (name := Str.ofString "__getitem__") ht.typeIs PyProof.Rows.slot_tuple_getitem
    (wpAny_call_entry PyProof.Rows.slot_tuple_getitem ht.typeIs entry_tuple_getitem ?_ (args_tuple_getitem _ _)))
  show wpAny _ _ (Builtin.Tuple.tupleItemsOf (.ref t) >>= _) _ _ s
  refine wpAny_bind (tupleItemsOf_ ht ?_)
  refine wpAny_bind (wpAny_typeOf hTs ?_)
  rw [if_pos (by decide)]
  refine wpAny_bind (applied_rev hs ?_)
  have hno : ¬ (((items.size : Int) - 1 == 0 && (-1 : Int) == 1 && items.size == items.size) = true) := by
    intro q
    rw [Bool.and_eq_true, Bool.and_eq_true] at q
    exact absurd q.1.2 (by decide)
  show wpAny _ _ (if (((items.size : Int) - 1 == 0 && (-1 : Int) == 1 && items.size == items.size) = true) then _ else _) _ _ s
  rw [if_neg hno, pick_rev]
  first
    | exact wpAny_bind (m := Builtin.Tuple.tupleExact _) (wpAny_newObj_type (wpAny_pure ⟨_, rfl, wpAny_pure h⟩) hok)
    | exact wpAny_bind (m := Builtin.Tuple.tupleExact _) (wpAny_newObj_type (wpAny_bind (wpAny_pure (wpAny_pure ⟨_, rfl, wpAny_pure h⟩))) hok)
    | exact wpAny_bind (wpAny_bind (m := Builtin.Tuple.tupleExact _) (wpAny_newObj_type (wpAny_pure (wpAny_pure ⟨_, rfl, wpAny_pure h⟩)) hok))
    | exact wpAny_bind (wpAny_bind (m := Builtin.Tuple.tupleExact _) (wpAny_newObj_type (wpAny_pure ⟨_, rfl, wpAny_pure h⟩) hok))
end
def tRev (K : PySem.W.Frag) (te : TE) : TE := fun σ H Q => te σ H fun x H1 => ∃ a xs, x = .ref a ∧ ((SqL K H1 a xs ∧ ∀ p, H1 p = none → Q (.ref p) (upd H1 p (.lst xs.reverse))) ∨ (SqT K H1 a xs ∧ ∀ p, H1 p = none → Q (.ref p) (upd H1 p (.tup xs.reverse))))
theorem pe_rev {X : Cx} {e : Expr} {te : TE} {k : Nat} {p1 p2 p3 pos : Pos} (he : PE X e te) : PE X (.Subscript e (.Slice none none (some (.UnaryOp .USub (.Constant (.int 1) k p1) p2)) p3) pos) (tRev X.K te) := by
  refine ⟨fun pins s σ H Q I h => ?_⟩
  refine Subscript_ (thn (he.run pins s σ H _ I h) fun v s1 ⟨x, H1, I1, r1, q1⟩ => ?_)
  obtain ⟨a, xs, ex, q1⟩ := q1
  subst ex
  cases r1
  have hst : PO X (some (.UnaryOp .USub (.Constant (.int 1) k p1) p2)) (tPart (tUn (rU fun i => .int (-i)) (tC (.int 1)))) := po_some (pe_un un_neg pe_int)
  refine wpAny_Slice (thn (po_none.run pins s1 σ H1 (fun o H2 => o = none ∧ H2 = H1) I1 ⟨rfl, rfl⟩) fun vl s2 ⟨l, H2, I2, pl, el, e2⟩ => ?_)
  subst el e2
  refine thn (po_none.run pins s2 σ H2 (fun o H3 => o = none ∧ H3 = H2) I2 ⟨rfl, rfl⟩) fun vu s3 ⟨u, H3, I3, pu, eu, e3⟩ => ?_
  subst eu e3
  refine thn (hst.run pins s3 σ H3 (fun o H4 => o = some (-1) ∧ H4 = H3) I3 ⟨1, rfl, -1, rfl, rfl, rfl⟩) fun vs s4 ⟨o, H4, I4, ps, eo, e4⟩ => ?_
  subst eo e4
  have I5 : Inv X pins σ H4 { s4 with heap := s4.heap.push { cls := .type "slice", data := .fields #[vl, vu, vs] } } := I4.kept (t' := s4.toks) fun b ob q => Heap.get?_push_of_some _ q
  show wpAny (model X.prog X.w) X.A (subscriptTail e (.Slice none none (some (.UnaryOp .USub (.Constant (.int 1) k p1) p2)) p3) (.ref a) (.ref s4.heap.objs.size)) (EP X pins σ Q) X.xe { s4 with heap := s4.heap.push { cls := .type "slice", data := .fields #[vl, vu, vs] } }
  rcases q1 with ⟨hx, q⟩ | ⟨hx, q⟩
  · obtain ⟨its, r, ht, hz⟩ := I5.list hx
    have hlen := r.length
    refine tail_any (ops := [.ref a, .ref s4.heap.objs.size]) ht.isList.typeIs (PySem.slot_list_getitem.lookup) ?_ (by with_unfolding_all rfl)
    refine wpAny_getItem_list_slice ht.isList (Heap.IsSliceOf.new _ vl vu vs) pl pu ps (by decide) ?_ (by rw [List.size_toArray]; omega)
    rw [PySem.W.krv_pick]
    refine ⟨.ref _, _, I5.laid (t' := s4.toks) (o := .lst xs.reverse) (fun b ob q => Heap.get?_push_of_some _ q) (Nat.le_refl _) ?_, rfl, q _ (I5.hok.fresh (Nat.le_refl _))⟩
    exact ⟨by rw [List.length_reverse]; exact hz, _, 0, r.reverse, Heap.get?_push_size _ rfl⟩
  · obtain ⟨its, r, ht, hz⟩ := I5.tuple hx
    have hlen := r.length
    cases pl
    cases pu
    cases ps with
    | int _ u =>
      refine tail_any (ops := [.ref a, .ref s4.heap.objs.size]) ht.typeIs (PyProof.Rows.slot_tuple_getitem.lookup) ?_ (by with_unfolding_all rfl)
      refine item_rev ht (Heap.IsSliceOf.new _ _ _ _) ?_ (by rw [List.size_toArray]; omega)
      refine ⟨.ref _, _, I5.laid (t' := s4.toks) (o := .tup xs.reverse) (fun b ob q => Heap.get?_push_of_some _ q) (Nat.le_refl _) ?_, rfl, q _ (I5.hok.fresh (Nat.le_refl _))⟩
      exact ⟨by rw [List.length_reverse]; exact hz, _, r.reverse, ⟨_, Heap.get?_push_size _ rfl, rfl, 0, by simp⟩⟩

section
variable {Kn : Kno} {k : Nat}
def revD : D → M D
  | .tup ds => M.ret (.tup ds.reverse)
  | .fro ds => M.new (.lst ds.reverse)
  | .ref l => M.bnd (M.lst l) fun ds => M.new (.lst ds.reverse)
  | _ => M.stop
theorem Reps.reverse {K : PySem.W.Frag} {α : List Addr} {H : Hp} : ∀ {ds : List D} {vs : List V}, Reps K α H ds vs → Reps K α H ds.reverse vs.reverse
  | [], _, r => by cases (show _ = [] from r); rfl
  | d :: ds, _, r => by
    obtain ⟨v, vr, e, r1, r2⟩ := r
    subst e
    rw [List.reverse_cons, List.reverse_cons]
    exact (Reps.reverse r2).app (Reps.cons r1 Reps.nil)
def cRev (a : CE) : CE := ⟨fun ρ => M.bnd (a.run ρ) revD, fun I e => match e with
  | .Subscript x (.Slice none none (some (.UnaryOp .USub (.Constant (.int 1) _ _) _)) _) _ => a.chk I x
  | _ => false⟩
theorem g_rev {a : CE} (ha : GE Kn k a) : GE Kn k (cRev a) := by
  intro X W cb bs e h
  dsimp only [cRev] at h
  split at h
  · refine PE.imp (pe_rev (ha X W cb bs _ h)) ?_
    rintro σ H Q ⟨α, ρ, μ, q, μ', g, run, aft⟩
    refine rd_seq g run aft fun d v α1 H1 μ1 g1 k1 r1 run1 aft1 => ?_
    cases d with
    | tup ds =>
      obtain ⟨p, vs, e, t, w⟩ := r1
      refine ⟨p, vs, e, .inr ⟨t, fun b hb => ?_⟩⟩
      cases run1
      exact aft1 α1 _ _ (Ext.lay hb) (g1.s.lay hb) ⟨b, _, rfl, SqT.of upd_same, (Reps.reverse w).up (Ext.lay hb)⟩
    | fro ds =>
      obtain ⟨p, vs, e, t, w⟩ := r1
      exact ⟨p, vs, e, .inl ⟨t.sq, fun b hb => new_lst g1.s run1 aft1 (Reps.reverse w) hb⟩⟩
    | ref l =>
      obtain ⟨ds, h1, run1⟩ := bnd_lst run1
      obtain ⟨p1, v1, e1, a1, b1, c1⟩ := lst_at g1.s r1 h1
      exact ⟨p1, v1, e1, .inl ⟨SqL.of b1, fun b hb => new_lst g1.s run1 aft1 (Reps.reverse c1) hb⟩⟩
    | _ => cases run1
  · cases h
end
/-! ### max, min of two numbers; all, any of a list of truths -/
def maxD : List D → M D
  | [.int i, .int j] => M.ret (.int (if j > i then j else i))
  | _ => M.stop
theorem ok_max : OkCall (.builtin "max") maxD := by
  intro X hx
  refine ⟨_, call_max2 hx.calm, ?_⟩
  intro mg E α H μ μ' ds xs q Q s r run aft
  unfold maxD at run
  split at run
  · obtain ⟨v, vr, e, r1, r2⟩ := r
    obtain ⟨v2, vr2, e2, r3, r4⟩ := r2
    cases (show vr2 = [] from r4)
    cases (show v = .int _ from r1)
    cases (show v2 = .int _ from r3)
    subst e2
    exact ⟨_, _, e, rd_ret s run aft rfl⟩
  · cases run
def minD : List D → M D
  | [.int i, .int j] => M.ret (.int (if j < i then j else i))
  | _ => M.stop
theorem ok_min : OkCall (.builtin "min") minD := by
  intro X hx
  refine ⟨_, call_min2 hx.calm, ?_⟩
  intro mg E α H μ μ' ds xs q Q s r run aft
  unfold minD at run
  split at run
  · obtain ⟨v, vr, e, r1, r2⟩ := r
    obtain ⟨v2, vr2, e2, r3, r4⟩ := r2
    cases (show vr2 = [] from r4)
    cases (show v = .int _ from r1)
    cases (show v2 = .int _ from r3)
    subst e2
    exact ⟨_, _, e, rd_ret s run aft rfl⟩
  · cases run
def blsOf : List D → Option (List Bool)
  | [] => some []
  | .bl b :: r => (blsOf r).map (b :: ·)
  | _ => none
theorem bls_rep {K : PySem.W.Frag} {α : List Addr} {H : Hp} : ∀ {ds : List D} {vs : List V} {bs : List Bool}, blsOf ds = some bs → Reps K α H ds vs → vs = bs.map V.bl
  | [], _, _, h, r => by cases h; exact r
  | .bl b :: ds, _, _, h, r => by
    unfold blsOf at h
    cases e : blsOf ds with
    | none => rw [e] at h; cases h
    | some cs =>
      rw [e] at h
      cases h
      obtain ⟨v, vr, e1, r1, r2⟩ := r
      subst e1
      cases (show v = .bl b from r1)
      rw [bls_rep e r2]
      rfl
def allD : List D → M D
  | [.ref l] => M.bnd (M.lst l) fun ds => match blsOf ds with
    | some bs => M.ret (.bl (bs.all id))
    | none => M.stop
  | _ => M.stop
def anyD : List D → M D
  | [.ref l] => M.bnd (M.lst l) fun ds => match blsOf ds with
    | some bs => M.ret (.bl (bs.any id))
    | none => M.stop
  | _ => M.stop
theorem ok_all : OkCall (.builtin "all") allD := by
  intro X hx
  refine ⟨_, cr_all hx.calm, ?_⟩
  intro mg E α H μ μ' ds xs q Q s r run aft
  unfold allD at run
  split at run
  · obtain ⟨v, vr, e, r1, r2⟩ := r
    cases (show vr = [] from r2)
    obtain ⟨ds, h1, run⟩ := bnd_lst run
    obtain ⟨p1, v1, e1, a1, b1, c1⟩ := lst_at s r1 h1
    subst e1
    cases hb : blsOf ds with
    | none => rw [hb] at run; cases run
    | some bs =>
      rw [hb] at run
      rw [bls_rep hb c1] at b1
      exact ⟨p1, bs, e, SqL.of b1, rd_ret s run aft rfl⟩
  · cases run
theorem ok_any : OkCall (.builtin "any") anyD := by
  intro X hx
  refine ⟨_, cr_any hx.calm, ?_⟩
  intro mg E α H μ μ' ds xs q Q s r run aft
  unfold anyD at run
  split at run
  · obtain ⟨v, vr, e, r1, r2⟩ := r
    cases (show vr = [] from r2)
    obtain ⟨ds, h1, run⟩ := bnd_lst run
    obtain ⟨p1, v1, e1, a1, b1, c1⟩ := lst_at s r1 h1
    subst e1
    cases hb : blsOf ds with
    | none => rw [hb] at run; cases run
    | some bs =>
      rw [hb] at run
      rw [bls_rep hb c1] at b1
      exact ⟨p1, bs, e, SqL.of b1, rd_ret s run aft rfl⟩
  · cases run
/-! ### in: a sign in a text; a flat value in a sequence of such -/
def flatD : D → Option V
  | .non => some .non
  | .bl b => some (.bl b)
  | .int i => some (.int i)
  | .str x => some (.str x)
  | _ => none
theorem flat_rep {K : PySem.W.Frag} {α : List Addr} {H : Hp} {d : D} {v u : V} (h : flatD d = some u) (r : Rep K α H d v) : v = u ∧ flatV u = true := by
  cases d with
  | non => cases h; exact ⟨r, rfl⟩
  | bl b => cases h; exact ⟨r, rfl⟩
  | int i => cases h; exact ⟨r, rfl⟩
  | str x => cases h; exact ⟨r, rfl⟩
  | _ => cases h
def flatsD : List D → Option (List V)
  | [] => some []
  | d :: r => match flatD d, flatsD r with
    | some a, some b => some (a :: b)
    | _, _ => none
theorem flats_rep {K : PySem.W.Frag} {α : List Addr} {H : Hp} : ∀ {ds : List D} {vs us : List V}, flatsD ds = some us → Reps K α H ds vs → vs = us ∧ us.all flatV = true
  | [], _, _, h, r => by cases h; exact ⟨r, rfl⟩
  | d :: ds, _, _, h, r => by
    unfold flatsD at h
    cases e1 : flatD d with
    | none => rw [e1] at h; cases h
    | some a =>
      cases e2 : flatsD ds with
      | none => rw [e1, e2] at h; cases h
      | some b =>
        rw [e1, e2] at h
        cases h
        obtain ⟨v, vr, e, r1, r2⟩ := r
        subst e
        obtain ⟨rfl, f1⟩ := flat_rep e1 r1
        obtain ⟨rfl, f2⟩ := flats_rep e2 r2
        exact ⟨rfl, by rw [List.all_cons, f1, f2]; rfl⟩
def inSq (neg : Bool) (d : D) (es : List D) : M D := match flatD d, flatsD es with
  | some x, some xs => M.ret (.bl (if neg then !inV x xs else inV x xs))
  | _, _ => M.stop
def inD (neg : Bool) : D → D → M D := fun d e => match d, e with
  | .str x, .str z => match x.cps.toList with
    | [c] => M.ret (.bl (if neg then !decide (c ∈ z.cps.toList) else decide (c ∈ z.cps.toList)))
    | _ => M.stop
  | d, .tup es => inSq neg d es
  | d, .fro es => inSq neg d es
  | d, .ref l => M.bnd (M.lst l) fun es => inSq neg d es
  | _, _ => M.stop
theorem in_rule {K : PySem.W.Frag} {neg : Bool} : OpD K (fun x y H Q => rIn K neg x y H Q ∨ ∃ (c : Nat) (z : Str), x = .str ⟨#[c]⟩ ∧ y = .str z ∧ Q (.bl (if neg then !decide (c ∈ z.cps.toList) else decide (c ∈ z.cps.toList))) H) (inD neg) := by
  intro mg E α H μ μ' d1 d2 x y q Q s r1 r2 run aft
  have sq : ∀ {es : List D} {p : Addr} {vs : List V}, y = .ref p → (SqL K H p vs ∨ SqT K H p vs) → Reps K α H es vs → inSq neg d1 es μ = some (q, μ') → rIn K neg x y H Q := by
    intro es p vs e t w run
    unfold inSq at run
    cases e1 : flatD d1 with
    | none => rw [e1] at run; cases run
    | some a =>
      cases e2 : flatsD es with
      | none => rw [e1, e2] at run; cases run
      | some b =>
        rw [e1, e2] at run
        obtain ⟨rfl, f1⟩ := flat_rep e1 r1
        obtain ⟨rfl, f2⟩ := flats_rep e2 w
        exact ⟨p, vs, e, t, f1, f2, rd_ret s run aft rfl⟩
  cases d2 with
  | tup es =>
    obtain ⟨p, vs, e, t, w⟩ := r2
    exact .inl (sq e (.inr t) w (by cases d1 <;> exact run))
  | fro es =>
    obtain ⟨p, vs, e, t, w⟩ := r2
    exact .inl (sq e (.inl t.sq) w (by cases d1 <;> exact run))
  | ref l =>
    have run : M.bnd (M.lst l) (fun es => inSq neg d1 es) μ = some (q, μ') := by cases d1 <;> exact run
    obtain ⟨es, h1, run⟩ := bnd_lst run
    obtain ⟨p1, v1, e1, a1, b1, c1⟩ := lst_at s r2 h1
    exact .inl (sq e1 (.inl (SqL.of b1)) c1 run)
  | str z =>
    cases d1 with
    | str x1 =>
      dsimp only [inD] at run
      generalize hc : x1.cps.toList = l at run
      cases l with
      | nil => cases run
      | cons c r =>
        cases r with
        | cons _ _ => cases run
        | nil =>
          refine .inr ⟨c, z, ?_, r2, rd_ret s run aft rfl⟩
          rw [show x = .str x1 from r1]
          obtain ⟨⟨cs⟩⟩ := x1
          have : cs = [c] := by simpa using hc
          rw [this]
    | _ => cases run
  | _ => cases d1 <;> cases run
theorem ok_in : OkCmp .In (inD false) := fun X _ => ⟨_, OpR.or op_in_seq op_in_sign, in_rule⟩
theorem ok_notin : OkCmp .NotIn (inD true) := fun X _ => ⟨_, OpR.or op_notIn_seq op_notIn_sign, in_rule⟩
end Mi
/-! Mi, part O: any sequence walked; constants of the module. -/
namespace Mi
open PySem L2 PyProof.Rows

/-! ### a list, a tuple, a text walked -/
def iAny (K : PySem.W.Frag) (tl : TE) : TI := fun σ H R => tl σ H fun x H1 => (∃ a, x = .ref a ∧ (((∃ xs, SqL K H1 a xs) ∧ R (Itl K a) H1) ∨ ((∃ xs, SqT K H1 a xs) ∧ R (Itt K a) H1))) ∨ ∃ z, x = .str z ∧ R (Its z) H1
theorem pi_any {X : Cx} {tg l : Expr} {tl : TE} (hl : PE X l tl) : PI X tg l (iAny X.K tl) := by
  refine ⟨fun pins s σ H R I h => ?_⟩
  refine thn (hl.run pins s σ H _ I h) fun v s1 ⟨x, H1, I1, r1, q1⟩ => ?_
  rcases q1 with ⟨a, e, q1⟩ | ⟨z, e, q⟩
  · subst e
    cases r1
    have fr : ∀ b ∈ [s1.heap.objs.size], FpOk X pins H1 b := fun b hb => by
      have e : b = s1.heap.objs.size := by simpa using hb
      subst e
      exact I1.fpOk (Nat.le_refl _) (I1.hok.fresh (Nat.le_refl _))
    rcases q1 with ⟨⟨xs, hq⟩, q⟩ | ⟨⟨xs, hq⟩, q⟩
    · obtain ⟨its, rv, p, hz⟩ := I1.list hq
      refine wpAny_pyIter_list p.isList ?_
      exact ⟨s1.heap.objs.size, [s1.heap.objs.size], _, _, H1, rfl, I1.kept (t' := s1.toks) fun b o e => Heap.get?_push_of_some _ e, turn_list a _, ⟨_, Heap.get?_push_size _ rfl, rfl, rfl⟩, fr, q⟩
    · obtain ⟨its, rv, p, hz⟩ := I1.tuple hq
      refine wpAny_pyIter_tuple (show s1.heap.IsTuple a its.toArray from p) ?_
      exact ⟨s1.heap.objs.size, [s1.heap.objs.size], _, _, H1, rfl, I1.kept (t' := s1.toks) fun b o e => Heap.get?_push_of_some _ e, turn_tuple a _, ⟨_, Heap.get?_push_size _ rfl, rfl, rfl⟩, fr, q⟩
  · subst e
    obtain ⟨t, rfl⟩ := r1
    cases ha : z.cps.all (· < 128)
    · exact wpAny_pyIter_wide ha (pi_one (tk := s1.toks) I1 _ (turn_str _ z t "str_iterator" (.inr rfl)) ⟨_, Heap.get?_push_size _ rfl, rfl, rfl⟩ q)
    · exact wpAny_pyIter_ascii ha (pi_one (tk := s1.toks) I1 _ (turn_str _ z t "str_ascii_iterator" (.inl rfl)) ⟨_, Heap.get?_push_size _ rfl, rfl, rfl⟩ q)
def wkS (z : Str) : Wk := ⟨fun i _ => some (z.cps[i]?.map fun c => .str ⟨#[c]⟩), z.cps.size⟩
def anyW : D → M Wk
  | .tup ds => M.ret (wkOf ds)
  | .fro ds => M.ret (wkOf ds)
  | .ref l => M.bnd (M.lst l) fun ds => M.ret (wkL l ds.length)
  | .str z => M.ret (wkS z)
  | _ => M.stop
theorem jok_str {K : PySem.W.Frag} {α : List Addr} {H : Hp} {z : Str} : JOk K α H (wkS z) (Its z) := by
  intro α1 H1 μ i x s
  dsimp only [wkS]
  cases e : z.cps[i]? with
  | none => exact Array.getElem?_eq_none_iff.mp e
  | some c =>
    refine ⟨(Array.getElem?_eq_some_iff.mp e).1, ?_⟩
    rintro v H' ⟨rfl, c', hc, rfl⟩
    rw [e] at hc
    cases hc
    exact ⟨Ext.refl _ _, s, rfl⟩
section
variable {Kn : Kno} {k : Nat}
def iA (a : CE) : CI := ⟨fun ρ => M.bnd (a.run ρ) anyW, fun I _ e => a.chk I e⟩
theorem g_iA {a : CE} (ha : GE Kn k a) : GI Kn k (iA a) := by
  intro X W cb bs tg e h
  refine PI.imp (pi_any (ha X W cb bs e h)) ?_
  rintro σ H R ⟨α, ρ, μ, q, μ', g, run, aft⟩
  refine rd_seq g run aft fun d v α1 H1 μ1 g1 k1 r1 run1 aft1 => ?_
  cases d with
  | tup ds =>
    obtain ⟨p, vs, e, t, w⟩ := r1
    exact .inl ⟨p, e, .inr ⟨⟨vs, t⟩, rd_ret (R := fun α H w J => JOk X.K α H w J) g1.s run1 aft1 (jok_tup t w)⟩⟩
  | fro ds =>
    obtain ⟨p, vs, e, t, w⟩ := r1
    exact .inl ⟨p, e, .inl ⟨⟨vs, t.sq⟩, rd_ret (R := fun α H w J => JOk X.K α H w J) g1.s run1 aft1 (jok_fro t w)⟩⟩
  | ref l =>
    obtain ⟨ds, h1, run1⟩ := bnd_lst run1
    obtain ⟨p1, v1, e1, a1, b1, c1⟩ := lst_at g1.s r1 h1
    exact .inl ⟨p1, e1, .inl ⟨⟨v1, SqL.of b1⟩, rd_ret (R := fun α H w J => JOk X.K α H w J) g1.s run1 aft1 (jok_lst a1)⟩⟩
  | str z => exact .inr ⟨z, r1, rd_ret (R := fun α H w J => JOk X.K α H w J) g1.s run1 aft1 jok_str⟩
  | _ => cases run1
end
/-! ### constants of the module -/
/-- the value u of the module is the data d -/
def CR (K : PySem.W.Frag) (d : D) (u : Value) : Prop := ∃ v : V, RelV v u ∧ ∀ α H, Rep K α H d v
def CRs (K : PySem.W.Frag) (ds : List D) (us : List Value) : Prop := ∃ vs : List V, Vals vs us ∧ ∀ α H, Reps K α H ds vs
section
variable {K : PySem.W.Frag}
theorem cr_int {i : Int} {t : Tok} : CR K (.int i) (.int i t) := ⟨.int i, ⟨t, rfl⟩, fun _ _ => rfl⟩
theorem cr_str {x : Str} {t : Tok} : CR K (.str x) (.str x t) := ⟨.str x, ⟨t, rfl⟩, fun _ _ => rfl⟩
theorem cr_bl {b : Bool} : CR K (.bl b) (.bool b) := ⟨.bl b, rfl, fun _ _ => rfl⟩
theorem cr_non : CR K .non .none := ⟨.non, rfl, fun _ _ => rfl⟩
theorem crs_nil : CRs K [] [] := ⟨[], .nil, fun _ _ => rfl⟩
theorem crs_cons {d : D} {u : Value} {ds : List D} {us : List Value} (h : CR K d u) (hs : CRs K ds us) : CRs K (d :: ds) (u :: us) := by
  obtain ⟨v, r, q⟩ := h
  obtain ⟨vs, rs, qs⟩ := hs
  exact ⟨v :: vs, .cons r rs, fun α H => Reps.cons (q α H) (qs α H)⟩
theorem cr_tup {p : Addr} {od : Option Addr} {its : Array Value} {n : Nat} {sl : Array (Option Value)} {ds : List D} (l : K.lookup p = some ⟨.type "tuple", od, .seq its n, sl⟩) (hz : its.size ≤ 1000) (h : CRs K ds its.toList) : CR K (.tup ds) (.ref p) := by
  obtain ⟨vs, r, q⟩ := h
  exact ⟨.ref p, rfl, fun α H => ⟨p, vs, rfl, .inr ⟨_, its, n, l, rfl, rfl, Nat.le_trans hz (by decide), r⟩, q α H⟩⟩
end
theorem isGlo {Kn : Kno} {x : Str} {d : D} (h : ∀ P w K mg base, Kn P w K mg base → ∃ u, mg x = some u ∧ CR K d u) : IsGlo Kn x d := fun P w K mg base hk => by
  obtain ⟨u, hm, v, r, q⟩ := h P w K mg base hk
  exact ⟨v, u, hm, r, q⟩
end Mi
/-! Mi, part P: words of texts, f-strings, is of truths, count, three names at once, what is never come to. -/
namespace Mi
open PySem L2 PyProof.Rows

/-! ### a statement that is never come to -/
def sNever : CS := ⟨fun _ _ => none, fun _ _ => true⟩
theorem g_sNever {Kn : Kno} {k : Nat} : GS Kn k sNever := by
  intro X W cb bs po e h
  refine ⟨fun pins s σ H Q I h => ?_⟩
  obtain ⟨α, ρ, μ, r, μ', g, run, aft⟩ := h
  cases run
/-! ### is, is not of truths -/
def isBD (neg : Bool) : D → D → M D
  | .bl a, .bl b => M.ret (.bl (if neg then !decide (a = b) else decide (a = b)))
  | _, _ => M.stop
theorem ok_isB : OkCmp .Is (isBD false) := by
  intro X _
  refine ⟨_, op_isBl, ?_⟩
  intro mg E α H μ μ' d1 d2 x y q Q s r1 r2 run aft
  unfold isBD at run
  split at run
  · exact ⟨_, _, r1, r2, rd_ret s run aft rfl⟩
  · cases run
theorem ok_isnB : OkCmp .IsNot (isBD true) := by
  intro X _
  refine ⟨_, op_notBl, ?_⟩
  intro mg E α H μ μ' d1 d2 x y q Q s r1 r2 run aft
  unfold isBD at run
  split at run
  · exact ⟨_, _, r1, r2, rd_ret s run aft rfl⟩
  · cases run
/-! ### int(text) -/
def intTx : List D → M D
  | [.int i] => M.ret (.int i)
  | [.bl b] => M.ret (.int (if b then 1 else 0))
  | [.str z] => match PySem.intText? z with
    | some n => if z.length ≤ 640 then M.ret (.int n) else M.stop
    | none => M.stop
  | _ => M.stop
theorem ok_intTx : OkCall (.type "int") intTx := by
  intro X _
  refine ⟨_, CallR.or call_int1 call_int_str, ?_⟩
  intro mg E α H μ μ' ds xs q Q s r run aft
  unfold intTx at run
  split at run
  · obtain ⟨v, vr, e, r1, r2⟩ := r
    cases (show vr = [] from r2)
    cases (show v = .int _ from r1)
    exact .inl (.inl ⟨_, e, rd_ret s run aft rfl⟩)
  · obtain ⟨v, vr, e, r1, r2⟩ := r
    cases (show vr = [] from r2)
    cases (show v = .bl _ from r1)
    exact .inl (.inr ⟨_, e, rd_ret s run aft rfl⟩)
  · rename_i z
    obtain ⟨v, vr, e, r1, r2⟩ := r
    cases (show vr = [] from r2)
    cases (show v = .str _ from r1)
    cases hi : PySem.intText? z with
    | none => rw [hi] at run; cases run
    | some n =>
      rw [hi] at run
      dsimp only at run
      split at run
      · rename_i hz
        exact .inr ⟨_, _, e, hi, hz, rd_ret s run aft rfl⟩
      · cases run
  · cases run
/-! ### methods of texts -/
def swD : D → List D → M D
  | .str a, [.str b] => M.ret (.bl (Txt.startswith a b))
  | _, _ => M.stop
theorem ok_sw : OkMt "str.startswith" swD := by
  intro X _
  refine ⟨_, mt_startswith, ?_⟩
  intro mg E α H μ μ' d x ds xs q Q s rx r run aft
  unfold swD at run
  split at run
  · obtain ⟨v, vr, e, r1, r2⟩ := r
    cases (show vr = [] from r2)
    cases (show v = .str _ from r1)
    exact ⟨_, _, rx, e, rd_ret s run aft rfl⟩
  · cases run
def lsD : D → List D → M D
  | .str a, [.str b] => if a.length ≤ sizeLine then M.ret (.str (Txt.lstripChars a b)) else M.stop
  | _, _ => M.stop
theorem ok_ls : OkMt "str.lstrip" lsD := by
  intro X _
  refine ⟨_, mt_lstripChars, ?_⟩
  intro mg E α H μ μ' d x ds xs q Q s rx r run aft
  unfold lsD at run
  split at run
  · split at run
    · rename_i hz
      obtain ⟨v, vr, e, r1, r2⟩ := r
      cases (show vr = [] from r2)
      cases (show v = .str _ from r1)
      exact ⟨_, _, rx, e, hz, rd_ret s run aft rfl⟩
    · cases run
  · cases run
def partD : D → List D → M D
  | .str a, [.str b] => if (b.length == 0) = false ∧ a.length ≤ sizeLine then M.ret (.tup [.str (Txt.partition a b).1, .str (Txt.partition a b).2.1, .str (Txt.partition a b).2.2]) else M.stop
  | _, _ => M.stop
theorem ok_part : OkMt "str.partition" partD := by
  intro X _
  refine ⟨_, mt_partition, ?_⟩
  intro mg E α H μ μ' d x ds xs q Q s rx r run aft
  unfold partD at run
  split at run
  · split at run
    · rename_i hz
      obtain ⟨v, vr, e, r1, r2⟩ := r
      cases (show vr = [] from r2)
      cases (show v = .str _ from r1)
      refine ⟨_, _, rx, e, hz.1, hz.2, fun p hp => ?_⟩
      cases run
      exact aft α _ _ (Ext.lay hp) (s.lay hp) ⟨p, _, rfl, SqT.of upd_same, Reps.cons rfl (Reps.cons rfl (Reps.cons rfl Reps.nil))⟩
    · cases run
  · cases run
theorem k_sw : MtK "str" "startswith" "str.startswith" := ⟨F.plainAttrs_str, F.slot_str_startswith, F.type_str_startswith⟩
theorem k_ls : MtK "str" "lstrip" "str.lstrip" := ⟨F.plainAttrs_str, F.slot_str_lstrip, F.type_str_lstrip⟩
theorem k_part : MtK "str" "partition" "str.partition" := ⟨F.plainAttrs_str, F.slot_str_partition, F.type_str_partition⟩
/-! ### f-strings of two parts or more: texts, ints -/
structure CJ where
  run : Env → Str → M Str
  chk : Inf → List Expr → Bool
def rdJ (K : PySem.W.Frag) (mg : Str → Option Value) (W : WX) (m : Env → Str → M Str) (acc : Str) : L2.St → Hp → (Str → Hp → Prop) → Prop := rd (fun _ _ (a b : Str) => a = b) K mg W fun ρ => m ρ acc
def GJ (Kn : Kno) (k : Nat) (c : CJ) : Prop := ∀ X W b, Bas Kn k b X W → ∀ e, c.chk ⟨X.N, X.env.scope, b⟩ e = true → ∃ ts, PJ X e ts ∧ ∀ acc σ H Q, rdJ X.K X.mg W c.run acc σ H Q → tJs ts acc σ H Q
def jNil : CJ := ⟨fun _ acc => M.ret acc, fun _ es => match es with
  | [] => true
  | _ => false⟩
def putJ (acc y : Str) : M Str := if (acc ++ y).length ≤ sizeLine then M.ret (acc ++ y) else M.stop
/-- a written part -/
def jLit (z : Str) (r : CJ) : CJ := ⟨fun ρ acc => M.bnd (putJ acc z) fun a => r.run ρ a, fun I es => match es with
  | .Constant (.str y) _ _ :: er => decide (y = z) && r.chk I er
  | _ => false⟩
def fmtD : D → M Str
  | .str y => if y.length ≤ sizeLine then M.ret y else M.stop
  | .int i => if i.natAbs.log2 < 1920 then M.ret (Str.ofString (toString i)) else M.stop
  | _ => M.stop
/-- {a} -/
def jFmt (c : CE) (r : CJ) : CJ := ⟨fun ρ acc => M.bnd (c.run ρ) fun d => M.bnd (fmtD d) fun y => M.bnd (putJ acc y) fun a => r.run ρ a, fun I es => match es with
  | .FormattedValue e (-1) none _ :: er => c.chk I e && r.chk I er
  | _ => false⟩
def cJ (r : CJ) : CE := ⟨fun ρ => M.bnd (r.run ρ Str.empty) fun a => M.ret (.str a), fun I e => match e with
  | .JoinedStr (v1 :: v2 :: rest) _ => r.chk I (v1 :: v2 :: rest)
  | _ => false⟩
section
variable {Kn : Kno} {k : Nat}
theorem g_jNil : GJ Kn k jNil := by
  intro X W b bs e h
  dsimp only [jNil] at h
  split at h
  · refine ⟨[], .nil, ?_⟩
    rintro acc σ H Q ⟨α, ρ, μ, r, μ', g, run, aft⟩
    exact rd_ret g.s run aft rfl
  · cases h
theorem putJ_some {acc y : Str} {μ : List O} {p : Except Ex Str × List O} (h : putJ acc y μ = some p) : (acc ++ y).length ≤ sizeLine ∧ p = (.ok (acc ++ y), μ) := by
  unfold putJ at h
  split at h
  · cases h; exact ⟨by assumption, rfl⟩
  · cases h
theorem bnd_putJ {a : Type} {acc y : Str} {μ μ' : List O} {f : Str → M a} {r : Except Ex a} (h : M.bnd (putJ acc y) f μ = some (r, μ')) : (acc ++ y).length ≤ sizeLine ∧ f (acc ++ y) μ = some (r, μ') := by
  unfold M.bnd at h
  cases e : putJ acc y μ with
  | none => rw [e] at h; cases h
  | some p =>
    obtain ⟨h1, rfl⟩ := putJ_some e
    rw [e] at h
    exact ⟨h1, h⟩
theorem g_jLit {z : Str} {c : CJ} (hr : GJ Kn k c) : GJ Kn k (jLit z c) := by
  intro X W b bs e h
  dsimp only [jLit] at h
  split at h
  · simp only [Bool.and_eq_true, decide_eq_true_eq] at h
    obtain ⟨h1, h2⟩ := h
    subst h1
    obtain ⟨ts, p, q⟩ := hr X W b bs _ h2
    refine ⟨_, .cons pe_str p, ?_⟩
    rintro acc σ H Q ⟨α, ρ, μ, r, μ', g, run, aft⟩
    obtain ⟨hz, run⟩ := bnd_putJ run
    exact ⟨_, rfl, hz, q _ σ H Q ⟨α, ρ, μ, r, μ', g, run, aft⟩⟩
  · cases h
theorem g_jFmt {a : CE} {c : CJ} (ha : GE Kn k a) (hr : GJ Kn k c) : GJ Kn k (jFmt a c) := by
  intro X W b bs e h
  dsimp only [jFmt] at h
  split at h
  · simp only [Bool.and_eq_true] at h
    obtain ⟨h1, h2⟩ := h
    obtain ⟨ts, p, q⟩ := hr X W b bs _ h2
    refine ⟨_, .cons (pe_fmt (ha X W b bs _ h1)) p, ?_⟩
    rintro acc σ H Q ⟨α, ρ, μ, r, μ', g, run, aft⟩
    refine rd_seq g run aft fun d v α1 H1 μ1 g1 k1 r1 run1 aft1 => ?_
    cases d with
    | str y =>
      dsimp only [fmtD] at run1
      by_cases hy : y.length ≤ sizeLine
      · rw [if_pos hy] at run1
        obtain ⟨hz, run2⟩ := bnd_putJ (show M.bnd (putJ acc y) (fun a => c.run ρ a) μ1 = some (r, μ') from run1)
        exact .inl ⟨y, r1, hy, y, rfl, hz, q _ σ H1 Q ⟨α1, ρ, μ1, r, μ', g1, run2, aft1⟩⟩
      · rw [if_neg hy] at run1
        cases run1
    | int i =>
      dsimp only [fmtD] at run1
      by_cases hy : i.natAbs.log2 < 1920
      · rw [if_pos hy] at run1
        obtain ⟨hz, run2⟩ := bnd_putJ (show M.bnd (putJ acc (Str.ofString (toString i))) (fun a => c.run ρ a) μ1 = some (r, μ') from run1)
        exact .inr ⟨i, r1, hy, _, rfl, hz, q _ σ H1 Q ⟨α1, ρ, μ1, r, μ', g1, run2, aft1⟩⟩
      · rw [if_neg hy] at run1
        cases run1
    | _ => cases run1
  · cases h
theorem g_J {c : CJ} (hr : GJ Kn k c) : GE Kn k (cJ c) := by
  intro X W b bs e h
  dsimp only [cJ] at h
  split at h
  · obtain ⟨ts, p, q⟩ := hr X W b bs _ h
    refine PE.imp (pe_joined p) ?_
    rintro σ H Q ⟨α, ρ, μ, r, μ', g, run, aft⟩
    refine q _ σ H _ ?_
    refine rd_seq g run aft fun d v α1 H1 μ1 g1 k1 r1 run1 aft1 => ?_
    subst r1
    exact rd_ret g1.s run1 aft1 rfl
  · cases h
end
/-! ### list.count of flat items -/
def rCntF (K : PySem.W.Frag) : V → List V → Hp → VK → Prop := fun x xs H Q => ∃ (p : Addr) (ys : List V) (y : V), x = .ref p ∧ xs = [y] ∧ SqL K H p ys ∧ flatV y = true ∧ ys.all flatV = true ∧ Q (.int (ys.countP (fun z => eqV z y) : Nat)) H
theorem cnt_U {x : V} : ∀ {ys : List V} {us : List Value}, Vals ys us → ys.all flatV = true → us.countP (eqU x) = ys.countP (fun z => eqV z x)
  | _, _, .nil, _ => rfl
  | y :: ys, u :: us, .cons r t, f => by
    rw [List.all_cons, Bool.and_eq_true] at f
    rw [List.countP_cons, List.countP_cons, cnt_U t f.2, eqU_of r f.1]
theorem mt_cntF {X : Cx} : MtR X "list.count" (rCntF X.K) := by
  intro pins s σ H x xs v us Q I rx rxs h
  obtain ⟨p, ys, y, rfl, rfl, hs, fy, fs, q⟩ := h
  cases rx
  obtain ⟨u, rfl, ru⟩ := rxs.one
  obtain ⟨its, rv, ⟨⟨cls, dd, data, sl⟩, n, ho, hc, hdn, hd⟩, hlen⟩ := I.list hs
  simp only at hc hd
  subst hc hd
  refine call_meets PySem.F.slot_list_count ⟨_, ho, rfl⟩ PySem.F.entry_list_count (PySem.F.args_list_count_2 _ _)
    (SeqAt.list_countAt p its.toArray n dd sl u (eqU y)) ⟨ho, fun z hz => mem_eqAt ru fy rv fs z (by simpa using hz), ?_⟩
  refine ⟨.int (ys.countP (fun z => eqV z y) : Nat), H, I.tok _, ⟨s.toks, ?_⟩, q⟩
  show Value.int ((its.toArray.toList.countP (eqU y) : Nat) : Int) s.toks = _
  rw [show its.toArray.toList.countP (eqU y) = ys.countP (fun z => eqV z y) from cnt_U rv fs]
def cntD : D → List D → M D
  | .ref l, [d] => M.bnd (M.lst l) fun es => match flatD d, flatsD es with
    | some x, some xs => M.ret (.int (xs.countP (fun z => eqV z x) : Nat))
    | _, _ => M.stop
  | _, _ => M.stop
theorem ok_cnt : OkMt "list.count" cntD := by
  intro X _
  refine ⟨_, mt_cntF, ?_⟩
  intro mg E α H μ μ' d x ds xs q Q s rx r run aft
  unfold cntD at run
  split at run
  · rename_i l d1
    obtain ⟨es, h1, run⟩ := bnd_lst run
    obtain ⟨p1, v1, e1, a1, b1, c1⟩ := lst_at s rx h1
    obtain ⟨v, vr, e, r1, r2⟩ := r
    cases (show vr = [] from r2)
    cases h2 : flatD d1 with
    | none => rw [h2] at run; cases run
    | some y =>
      cases h3 : flatsD es with
      | none => rw [h2, h3] at run; cases run
      | some ys =>
        rw [h2, h3] at run
        obtain ⟨rfl, f1⟩ := flat_rep h2 r1
        obtain ⟨rfl, f2⟩ := flats_rep h3 c1
        exact ⟨p1, v1, v, e1, e, SqL.of b1, f1, f2, rd_ret s run aft rfl⟩
  · cases run
theorem k_cnt : MtK "list" "count" "list.count" := ⟨F.plainAttrs_list, F.slot_list_count, F.type_list_count⟩
/-! ### a, b, c = x, y, z with plain local names -/
def names3 (I : Inf) (i j l : Nat) (x y z : Expr) : Bool := match x, y, z with
  | .Name a p, .Name b q, .Name c r => decide (I.N[i]? = some a) && (decide (I.N[j]? = some b) && (decide (I.N[l]? = some c) && (decide (I.sc.names.lookup a = some .local) && (decide (I.sc.names.lookup b = some .local) && (decide (I.sc.names.lookup c = some .local) && (p.line == q.line && (p.line == r.line && (!(a == b) && (!(a == c) && !(b == c)))))))))) 
  | _, _, _ => false
def sPar3 (i j l : Nat) (a b c : CE) : CS := ⟨fun ρ => Ms.of (M.bnd (a.run ρ) fun x => M.bnd (b.run ρ) fun y => M.bnd (c.run ρ) fun z => M.ret (x, y, z)) ρ fun (p : D × D × D) μ => some (.nx (((ρ.set i (some p.1)).set j (some p.2.1)).set l (some p.2.2)), μ), fun I st => match st with
  | .Assign [.Tuple [t1, t2, t3] _ _] (.Tuple [e1, e2, e3] _ _) _ => decide (I.sc.kind = .function) && (!decide (i = j) && (!decide (i = l) && (!decide (j = l) && (names3 I i j l t1 t2 t3 && (foldFree [e1, e2, e3] && (a.chk I e1 && (b.chk I e2 && c.chk I e3)))))))
  | _ => false⟩
theorem swap3 {x y z : Str} {px py pz pt pt2 : Pos} {kt k2 : Nat} {e1 e2 e3 : Expr} {env : PySem.Env} (hk : env.scope.kind = .function) (hx : env.scope.names.lookup x = some .local) (hy : env.scope.names.lookup y = some .local) (hzl : env.scope.names.lookup z = some .local)
    (hl : (px.line == py.line) = true) (hl2 : (px.line == pz.line) = true) (h1 : (x == y) = false) (h2 : (x == z) = false) (h3 : (y == z) = false) (hf : foldFree [e1, e2, e3] = true) :
    swappedStores [.Tuple [.Name x px, .Name y py, .Name z pz] kt pt] (.Tuple [e1, e2, e3] k2 pt2) env = pure (some [x, y, z]) := by
  unfold foldFree at hf
  simp only [Bool.and_eq_true, Bool.not_eq_true'] at hf
  have kx : env.kindOf x = some .local := hx
  have ky : env.kindOf y = some .local := hy
  have kz : env.kindOf z = some .local := hzl
  have hl' : px.line = py.line := by simpa using hl
  have hl2' : px.line = pz.line := by simpa using hl2
  have n1 : ¬ y = x := fun z => by rw [z] at h1; simp at h1
  have n2 : ¬ z = x := fun z => by rw [z] at h2; simp at h2
  have n3 : ¬ z = y := fun z => by rw [z] at h3; simp at h3
  have v1 : noStar e1 = true ∧ noStar e2 = true ∧ noStar e3 = true := by simpa using hf.1
  unfold swappedStores
  have hl3 : pz.line = py.line := hl2'.symm.trans hl'
  have m1 : ¬ x = y := fun e => n1 e.symm
  have m2 : ¬ x = z := fun e => n2 e.symm
  have m3 : ¬ y = z := fun e => n3 e.symm
  simp [fn_block hk, kx, ky, kz, hf.2.1, hf.2.2, hl', hl3, n1, n2, n3, m1, m2, m3, List.eraseDups_cons, Expr.pos]
  intro q
  rcases q with q | q | q
  · exact (notSt q v1.1).elim
  · exact (notSt q v1.2.1).elim
  · exact (notSt q v1.2.2).elim
theorem g_sPar3 {Kn : Kno} {k : Nat} {i j l : Nat} {a b c : CE} (ha : GE Kn k a) (hb : GE Kn k b) (hc : GE Kn k c) : GS Kn k (sPar3 i j l a b c) := by
  intro X W cb bs po e h
  dsimp only [sPar3] at h
  split at h
  · rename_i t1 t2 t3 k1 p1 e1 e2 e3 k2 p2 pos
    simp only [Bool.and_eq_true, decide_eq_true_eq, Bool.not_eq_true', decide_eq_false_iff_not] at h
    obtain ⟨hk, hij, hil, hjl, hn, hf, c1, c2, c3⟩ := h
    unfold names3 at hn
    split at hn
    · simp only [Bool.and_eq_true, decide_eq_true_eq, Bool.not_eq_true'] at hn
      obtain ⟨n1, n2, n3, n4, n5, n6, n7, n8, n9, n10, n11⟩ := hn
      have hs : [e1, e2, e3].all noStar = true := by
        unfold foldFree at hf
        rw [Bool.and_eq_true] at hf
        exact hf.1
      simp only [List.all_cons, List.all_nil, Bool.and_true, Bool.and_eq_true] at hs
      refine PS.imp (ps_par3 bs.calm bs.nd n1 n2 n3 hij hil hjl n4 n5 n6 (pa_cons (ha X W cb bs _ c1) (pa_cons (hb X W cb bs _ c2) (pa_cons (hc X W cb bs _ c3) pa_nil (star_cons hs.2.2)) (star_cons hs.2.1)) (star_cons hs.1)) (swap3 hk n4 n5 n6 n7 n8 n9 n10 n11 hf)) ?_
      rintro σ H Dn ⟨α, ρ, μ, q, μ', g, run, aft⟩
      dsimp only [sPar3, Ms.of] at run
      cases e0 : M.bnd (a.run ρ) (fun x => M.bnd (b.run ρ) fun y => M.bnd (c.run ρ) fun z => M.ret (x, y, z)) μ with
      | none => rw [e0] at run; cases run
      | some pr =>
        obtain ⟨r0, μ0⟩ := pr
        rw [e0] at run
        refine rd_seq (R := fun _ _ (x : D × D × D) (y : V × V × V) => True) (Q := fun _ _ => True) (r := r0) (μ' := μ0) g e0 ?_ fun x1 v1 α1 H1 μ1 g1 x1' w1 run1 aft1 => ?_
        · cases r0 with
          | ok _ => exact fun _ _ _ _ _ _ => True.intro
          | error x =>
            cases run
            exact fun α' c dd H' k' s' x' => aft α' c dd σ H' k' s' (g.e.up k') x'
        · refine rd_seq (R := fun _ _ (x : D × D × D) (y : V × V × V) => True) (Q := fun _ _ => True) (r := r0) (μ' := μ0) g1 run1 aft1 fun x2 v2 α2 H2 μ2 g2 x2' w2 run2 aft2 => ?_
          refine rd_seq (R := fun _ _ (x : D × D × D) (y : V × V × V) => True) (Q := fun _ _ => True) (r := r0) (μ' := μ0) g2 run2 aft2 fun x3 v3 α3 H3 μ3 g3 x3' w3 run3 aft3 => ?_
          cases run3
          cases run
          refine ⟨v1, v2, v3, rfl, ?_⟩
          exact aft α3 _ H3 ((x1'.trans x2').trans x3') g3.s (((g3.e.set i ((w1.up x2').up x3')).set j (w2.up x3')).set l w3)
    · cases hn
  · cases h
end Mi
/-! Mi, part G: what holds behind a run; plain Lean, no program in sight. -/
namespace Mi
open PySem L2 PyProof.Rows

/-- m ends at a value with P, or raises with E -/
def Wp {a : Type} (m : M a) (μ : List O) (P : a → List O → Prop) (E : Ex → List O → Prop) : Prop := ∃ r μ', m μ = some (r, μ') ∧ match r with
  | .ok d => P d μ'
  | .error x => E x μ'
def Ws (m : Ms) (μ : List O) (P : SR → List O → Prop) : Prop := ∃ r μ', m μ = some (r, μ') ∧ P r μ'
section
variable {a b : Type} {μ : List O} {P : a → List O → Prop} {Q : b → List O → Prop} {E : Ex → List O → Prop} {S : SR → List O → Prop} {ρ : Env}
theorem Wp.mono {m : M a} {P' : a → List O → Prop} {E' : Ex → List O → Prop} (h : Wp m μ P E) (hp : ∀ d μ', P d μ' → P' d μ') (he : ∀ x μ', E x μ' → E' x μ') : Wp m μ P' E' := by
  obtain ⟨r, μ', e, q⟩ := h
  refine ⟨r, μ', e, ?_⟩
  cases r with
  | ok d => exact hp d μ' q
  | error x => exact he x μ' q
/-- a call that raises nothing -/
theorem Wp.go {m : M a} {P' : a → List O → Prop} (h : Wp m μ P' fun _ _ => False) (hp : ∀ d μ', P' d μ' → P d μ') : Wp m μ P E := h.mono hp fun _ _ z => z.elim
theorem Ws.mono {m : Ms} {S' : SR → List O → Prop} (h : Ws m μ S) (hp : ∀ d μ', S d μ' → S' d μ') : Ws m μ S' := by
  obtain ⟨r, μ', e, q⟩ := h
  exact ⟨r, μ', e, hp r μ' q⟩
theorem wp_ret {d : a} : Wp (M.ret d) μ P E ↔ P d μ := ⟨fun ⟨r, μ', e, q⟩ => by cases e; exact q, fun q => ⟨.ok d, μ, rfl, q⟩⟩
theorem wp_stop : Wp (M.stop : M a) μ P E ↔ False := ⟨fun ⟨_, _, e, _⟩ => (nomatch e), fun z => False.elim z⟩
theorem bnd_ok {m : M b} {f : b → M a} {d : b} {μ1 : List O} (h : m μ = some (.ok d, μ1)) : M.bnd m f μ = f d μ1 := by
  unfold M.bnd
  rw [h]
theorem bnd_er {m : M b} {f : b → M a} {x : Ex} {μ1 : List O} (h : m μ = some (.error x, μ1)) : M.bnd m f μ = some (.error x, μ1) := by
  unfold M.bnd
  rw [h]
theorem of_ok {m : M b} {f : b → Ms} {d : b} {μ1 : List O} (h : m μ = some (.ok d, μ1)) : Ms.of m ρ f μ = f d μ1 := by
  unfold Ms.of
  rw [h]
theorem of_er {m : M b} {f : b → Ms} {x : Ex} {μ1 : List O} (h : m μ = some (.error x, μ1)) : Ms.of m ρ f μ = some (.er x ρ, μ1) := by
  unfold Ms.of
  rw [h]
theorem wp_bnd {m : M b} {f : b → M a} : Wp (M.bnd m f) μ P E ↔ Wp m μ (fun d μ' => Wp (f d) μ' P E) E := by
  constructor
  · rintro ⟨r, μ', e, q⟩
    unfold M.bnd at e
    cases h : m μ with
    | none => rw [h] at e; cases e
    | some p =>
      obtain ⟨r1, μ1⟩ := p
      rw [h] at e
      cases r1 with
      | error x => cases e; exact ⟨.error x, _, h, q⟩
      | ok d => exact ⟨.ok d, μ1, h, r, μ', e, q⟩
  · rintro ⟨r, μ', e, q⟩
    cases r with
    | error x => exact ⟨.error x, μ', bnd_er e, q⟩
    | ok d =>
      obtain ⟨r2, μ2, e2, q2⟩ := q
      exact ⟨r2, μ2, (bnd_ok e).trans e2, q2⟩
theorem wp_ite {c : Prop} [Decidable c] {m1 m2 : M a} : Wp (if c then m1 else m2) μ P E ↔ (c → Wp m1 μ P E) ∧ (¬ c → Wp m2 μ P E) := by
  by_cases h : c
  · rw [if_pos h]; exact ⟨fun z => ⟨fun _ => z, fun n => (n h).elim⟩, fun z => z.1 h⟩
  · rw [if_neg h]; exact ⟨fun z => ⟨fun n => (h n).elim, fun _ => z⟩, fun z => z.2 h⟩
theorem wp_iteB {c : Bool} {m1 m2 : M a} : Wp (if c = true then m1 else m2) μ P E ↔ (c = true → Wp m1 μ P E) ∧ (¬ c = true → Wp m2 μ P E) := wp_ite
/-- an if with a stop in its else: the condition holds -/
theorem wp_need {c : Prop} [Decidable c] {m : M a} : Wp (if c then m else M.stop) μ P E ↔ c ∧ Wp m μ P E := by
  by_cases h : c
  · rw [if_pos h]; exact ⟨fun z => ⟨h, z⟩, fun z => z.2⟩
  · rw [if_neg h, wp_stop]; exact ⟨False.elim, fun z => h z.1⟩
theorem wp_new {o : O} {P : D → List O → Prop} : Wp (M.new o) μ P E ↔ P (.ref μ.length) (μ ++ [o]) := ⟨fun ⟨r, μ', e, q⟩ => by cases e; exact q, fun q => ⟨.ok _, _, rfl, q⟩⟩
theorem wp_lst {l : Nat} {P : List D → List O → Prop} {ds : List D} (h : μ[l]? = some (.lst ds)) : Wp (M.lst l) μ P E ↔ P ds μ := by
  constructor
  · rintro ⟨r, μ', e, q⟩
    obtain ⟨ds', h1, h2⟩ := lst_some e
    cases h2
    rw [h] at h1
    cases h1
    exact q
  · intro q
    exact ⟨.ok ds, μ, by unfold M.lst; rw [h], q⟩
theorem ws_of {m : M b} {f : b → Ms} : Ws (Ms.of m ρ f) μ S ↔ Wp m μ (fun d μ' => Ws (f d) μ' S) (fun x μ' => S (.er x ρ) μ') := by
  constructor
  · rintro ⟨r, μ', e, q⟩
    unfold Ms.of at e
    cases h : m μ with
    | none => rw [h] at e; cases e
    | some p =>
      obtain ⟨r1, μ1⟩ := p
      rw [h] at e
      cases r1 with
      | error x => cases e; exact ⟨.error x, _, h, q⟩
      | ok d => exact ⟨.ok d, μ1, h, r, μ', e, q⟩
  · rintro ⟨r, μ', e, q⟩
    cases r with
    | error x => exact ⟨_, μ', of_er e, q⟩
    | ok d =>
      obtain ⟨r2, μ2, e2, q2⟩ := q
      exact ⟨r2, μ2, (of_ok e).trans e2, q2⟩
theorem ws_some {r : SR} : Ws (fun μ => some (r, μ)) μ S ↔ S r μ := ⟨fun ⟨_, _, e, q⟩ => by cases e; exact q, fun q => ⟨_, _, rfl, q⟩⟩
theorem ws_ite {c : Prop} [Decidable c] {m1 m2 : Ms} : Ws (if c then m1 else m2) μ S ↔ (c → Ws m1 μ S) ∧ (¬ c → Ws m2 μ S) := by
  by_cases h : c
  · rw [if_pos h]; exact ⟨fun z => ⟨fun _ => z, fun n => (n h).elim⟩, fun z => z.1 h⟩
  · rw [if_neg h]; exact ⟨fun z => ⟨fun n => (h n).elim, fun _ => z⟩, fun z => z.2 h⟩
/-- what a block wants behind its first statement -/
def Nx (r : CB) (S : SR → List O → Prop) : SR → List O → Prop := fun x μ' => match x with
  | .nx ρ1 => Ws (r.run ρ1) μ' S
  | x => S x μ'
theorem ws_cons {s : CS} {r : CB} : Ws ((bCons s r).run ρ) μ S ↔ Ws (s.run ρ) μ (Nx r S) := by
  constructor
  · rintro ⟨q, μ', e, z⟩
    dsimp only [bCons] at e
    cases h : s.run ρ μ with
    | none => rw [h] at e; cases e
    | some p =>
      obtain ⟨r1, μ1⟩ := p
      rw [h] at e
      cases r1 with
      | nx ρ1 => exact ⟨.nx ρ1, μ1, h, q, μ', e, z⟩
      | _ => cases e; exact ⟨_, _, h, z⟩
  · rintro ⟨q, μ', e, z⟩
    unfold Ws
    dsimp only [bCons]
    rw [e]
    cases q with
    | nx ρ1 => exact z
    | _ => exact ⟨_, _, rfl, z⟩
theorem ws_nil : Ws (bNil.run ρ) μ S ↔ S (.nx ρ) μ := ⟨fun ⟨_, _, e, q⟩ => by cases e; exact q, fun q => ⟨_, _, rfl, q⟩⟩
/-- what a def wants behind its block -/
def Fn (P : D → List O → Prop) (E : Ex → List O → Prop) : SR → List O → Prop := fun x μ' => match x with
  | .nx _ => P .non μ'
  | .rt d => P d μ'
  | .er x _ => E x μ'
  | _ => False
theorem wp_mir {N np : Nat} {run : Env → Ms} {ds : List D} {P : D → List O → Prop} : Wp (mir N np run ds) μ P E ↔ ds.length = np ∧ Ws (run (ds.map some ++ List.replicate (N - np) none)) μ (Fn P E) := by
  constructor
  · rintro ⟨r, μ', e, q⟩
    have hl := mir_len e
    refine ⟨hl, ?_⟩
    unfold mir at e
    rw [if_pos hl] at e
    cases h : run (ds.map some ++ List.replicate (N - np) none) μ with
    | none => rw [h] at e; cases e
    | some p =>
      obtain ⟨r1, μ1⟩ := p
      rw [h] at e
      cases r1 with
      | nx ρ1 => cases e; exact ⟨_, _, h, q⟩
      | rt d => cases e; exact ⟨_, _, h, q⟩
      | er x ρ1 => cases e; exact ⟨_, _, h, q⟩
      | _ => cases e
  · rintro ⟨hl, r, μ', e, q⟩
    unfold Wp mir
    rw [if_pos hl, e]
    cases r with
    | nx ρ1 => exact ⟨.ok .non, μ', rfl, q⟩
    | rt d => exact ⟨.ok d, μ', rfl, q⟩
    | er x ρ1 => exact ⟨.error x, μ', rfl, q⟩
    | bk ρ1 => exact q.elim
    | ct ρ1 => exact q.elim
theorem nx_nx {r : CB} {ρ1 : Env} : Nx r S (.nx ρ1) μ ↔ Ws (r.run ρ1) μ S := Iff.rfl
theorem nx_rt {r : CB} {d : D} : Nx r S (.rt d) μ ↔ S (.rt d) μ := Iff.rfl
theorem nx_bk {r : CB} {ρ1 : Env} : Nx r S (.bk ρ1) μ ↔ S (.bk ρ1) μ := Iff.rfl
theorem nx_ct {r : CB} {ρ1 : Env} : Nx r S (.ct ρ1) μ ↔ S (.ct ρ1) μ := Iff.rfl
theorem nx_er {r : CB} {x : Ex} {ρ1 : Env} : Nx r S (.er x ρ1) μ ↔ S (.er x ρ1) μ := Iff.rfl
theorem fn_nx {P : D → List O → Prop} {ρ1 : Env} : Fn P E (.nx ρ1) μ ↔ P .non μ := Iff.rfl
theorem fn_rt {P : D → List O → Prop} {d : D} : Fn P E (.rt d) μ ↔ P d μ := Iff.rfl
theorem fn_er {P : D → List O → Prop} {x : Ex} {ρ1 : Env} : Fn P E (.er x ρ1) μ ↔ E x μ := Iff.rfl
end
/-! ### the codes' runs, one step -/
section
variable {ρ : Env} {a b c : CE} {t u : CT}
theorem r_var {i : Nat} : (cVar i).run ρ = getV i ρ := rfl
theorem getV_is {i : Nat} {d : D} (h : ρ[i]? = some (some d)) : getV i ρ = M.ret d := by unfold getV; rw [h]
theorem r_int {i : Int} : (cInt i).run ρ = M.ret (.int i) := rfl
theorem r_bl {i : Bool} : (cBl i).run ρ = M.ret (.bl i) := rfl
theorem r_str {i : Str} : (cStr i).run ρ = M.ret (.str i) := rfl
theorem r_non : cNon.run ρ = M.ret .non := rfl
theorem r_glo {x : Str} {d : D} : (cGlo x d).run ρ = M.ret d := rfl
theorem r_nil : aNil.run ρ = M.ret [] := rfl
theorem r_cons {cs : CA} : (aCons a cs).run ρ = M.bnd (a.run ρ) fun d => M.bnd (cs.run ρ) fun ds => M.ret (d :: ds) := rfl
theorem r_tup {cs : CA} : (cTup cs).run ρ = M.bnd (cs.run ρ) fun ds => if ds.length ≤ sizeLine then M.ret (.tup ds) else M.stop := rfl
theorem r_lst {cs : CA} : (cLst cs).run ρ = M.bnd (cs.run ρ) fun ds => if ds.length ≤ sizeLine then M.new (.lst ds) else M.stop := rfl
theorem r_bin {op : Operator} {f : D → D → M D} : (cBin op f a b).run ρ = M.bnd (a.run ρ) fun x => M.bnd (b.run ρ) fun y => f x y := rfl
theorem r_cmp {op : CmpOp} {f : D → D → M D} : (cCmp op f a b).run ρ = M.bnd (a.run ρ) fun x => M.bnd (b.run ρ) fun y => f x y := rfl
theorem r_tcmp {op : CmpOp} {f : D → D → M D} : (tCmpC op f a b).run ρ = M.bnd (M.bnd (a.run ρ) fun x => M.bnd (b.run ρ) fun y => f x y) asB := rfl
theorem r_tval : (tVal a).run ρ = M.bnd (a.run ρ) asB := rfl
theorem r_tnot : (tNotC t).run ρ = M.bnd (t.run ρ) fun b => M.ret (!b) := rfl
theorem r_and1 : (wAnd1 t).run ρ = t.run ρ := rfl
theorem r_or1 : (wOr1 t).run ρ = t.run ρ := rfl
theorem r_and : (wAnd t u).run ρ = M.bnd (t.run ρ) fun c => if c = true then u.run ρ else M.ret false := rfl
theorem r_or : (wOr t u).run ρ = M.bnd (t.run ρ) fun c => if c = true then M.ret true else u.run ρ := rfl
theorem r_if : (cIf t a b).run ρ = M.bnd (t.run ρ) fun c => if c = true then a.run ρ else b.run ρ := rfl
theorem r_vone {op : PySem.BoolOp} : (vOne op a).run ρ = a.run ρ := rfl
theorem r_vand : (vAnd a b).run ρ = M.bnd (M.bnd (a.run ρ) asB) fun c => if c = true then b.run ρ else M.ret (.bl false) := rfl
theorem r_vor : (vOr a b).run ρ = M.bnd (M.bnd (a.run ρ) asB) fun c => if c = true then M.ret (.bl true) else b.run ρ := rfl
theorem r_not : (cNot a).run ρ = M.bnd (M.bnd (a.run ρ) asB) fun b => M.ret (.bl (!b)) := rfl
theorem r_neg : (cNeg a).run ρ = M.bnd (a.run ρ) negD := rfl
theorem r_chain {op op' : CmpOp} {f f' : D → D → M D} : (cChain op op' f f' a b c).run ρ = M.bnd (a.run ρ) fun x => M.bnd (b.run ρ) fun y => M.bnd (M.bnd (f x y) asB) fun t => if t = true then M.bnd (c.run ρ) fun z => f' y z else M.ret (.bl false) := rfl
theorem r_tchain {op op' : CmpOp} {f f' : D → D → M D} : (tChainC op op' f f' a b c).run ρ = M.bnd ((cChain op op' f f' a b c).run ρ) asB := rfl
theorem r_ix : (cIx a b).run ρ = M.bnd (a.run ρ) fun x => M.bnd (b.run ρ) fun y => ixD x y := rfl
theorem r_slice {lo hi : CO} : (cSlice a lo hi).run ρ = M.bnd (a.run ρ) fun x => M.bnd (lo.run ρ) fun l => M.bnd (hi.run ρ) fun h => slD x l h := rfl
theorem r_ono : oNo.run ρ = M.ret none := rfl
theorem r_oyes : (oYes a).run ρ = M.bnd (a.run ρ) asI := rfl
theorem r_B {x : Str} {f : List D → M D} {cs : CA} : (cB x f cs).run ρ = M.bnd (cs.run ρ) f := rfl
theorem r_call {x : Str} {f : List D → M D} {cs : CA} : (cCall x f cs).run ρ = M.bnd (cs.run ρ) f := rfl
theorem r_call0 {x : Str} {f : List D → M D} : (cCall0 x f).run ρ = f [] := rfl
theorem r_isi {x : Str} {T : String} : (cIsi x T a).run ρ = M.bnd (a.run ρ) (isiD T) := rfl
theorem r_dict1 : (cDict1 a b).run ρ = withNew (.dct []) fun l => M.bnd (a.run ρ) fun x => M.bnd (b.run ρ) fun y => match keyD x with
    | some kk => setEmpty l [(kk, y)]
    | none => M.stop := rfl
theorem r_rev : (cRev a).run ρ = M.bnd (a.run ρ) revD := rfl
theorem r_J {c : CJ} : (cJ c).run ρ = M.bnd (c.run ρ Str.empty) fun a => M.ret (.str a) := rfl
theorem j_nil {acc : Str} : jNil.run ρ acc = M.ret acc := rfl
theorem j_lit {z acc : Str} {c : CJ} : (jLit z c).run ρ acc = M.bnd (putJ acc z) fun a => c.run ρ a := rfl
theorem j_fmt {acc : Str} {c : CJ} : (jFmt a c).run ρ acc = M.bnd (a.run ρ) fun d => M.bnd (fmtD d) fun y => M.bnd (putJ acc y) fun a => c.run ρ a := rfl
theorem s_par3 {i j l : Nat} : (sPar3 i j l a b c).run ρ = Ms.of (M.bnd (a.run ρ) fun x => M.bnd (b.run ρ) fun y => M.bnd (c.run ρ) fun z => M.ret (x, y, z)) ρ fun (p : D × D × D) μ => some (.nx (((ρ.set i (some p.1)).set j (some p.2.1)).set l (some p.2.2)), μ) := rfl
theorem r_callK {x : Str} {ks : List Str} {perm : List Nat} {m : List D → M D} {cs : CK} : (cCallK x ks perm m cs).run ρ = M.bnd (cs.run ρ) fun ds => if ds.length = ks.length then m (permL perm ds) else M.stop := rfl
theorem r_kNil : kNil.run ρ = M.ret [] := rfl
theorem r_kCons {cs : CK} : (kCons a cs).run ρ = M.bnd (a.run ρ) fun d => M.bnd (cs.run ρ) fun ds => M.ret (d :: ds) := rfl
theorem r_m0 {T name : String} {f : D → List D → M D} : (cM0 T name f a).run ρ = M.bnd (a.run ρ) fun x => M.bnd (isT T x) fun _ => f x [] := rfl
theorem r_m {T name : String} {f : D → List D → M D} {cs : CA} : (cM T name f a cs).run ρ = M.bnd (a.run ρ) fun x => M.bnd (isT T x) fun _ => M.bnd (cs.run ρ) fun ds => f x ds := rfl
theorem i_A : (iA a).run ρ = M.bnd (a.run ρ) anyW := rfl
theorem i_En : (iEn a).run ρ = M.bnd (a.run ρ) enW := rfl
theorem i_Zp : (iZp a b).run ρ = M.bnd (a.run ρ) fun x => M.bnd (b.run ρ) fun y => zipW x y := rfl
theorem f_nil : fNil.run ρ = M.ret true := rfl
theorem f_one : (fOne t).run ρ = t.run ρ := rfl
theorem s_asg2 {g : CG} : (sAsg2 g a).run ρ = (sAsg g a).run ρ := rfl
theorem s_setLc {i : Nat} {it : CI} {g : CG} {f : CF} {e : CE} {vs : List (Str × Nat)} : (sSetLc i it g f e vs).run ρ = (sAsg (gN i) (cLc it g f e vs)).run ρ := rfl
/-- a comprehension behind its source -/
def lcM (w : Wk) (g : CG) (f : Env → M Bool) (e : Env → M D) (ρ : Env) : M D := fun μ => lcRun w g f e μ.length ρ w.fuel 0 (μ ++ [.lst []])
theorem r_lc {it : CI} {g : CG} {f : CF} {e : CE} {vs : List (Str × Nat)} : (cLc it g f e vs).run ρ = M.bnd (it.run ρ) fun w => lcM w g f.run e.run (wipeE ρ (vs.map (·.2))) := rfl
theorem s_asg {g : CG} : (sAsg g a).run ρ = Ms.of (a.run ρ) ρ fun d μ => match g.run d ρ μ with
  | some (ρ1, μ1) => some (.nx ρ1, μ1)
  | none => none := rfl
theorem s_expr : (sExpr a).run ρ = Ms.of (a.run ρ) ρ fun _ μ => some (.nx ρ, μ) := rfl
theorem s_ret : (sRet a).run ρ = Ms.of (a.run ρ) ρ fun d μ => some (.rt d, μ) := rfl
theorem s_if {x y : CB} : (sIf t x y).run ρ = Ms.of (t.run ρ) ρ fun c => if c = true then x.run ρ else y.run ρ := rfl
theorem s_par {i j : Nat} : (sPar i j a b).run ρ = Ms.of (M.bnd (a.run ρ) fun x => M.bnd (b.run ρ) fun y => M.ret (x, y)) ρ fun (p : D × D) μ => some (.nx ((ρ.set i (some p.1)).set j (some p.2)), μ) := rfl
theorem s_while {m : Env → Nat} {b : CB} : (sWhile m t b).run ρ = whl t.run b.run (m ρ) ρ := rfl
theorem s_for {g : CG} {it : CI} {b : CB} : (sFor g it b).run ρ = Ms.of (it.run ρ) ρ fun w => forRun w g b w.fuel 0 ρ := rfl
theorem s_brk : sBrk.run ρ = fun μ => some (.bk ρ, μ) := rfl
theorem s_cont : sCont.run ρ = fun μ => some (.ct ρ, μ) := rfl
theorem s_pass : sPass.run ρ = fun μ => some (.nx ρ, μ) := rfl
theorem s_retN : sRetN.run ρ = fun μ => some (.rt .non, μ) := rfl
theorem i_T : (iT a).run ρ = M.bnd (a.run ρ) tupW := rfl
theorem i_L : (iL a).run ρ = M.bnd (a.run ρ) seqW := rfl
theorem i_R1 : (iR1 a).run ρ = M.bnd (a.run ρ) rngW1 := rfl
theorem i_R2 : (iR2 a b).run ρ = M.bnd (a.run ρ) fun x => M.bnd (b.run ρ) fun y => rngW2 x y := rfl
end
/-! ### places of lists, stores to them -/
theorem ixN_nat {n j : Nat} (h : j < n) : ixN n (j : Int) = some j := by
  unfold ixN
  rw [if_pos (by omega), if_pos (by omega)]
  simp
theorem ixN_0 {n : Nat} (h : 0 < n) : ixN n 0 = some 0 := ixN_nat (j := 0) h
theorem ixN_1 {n : Nat} (h : 1 < n) : ixN n 1 = some 1 := ixN_nat (j := 1) h
theorem ixN_2 {n : Nat} (h : 2 < n) : ixN n 2 = some 2 := ixN_nat (j := 2) h
theorem atD_nat {ds : List D} {j : Nat} {d : D} (h : ds[j]? = some d) : atD ds (j : Int) = M.ret d := by
  unfold atD
  rw [atI_nat h]
theorem atD_0 {a : D} {r : List D} : atD (a :: r) 0 = M.ret a := atD_nat (j := 0) rfl
theorem atD_1 {a b : D} {r : List D} : atD (a :: b :: r) 1 = M.ret b := atD_nat (j := 1) rfl
theorem atD_2 {a b c : D} {r : List D} : atD (a :: b :: c :: r) 2 = M.ret c := atD_nat (j := 2) rfl
theorem atD_last {r : List D} {a : D} : atD (r ++ [a]) (-1) = M.ret a := by
  unfold atD
  rw [atI_last]
/-- some item at a place within -/
theorem atD_some {ds : List D} {i : Int} (h0 : 0 ≤ i) (h1 : i < ds.length) : ∃ d, d ∈ ds ∧ atD ds i = M.ret d := by
  obtain ⟨j, rfl⟩ : ∃ j : Nat, i = j := ⟨i.toNat, by omega⟩
  have hj : j < ds.length := by omega
  exact ⟨ds[j], List.getElem_mem hj, atD_nat (List.getElem?_eq_getElem hj)⟩
theorem wp_at {ds : List D} {i : Int} {μ : List O} {P : D → List O → Prop} {E : Ex → List O → Prop} (h0 : 0 ≤ i) (h1 : i < ds.length) (k : ∀ d, d ∈ ds → P d μ) : Wp (atD ds i) μ P E := by
  obtain ⟨d, hm, e⟩ := atD_some h0 h1
  rw [e, wp_ret]
  exact k d hm
theorem ix_ref {l : Nat} {i : Int} : ixD (.ref l) (.int i) = M.bnd (M.lst l) fun ds => atD ds i := rfl
theorem ix_tup {ds : List D} {i : Int} : ixD (.tup ds) (.int i) = atD ds i := rfl
theorem ix_fro {ds : List D} {i : Int} : ixD (.fro ds) (.int i) = atD ds i := rfl
/-- xs[i] = d -/
theorem ws_gS {a b : CE} {d : D} {ρ : Env} {μ : List O} {S : SR → List O → Prop} : Ws (fun μ => match (gS a b).run d ρ μ with
    | some (ρ1, μ1) => some (.nx ρ1, μ1)
    | none => none) μ S ↔ Wp (M.bnd (a.run ρ) fun o => M.bnd (b.run ρ) fun i => M.ret (o, i)) μ (fun oi μ1 => ∃ μ2, setL d oi.1 oi.2 μ1 = some μ2 ∧ S (.nx ρ) μ2) (fun _ _ => False) := by
  constructor
  · rintro ⟨r, μ', e, q⟩
    dsimp only [gS] at e
    cases h : M.bnd (a.run ρ) (fun o => M.bnd (b.run ρ) fun i => M.ret (o, i)) μ with
    | none => rw [h] at e; cases e
    | some p =>
      obtain ⟨r1, μ1⟩ := p
      rw [h] at e
      cases r1 with
      | error x => cases e
      | ok oi =>
        obtain ⟨o, i⟩ := oi
        dsimp only at e
        cases h2 : setL d o i μ1 with
        | none => rw [h2] at e; cases e
        | some μ2 =>
          rw [h2] at e
          cases e
          exact ⟨_, _, h, μ', h2, q⟩
  · rintro ⟨r, μ1, e, q⟩
    cases r with
    | error x => exact q.elim
    | ok oi =>
      obtain ⟨o, i⟩ := oi
      obtain ⟨μ2, h2, q⟩ := q
      refine ⟨.nx ρ, μ2, ?_, q⟩
      dsimp only [gS]
      rw [e]
      dsimp only at h2 ⊢
      rw [h2]
      rfl
theorem setL_at {d : D} {l n : Nat} {j : Int} {μ : List O} {ds : List D} (h : μ[l]? = some (.lst ds)) (hj : ixN ds.length j = some n) : setL d (.ref l) (.int j) μ = some (μ.set l (.lst (ds.set n d))) := by
  dsimp only [setL]
  rw [h]
  dsimp only
  rw [hj]
theorem ws_asgN {i : Nat} {a : CE} {ρ : Env} {μ : List O} {S : SR → List O → Prop} : Ws ((sAsg (gN i) a).run ρ) μ S ↔ Wp (a.run ρ) μ (fun d μ' => S (.nx (ρ.set i (some d))) μ') (fun x μ' => S (.er x ρ) μ') := by
  rw [s_asg, ws_of]
  constructor
  · exact fun h => h.mono (fun d μ' q => ws_some.mp q) fun _ _ z => z
  · exact fun h => h.mono (fun d μ' q => ws_some.mpr q) fun _ _ z => z
theorem ws_asgT {g : CGs} {n : Nat} {a : CE} {ρ : Env} {μ : List O} {S : SR → List O → Prop} : Ws ((sAsg (gT g n) a).run ρ) μ S ↔ Wp (a.run ρ) μ (fun d μ' => ∃ ds, d = .tup ds ∧ ds.length = n ∧ ∃ ρ1 μ1, g.run ds ρ μ' = some (ρ1, μ1) ∧ S (.nx ρ1) μ1) (fun x μ' => S (.er x ρ) μ') := by
  rw [s_asg, ws_of]
  have key : ∀ d μ', Ws (fun μ => match (gT g n).run d ρ μ with
      | some (ρ1, μ1) => some (.nx ρ1, μ1)
      | none => none) μ' S ↔ ∃ ds, d = .tup ds ∧ ds.length = n ∧ ∃ ρ1 μ1, g.run ds ρ μ' = some (ρ1, μ1) ∧ S (.nx ρ1) μ1 := by
    intro d μ'
    constructor
    · rintro ⟨r, μ2, e, q⟩
      cases d with
      | tup ds =>
        dsimp only [gT] at e
        by_cases h : ds.length = n
        · rw [if_pos h] at e
          cases h2 : g.run ds ρ μ' with
          | none => rw [h2] at e; cases e
          | some p =>
            obtain ⟨ρ1, μ1⟩ := p
            rw [h2] at e
            cases e
            exact ⟨ds, rfl, h, _, _, h2, q⟩
        · rw [if_neg h] at e
          cases e
      | _ => cases e
    · rintro ⟨ds, rfl, h, ρ1, μ1, h2, q⟩
      refine ⟨.nx ρ1, μ1, ?_, q⟩
      dsimp only [gT]
      rw [if_pos h, h2]
  constructor
  · exact fun h => h.mono (fun d μ' q => (key d μ').mp q) fun _ _ z => z
  · exact fun h => h.mono (fun d μ' q => (key d μ').mpr q) fun _ _ z => z
theorem gs_cons {i : Nat} {g : CGs} {d : D} {ds : List D} {ρ : Env} {μ : List O} : (gsCons (gN i) g).run (d :: ds) ρ μ = g.run ds (ρ.set i (some d)) μ := rfl
theorem gs_nil {ρ : Env} {μ : List O} : gsNil.run [] ρ μ = some (ρ, μ) := rfl
theorem ex_tup {ds : List D} {P : List D → Prop} : (∃ es, D.tup ds = .tup es ∧ P es) ↔ P ds := ⟨fun ⟨_, e, q⟩ => by cases e; exact q, fun q => ⟨_, rfl, q⟩⟩
theorem ex_pr {ρ : Env} {μ : List O} {P : Env → List O → Prop} : (∃ ρ1 μ1, some (ρ, μ) = some (ρ1, μ1) ∧ P ρ1 μ1) ↔ P ρ μ := ⟨fun ⟨_, _, e, q⟩ => by cases e; exact q, fun q => ⟨_, _, rfl, q⟩⟩
theorem ws_asgS {a b c : CE} {ρ : Env} {μ : List O} {S : SR → List O → Prop} : Ws ((sAsg (gS a b) c).run ρ) μ S ↔ Wp (c.run ρ) μ (fun d μ' => Wp (M.bnd (a.run ρ) fun o => M.bnd (b.run ρ) fun i => M.ret (o, i)) μ' (fun oi μ1 => ∃ μ2, setL d oi.1 oi.2 μ1 = some μ2 ∧ S (.nx ρ) μ2) (fun _ _ => False)) (fun x μ' => S (.er x ρ) μ') := by
  rw [s_asg, ws_of]
  constructor
  · exact fun h => h.mono (fun d μ' q => ws_gS.mp q) fun _ _ z => z
  · exact fun h => h.mono (fun d μ' q => ws_gS.mpr q) fun _ _ z => z

/-! ### the operations at what is known -/
section
variable {i j : Int} {p q : Bool} {x y : Str} {xs ys : List D} {l m : Nat} {d : D} {lo hi : Option Int}
theorem o_add : addD (.int i) (.int j) = M.ret (.int (i + j)) := rfl
theorem o_addS : addD (.str x) (.str y) = if x.length + y.length ≤ sizeLine then M.ret (.str (x ++ y)) else M.stop := rfl
theorem o_addT : addD (.tup xs) (.tup ys) = if xs.length + ys.length ≤ sizeLine then M.ret (.tup (xs ++ ys)) else M.stop := rfl
theorem o_addL : addD (.ref l) (.ref m) = M.bnd (M.lst l) fun xs => M.bnd (M.lst m) fun ys => newL (xs ++ ys) := rfl
theorem o_sub : subD (.int i) (.int j) = M.ret (.int (i - j)) := rfl
theorem o_mul : mulD (.int i) (.int j) = if mulOk i j then M.ret (.int (i * j)) else M.stop := rfl
theorem o_fdiv : fdivD (.int i) (.int j) = if divOk j then M.ret (.int (i.fdiv j)) else M.stop := rfl
theorem o_mod : modD (.int i) (.int j) = if j ≠ 0 then M.ret (.int (i.fmod j)) else M.stop := rfl
theorem o_pow : powD (.int i) (.int j) = if powOk i j then M.ret (.int (i ^ j.toNat)) else M.stop := rfl
theorem o_neg : negD (.int i) = M.ret (.int (-i)) := rfl
theorem o_lt : ltD (.int i) (.int j) = M.ret (.bl (decide (i < j))) := rfl
theorem o_le : leD (.int i) (.int j) = M.ret (.bl (decide (i ≤ j))) := rfl
theorem o_gt : gtD (.int i) (.int j) = M.ret (.bl (decide (j < i))) := rfl
theorem o_ge : geD (.int i) (.int j) = M.ret (.bl (decide (j ≤ i))) := rfl
theorem o_eq : eqD (.int i) (.int j) = M.ret (.bl (decide (i = j))) := rfl
theorem o_eqS : eqD (.str x) (.str y) = M.ret (.bl (decide (x = y))) := rfl
theorem o_eqB : eqD (.bl p) (.bl q) = M.ret (.bl (decide (p = q))) := rfl
theorem o_ne : neD (.int i) (.int j) = M.ret (.bl (!decide (i = j))) := rfl
theorem o_neS : neD (.str x) (.str y) = M.ret (.bl (!decide (x = y))) := rfl
theorem o_neB : neD (.bl p) (.bl q) = M.ret (.bl (!decide (p = q))) := rfl
theorem o_is : isD d .non = M.ret (.bl (isNone d)) := rfl
theorem o_isn : isnD d .non = M.ret (.bl (!isNone d)) := rfl
theorem o_asB : asB (.bl p) = M.ret p := rfl
theorem o_asI : asI (.int i) = M.ret (some i) := rfl
theorem o_lenT : lenD [.tup xs] = M.ret (.int xs.length) := rfl
theorem o_lenF : lenD [.fro xs] = M.ret (.int xs.length) := rfl
theorem o_lenL : lenD [.ref l] = M.bnd (M.lst l) fun ds => M.ret (.int ds.length) := rfl
theorem o_abs : absD [.int i] = M.ret (.int (if i < 0 then -i else i)) := rfl
theorem o_abs' : absD [.int i] = M.ret (.int (i.natAbs : Int)) := by
  have e : (if i < 0 then -i else i) = (i.natAbs : Int) := by split <;> omega
  rw [o_abs, e]
theorem o_int : intTx [.int i] = M.ret (.int i) := rfl
theorem o_intB : intTx [.bl p] = M.ret (.int (if p then 1 else 0)) := rfl
theorem o_isBt : isBD false (.bl p) (.bl q) = M.ret (.bl (decide (p = q))) := rfl
theorem o_isBn : isBD true (.bl p) (.bl q) = M.ret (.bl (!decide (p = q))) := rfl
theorem o_put : putJ x y = if (x ++ y).length ≤ sizeLine then M.ret (x ++ y) else M.stop := rfl
theorem o_fmtI : fmtD (.int i) = if i.natAbs.log2 < 1920 then M.ret (Str.ofString (toString i)) else M.stop := rfl
theorem o_fmtS : fmtD (.str x) = if x.length ≤ sizeLine then M.ret x else M.stop := rfl
theorem o_sw : swD (.str x) [.str y] = M.ret (.bl (Txt.startswith x y)) := rfl
theorem o_ls : lsD (.str x) [.str y] = if x.length ≤ sizeLine then M.ret (.str (Txt.lstripChars x y)) else M.stop := rfl
theorem o_part : partD (.str x) [.str y] = if (y.length == 0) = false ∧ x.length ≤ sizeLine then M.ret (.tup [.str (Txt.partition x y).1, .str (Txt.partition x y).2.1, .str (Txt.partition x y).2.2]) else M.stop := rfl
theorem o_str : strD [.int i] = if i.natAbs.log2 < 1920 then M.ret (.str (toString i)) else M.stop := rfl
theorem o_slT : slD (.tup xs) lo hi = M.ret (.tup (cutD xs lo hi)) := rfl
theorem o_slF : slD (.fro xs) lo hi = M.new (.lst (cutD xs lo hi)) := rfl
theorem o_slL : slD (.ref l) lo hi = M.bnd (M.lst l) fun ds => M.new (.lst (cutD ds lo hi)) := rfl
theorem o_listT : listD [.tup xs] = M.new (.lst xs) := rfl
theorem o_listF : listD [.fro xs] = M.new (.lst xs) := rfl
theorem o_listL : listD [.ref l] = M.bnd (M.lst l) fun ds => M.new (.lst ds) := rfl
theorem o_tupT : tupleD [.tup xs] = M.ret (.tup xs) := rfl
theorem o_tupL : tupleD [.ref l] = M.bnd (M.lst l) fun ds => M.ret (.tup ds) := rfl
theorem o_newL : newL xs = if xs.length ≤ sizeLine then M.new (.lst xs) else M.stop := rfl
theorem o_revT : revD (.tup xs) = M.ret (.tup xs.reverse) := rfl
theorem o_revL : revD (.ref l) = M.bnd (M.lst l) fun ds => M.new (.lst ds.reverse) := rfl
theorem o_max : maxD [.int i, .int j] = M.ret (.int (if j > i then j else i)) := rfl
theorem o_min : minD [.int i, .int j] = M.ret (.int (if j < i then j else i)) := rfl
theorem o_all : allD [.ref l] = M.bnd (M.lst l) fun ds => match blsOf ds with
    | some bs => M.ret (.bl (bs.all id))
    | none => M.stop := rfl
theorem o_any : anyD [.ref l] = M.bnd (M.lst l) fun ds => match blsOf ds with
    | some bs => M.ret (.bl (bs.any id))
    | none => M.stop := rfl
theorem o_aT : anyW (.tup xs) = M.ret (wkOf xs) := rfl
theorem o_aF : anyW (.fro xs) = M.ret (wkOf xs) := rfl
theorem o_aL : anyW (.ref l) = M.bnd (M.lst l) fun ds => M.ret (wkL l ds.length) := rfl
theorem o_aS : anyW (.str x) = M.ret (wkS x) := rfl
theorem o_enT : enW (.tup xs) = M.ret (wkE (wkOf xs)) := rfl
theorem o_enL : enW (.ref l) = M.bnd (M.lst l) fun ds => M.ret (wkE (wkL l ds.length)) := rfl
theorem o_zipT : zipW (.tup xs) (.tup ys) = M.ret (wkZ (wkOf xs) (wkOf ys)) := rfl
theorem o_zipL : zipW (.ref l) (.ref m) = M.bnd (M.lst l) fun ds => M.bnd (M.lst m) fun es => M.ret (wkZ (wkL l ds.length) (wkL m es.length)) := rfl
theorem fuelE {w : Wk} : (wkE w).fuel = w.fuel := rfl
theorem fuelZ {w u : Wk} : (wkZ w u).fuel = w.fuel := rfl
theorem fuelS : (wkS x).fuel = x.cps.size := rfl
/-- a list put behind itself -/
def repL (n : Nat) (xs : List D) : List D := (List.replicate n xs).flatten
theorem o_mulL : mulD (.ref l) (.int i) = M.bnd (M.lst l) fun xs => if -(2 ^ 63) ≤ i ∧ i < 2 ^ 63 then newL (repL i.toNat xs) else M.stop := rfl
theorem o_mulS {i : Int} : mulD (.str x) (.int i) = if -(2 ^ 63) ≤ i ∧ i < 2 ^ 63 ∧ x.cps.toList.length * i.toNat ≤ sizeLine then M.ret (.str (repS x i.toNat)) else M.stop := rfl
theorem o_isTL {μ : List O} {E : Ex → List O → Prop} {P : Unit → List O → Prop} : Wp (isT "list" (.ref l)) μ P E ↔ ∃ ds, μ[l]? = some (.lst ds) ∧ P () μ := by
  constructor
  · rintro ⟨r, μ', e, q⟩
    dsimp only [isT] at e
    cases h : μ[l]? with
    | none => rw [h] at e; cases e
    | some o =>
      rw [h] at e
      cases o with
      | dct z =>
        dsimp only at e
        rw [if_neg (by decide)] at e
        cases e
      | lst z =>
        dsimp only at e
        rw [if_pos rfl] at e
        cases e
        exact ⟨z, rfl, q⟩
  · rintro ⟨ds, h, q⟩
    refine ⟨.ok (), μ, ?_, q⟩
    dsimp only [isT]
    rw [h]
    rfl
theorem o_isTS {x : Str} : isT "str" (.str x) = M.ret () := rfl
theorem wp_app {d : D} {μ : List O} {E : Ex → List O → Prop} {P : D → List O → Prop} : Wp (appD (.ref l) [d]) μ P E ↔ ∃ ds, μ[l]? = some (.lst ds) ∧ ds.length < sizeLine ∧ P .non (μ.set l (.lst (ds ++ [d]))) := by
  unfold Wp appD
  dsimp only
  cases h : μ[l]? with
  | none => simp
  | some o =>
    cases o with
    | dct z => simp
    | lst z =>
      dsimp only
      constructor
      · rintro ⟨r, μ', e, q⟩
        split at e
        · rename_i hz
          cases e
          exact ⟨z, rfl, hz, q⟩
        · cases e
      · rintro ⟨ds, e, hz, q⟩
        cases e
        rw [if_pos hz]
        exact ⟨_, _, rfl, q⟩
theorem wp_pop {μ : List O} {E : Ex → List O → Prop} {P : D → List O → Prop} : Wp (popD (.ref l) []) μ P E ↔ ∃ ds, μ[l]? = some (.lst ds) ∧ ∃ y, ds[ds.length - 1]? = some y ∧ P y (μ.set l (.lst ds.dropLast)) := by
  unfold Wp popD
  dsimp only
  cases h : μ[l]? with
  | none => simp
  | some o =>
    cases o with
    | dct z => simp
    | lst z =>
      dsimp only
      cases hy : z[z.length - 1]? with
      | none =>
        constructor
        · rintro ⟨r, μ', e, q⟩
          cases e
        · rintro ⟨ds, e, y, hz, q⟩
          cases e
          rw [hy] at hz
          cases hz
      | some y =>
        constructor
        · rintro ⟨r, μ', e, q⟩
          cases e
          exact ⟨z, rfl, y, hy, q⟩
        · rintro ⟨ds, e, y', hz, q⟩
          cases e
          rw [hy] at hz
          cases hz
          exact ⟨_, _, rfl, q⟩
theorem o_seqF : seqW (.fro xs) = M.ret (wkOf xs) := rfl
theorem o_seqL : seqW (.ref l) = M.bnd (M.lst l) fun ds => M.ret (wkL l ds.length) := rfl
theorem o_tupW : tupW (.tup xs) = M.ret (wkOf xs) := rfl
theorem o_rng1 : rngW1 (.int i) = if ok62 i then M.ret (wkR 0 i.toNat) else M.stop := rfl
theorem o_rng2 : rngW2 (.int i) (.int j) = if ok62 i ∧ ok62 j then M.ret (wkR i (j - i).toNat) else M.stop := rfl
theorem fuelOf : (wkOf xs).fuel = xs.length := rfl
theorem fuelL : (wkL l m).fuel = m := rfl
theorem fuelR : (wkR i m).fuel = m := rfl
theorem wp_isi {T : String} {μ : List O} {P : D → List O → Prop} {E : Ex → List O → Prop} : Wp (isiD T d) μ P E ↔ ∃ n, tyN μ d = some n ∧ P (.bl (isSub n T)) μ := by
  unfold Wp isiD
  cases h : tyN μ d with
  | none => simp
  | some n =>
    constructor
    · rintro ⟨r, μ', e, q⟩
      cases e
      exact ⟨n, rfl, q⟩
    · rintro ⟨m, e, q⟩
      cases e
      exact ⟨_, _, rfl, q⟩
theorem tyN_int {i : Int} {μ : List O} : tyN μ (.int i) = some "int" := rfl
theorem tyN_bl {i : Bool} {μ : List O} : tyN μ (.bl i) = some "bool" := rfl
theorem tyN_str {i : Str} {μ : List O} : tyN μ (.str i) = some "str" := rfl
theorem tyN_non {μ : List O} : tyN μ .non = some "NoneType" := rfl
theorem tyN_tup {xs : List D} {μ : List O} : tyN μ (.tup xs) = some "tuple" := rfl
theorem tyN_fro {xs : List D} {μ : List O} : tyN μ (.fro xs) = some "list" := rfl
theorem iS_NoneType : isSub "NoneType" "int" = false ∧ isSub "NoneType" "bool" = false ∧ isSub "NoneType" "str" = false ∧ isSub "NoneType" "tuple" = false ∧ isSub "NoneType" "list" = false ∧ isSub "NoneType" "dict" = false := ⟨rfl, rfl, rfl, rfl, rfl, rfl⟩
theorem iS_bool : isSub "bool" "int" = true ∧ isSub "bool" "bool" = true ∧ isSub "bool" "str" = false ∧ isSub "bool" "tuple" = false ∧ isSub "bool" "list" = false ∧ isSub "bool" "dict" = false := ⟨rfl, rfl, rfl, rfl, rfl, rfl⟩
theorem iS_int : isSub "int" "int" = true ∧ isSub "int" "bool" = false ∧ isSub "int" "str" = false ∧ isSub "int" "tuple" = false ∧ isSub "int" "list" = false ∧ isSub "int" "dict" = false := ⟨rfl, rfl, rfl, rfl, rfl, rfl⟩
theorem iS_str : isSub "str" "int" = false ∧ isSub "str" "bool" = false ∧ isSub "str" "str" = true ∧ isSub "str" "tuple" = false ∧ isSub "str" "list" = false ∧ isSub "str" "dict" = false := ⟨rfl, rfl, rfl, rfl, rfl, rfl⟩
theorem iS_tuple : isSub "tuple" "int" = false ∧ isSub "tuple" "bool" = false ∧ isSub "tuple" "str" = false ∧ isSub "tuple" "tuple" = true ∧ isSub "tuple" "list" = false ∧ isSub "tuple" "dict" = false := ⟨rfl, rfl, rfl, rfl, rfl, rfl⟩
theorem iS_list : isSub "list" "int" = false ∧ isSub "list" "bool" = false ∧ isSub "list" "str" = false ∧ isSub "list" "tuple" = false ∧ isSub "list" "list" = true ∧ isSub "list" "dict" = false := ⟨rfl, rfl, rfl, rfl, rfl, rfl⟩
theorem iS_dict : isSub "dict" "int" = false ∧ isSub "dict" "bool" = false ∧ isSub "dict" "str" = false ∧ isSub "dict" "tuple" = false ∧ isSub "dict" "list" = false ∧ isSub "dict" "dict" = true := ⟨rfl, rfl, rfl, rfl, rfl, rfl⟩
theorem cut_map {a b : Type} {f : a → b} {zs : List a} : cutD (zs.map f) lo hi = (cutD zs lo hi).map f := by
  unfold cutD
  rw [List.length_map, List.map_take, List.map_drop]
end
section
variable {a : Type} {μ : List O} {E : Ex → List O → Prop} {l : Nat}
theorem wp_lstE {P : List D → List O → Prop} : Wp (M.lst l) μ P E ↔ ∃ ds, μ[l]? = some (.lst ds) ∧ P ds μ := by
  constructor
  · rintro ⟨r, μ', e, q⟩
    obtain ⟨ds', h1, h2⟩ := lst_some e
    cases h2
    exact ⟨_, h1, q⟩
  · rintro ⟨ds, h, q⟩
    exact (wp_lst h).mpr q
theorem setL_E {d : D} {j : Int} {S : List O → Prop} : (∃ μ2, setL d (.ref l) (.int j) μ = some μ2 ∧ S μ2) ↔ ∃ ds, μ[l]? = some (.lst ds) ∧ ∃ n, ixN ds.length j = some n ∧ S (μ.set l (.lst (ds.set n d))) := by
  constructor
  · rintro ⟨μ2, e, q⟩
    dsimp only [setL] at e
    cases h : μ[l]? with
    | none => rw [h] at e; cases e
    | some o =>
      cases o with
      | dct z => rw [h] at e; cases e
      | lst ds =>
        rw [h] at e
        dsimp only at e
        cases h2 : ixN ds.length j with
        | none => rw [h2] at e; cases e
        | some n =>
          rw [h2] at e
          cases e
          exact ⟨ds, rfl, n, h2, q⟩
  · rintro ⟨ds, h, n, h2, q⟩
    exact ⟨_, setL_at h h2, q⟩
theorem ex_lst {ds : List D} {P : List D → Prop} : (∃ es, (some (O.lst ds) : Option O) = some (.lst es) ∧ P es) ↔ P ds := ⟨fun ⟨_, e, q⟩ => by cases e; exact q, fun q => ⟨_, rfl, q⟩⟩
theorem ex_n {a : Type} {n : a} {P : a → Prop} : (∃ m, (some n : Option a) = some m ∧ P m) ↔ P n := ⟨fun ⟨_, e, q⟩ => by cases e; exact q, fun q => ⟨_, rfl, q⟩⟩
theorem at_new {o : O} : (μ ++ [o])[μ.length]? = some o := by simp
theorem at_off {xs : List O} {c : Nat} : (μ ++ xs)[μ.length + c]? = xs[c]? := by
  rw [List.getElem?_append_right (by omega)]
  congr 1
  omega
theorem at_off0 {xs : List O} : (μ ++ xs)[μ.length]? = xs[0]? := at_off (c := 0)
theorem at_old {o p : O} {j : Nat} (h : μ[j]? = some p) : (μ ++ [o])[j]? = some p := by
  rw [List.getElem?_append_left (List.getElem?_eq_some_iff.mp h).1]
  exact h
theorem wp_repr {d : D} {p : PyData} {P : D → List O → Prop} (h : see μ 62 d = some p) (ho : reprOk p = true) : Wp (reprD [d]) μ P E ↔ P (.str p.shown) μ := by
  have e : reprD [d] μ = some (.ok (.str p.shown), μ) := by
    show reprD1 d μ = _
    unfold reprD1
    rw [h]
    simp only [ho, if_true]
  constructor
  · rintro ⟨r, μ', e2, q⟩
    rw [e] at e2
    cases e2
    exact q
  · exact fun q => ⟨_, _, e, q⟩
theorem wp_withNew {o : O} {f : Nat → M D} {P : D → List O → Prop} : Wp (withNew o f) μ P E ↔ Wp (f μ.length) (μ ++ [o]) P E := Iff.rfl
theorem o_keyI {i : Int} : keyD (.int i) = some (.inl i) := rfl
theorem o_keyS {i : Str} : keyD (.str i) = some (.inr i) := rfl
theorem wp_setE {kvs : List (Key × D)} {P : D → List O → Prop} : Wp (setEmpty l kvs) μ P E ↔ μ[l]? = some (.dct []) ∧ P (.ref l) (μ.set l (.dct kvs)) := by
  unfold Wp setEmpty
  constructor
  · rintro ⟨r, μ', e, q⟩
    split at e
    · next h => cases e; exact ⟨h, q⟩
    · cases e
  · rintro ⟨h, q⟩
    rw [h]
    exact ⟨_, _, rfl, q⟩
theorem set_off {o : O} {xs : List O} {c : Nat} : (μ ++ xs).set (μ.length + c) o = μ ++ xs.set c o := by
  rw [List.set_append_right _ _ (by omega)]
  congr 2
  omega
theorem set_off0 {o : O} {xs : List O} : (μ ++ xs).set μ.length o = μ ++ xs.set 0 o := set_off (c := 0)
theorem at_set {o p : O} (h : μ[l]? = some p) : (μ.set l o)[l]? = some o := List.getElem?_set_self (List.getElem?_eq_some_iff.mp h).1
end
/-! ### loops -/
section
variable {μ : List O} {S : SR → List O → Prop} {ρ : Env}
/-- what a while's body wants: the next turn -/
def Trn (next : Env → List O → Prop) (S : SR → List O → Prop) : SR → List O → Prop := fun x μ' => match x with
  | .nx ρ1 => next ρ1 μ'
  | .ct ρ1 => next ρ1 μ'
  | .bk ρ1 => S (.nx ρ1) μ'
  | x => S x μ'
theorem ws_whl {t : Env → M Bool} {b : Env → Ms} {n : Nat} : Ws (whl t b (n + 1) ρ) μ S ↔ Wp (t ρ) μ (fun c μ1 => if c = true then Ws (b ρ) μ1 (Trn (fun ρ1 μ2 => Ws (whl t b n ρ1) μ2 S) S) else S (.nx ρ) μ1) (fun x μ' => S (.er x ρ) μ') := by
  show Ws (Ms.of (t ρ) ρ _) μ S ↔ _
  rw [ws_of]
  constructor
  · refine fun h => h.mono (fun c μ1 h => ?_) fun _ _ z => z
    cases c with
    | false => rw [if_neg Bool.false_ne_true] at h ⊢; exact ws_some.mp h
    | true =>
      rw [if_pos rfl] at h ⊢
      obtain ⟨r, μ', e, q⟩ := h
      dsimp only at e
      cases e1 : b ρ μ1 with
      | none => rw [e1] at e; cases e
      | some p =>
        obtain ⟨r3, μ3⟩ := p
        rw [e1] at e
        refine ⟨r3, μ3, e1, ?_⟩
        cases r3 with
        | nx ρ3 => exact ⟨r, μ', e, q⟩
        | ct ρ3 => exact ⟨r, μ', e, q⟩
        | _ => cases e; exact q
  · refine fun h => h.mono (fun c μ1 h => ?_) fun _ _ z => z
    cases c with
    | false => rw [if_neg Bool.false_ne_true] at h ⊢; exact ws_some.mpr h
    | true =>
      rw [if_pos rfl] at h ⊢
      obtain ⟨r3, μ3, e1, q⟩ := h
      unfold Ws
      dsimp only
      rw [e1]
      cases r3 with
      | nx ρ3 => exact q
      | ct ρ3 => exact q
      | _ => exact ⟨_, _, rfl, q⟩
/-- a loop over things that stand still, by its invariant (turn, slots, store) -/
theorem ws_for {ds : List D} {g : CG} {b : CB} (Inv : Nat → Env → List O → Prop) (h0 : Inv 0 ρ μ)
    (step : ∀ i d ρ μ, ds[i]? = some d → Inv i ρ μ → ∃ ρ1 μ1, g.run d ρ μ = some (ρ1, μ1) ∧ Ws (b.run ρ1) μ1 (Trn (Inv (i + 1)) S))
    (done : ∀ ρ μ, Inv ds.length ρ μ → S (.nx ρ) μ) : Ws (forRun (wkOf ds) g b ds.length 0 ρ) μ S := by
  have go : ∀ n i ρ μ, i + n = ds.length → Inv i ρ μ → Ws (forRun (wkOf ds) g b n i ρ) μ S := by
    intro n
    induction n with
    | zero =>
      intro i ρ μ e h
      have e' : i = ds.length := by omega
      subst e'
      exact ⟨.nx ρ, μ, by simp [forRun, wkOf], done ρ μ h⟩
    | succ n ih =>
      intro i ρ μ e h
      have hi : i < ds.length := by omega
      have hd := List.getElem?_eq_getElem hi
      obtain ⟨ρ1, μ1, e1, r, μ2, e2, q⟩ := step i _ ρ μ hd h
      unfold Ws
      dsimp only [forRun, wkOf]
      rw [hd]
      dsimp only
      rw [e1]
      dsimp only
      rw [e2]
      cases r with
      | nx ρ3 => exact ih (i + 1) ρ3 μ2 (by omega) q
      | ct ρ3 => exact ih (i + 1) ρ3 μ2 (by omega) q
      | _ => exact ⟨_, _, rfl, q⟩
  exact go ds.length 0 ρ μ (by omega) h0
/-- over a source that gives n items, whatever the store -/
theorem ws_forW {w : Wk} {g : CG} {b : CB} {m : Nat} (n : Nat) (item : Nat → D) (h1 : ∀ i μ, i < n → w.get i μ = some (some (item i))) (h2 : ∀ μ, w.get n μ = some none) (hm : n ≤ m) (Inv : Nat → Env → List O → Prop) (h0 : Inv 0 ρ μ)
    (step : ∀ i ρ μ, i < n → Inv i ρ μ → ∃ ρ1 μ1, g.run (item i) ρ μ = some (ρ1, μ1) ∧ Ws (b.run ρ1) μ1 (Trn (Inv (i + 1)) S))
    (done : ∀ ρ μ, Inv n ρ μ → S (.nx ρ) μ) : Ws (forRun w g b m 0 ρ) μ S := by
  have go : ∀ m k i ρ μ, i + k = n → k ≤ m → Inv i ρ μ → Ws (forRun w g b m i ρ) μ S := by
    intro m
    induction m with
    | zero =>
      intro k i ρ μ e hk h
      have e' : i = n := by omega
      subst e'
      exact ⟨.nx ρ, μ, by dsimp only [forRun]; rw [h2], done ρ μ h⟩
    | succ m ih =>
      intro k i ρ μ e hk h
      by_cases hi : i < n
      · obtain ⟨ρ1, μ1, e1, r, μ2, e2, q⟩ := step i ρ μ hi h
        unfold Ws
        dsimp only [forRun]
        rw [h1 i μ hi]
        dsimp only
        rw [e1]
        dsimp only
        rw [e2]
        cases r with
        | nx ρ3 => exact ih (k - 1) (i + 1) ρ3 μ2 (by omega) (by omega) q
        | ct ρ3 => exact ih (k - 1) (i + 1) ρ3 μ2 (by omega) (by omega) q
        | _ => exact ⟨_, _, rfl, q⟩
      · have e' : i = n := by omega
        subst e'
        exact ⟨.nx ρ, μ, by dsimp only [forRun]; rw [h2], done ρ μ h⟩
  exact go m n 0 ρ μ (by omega) hm h0
/-- over things that stand still, one turn -/
theorem ws_forU {ds : List D} {j : Nat} {b : CB} {n i : Nat} {d : D} (h : ds[i]? = some d) : Ws (forRun (wkOf ds) (gN j) b (n + 1) i ρ) μ S ↔ Ws (b.run (ρ.set j (some d))) μ (Trn (fun ρ1 μ2 => Ws (forRun (wkOf ds) (gN j) b n (i + 1) ρ1) μ2 S) S) := by
  constructor
  · rintro ⟨r, μ', e, q⟩
    dsimp only [forRun, wkOf, gN] at e
    rw [h] at e
    dsimp only at e
    cases e1 : b.run (ρ.set j (some d)) μ with
    | none => rw [e1] at e; cases e
    | some p =>
      obtain ⟨r3, μ3⟩ := p
      rw [e1] at e
      refine ⟨r3, μ3, e1, ?_⟩
      cases r3 with
      | nx ρ3 => exact ⟨r, μ', e, q⟩
      | ct ρ3 => exact ⟨r, μ', e, q⟩
      | _ => cases e; exact q
  · rintro ⟨r, μ', e, q⟩
    unfold Ws
    dsimp only [forRun, wkOf, gN]
    rw [h]
    dsimp only
    rw [e]
    cases r with
    | nx ρ3 => exact q
    | ct ρ3 => exact q
    | _ => exact ⟨_, _, rfl, q⟩
theorem ws_forZ {ds : List D} {g : CG} {b : CB} {i : Nat} (h : ds[i]? = none) : Ws (forRun (wkOf ds) g b 0 i ρ) μ S ↔ S (.nx ρ) μ := by
  have e : forRun (wkOf ds) g b 0 i ρ μ = some (.nx ρ, μ) := by simp [forRun, wkOf, h]
  exact ⟨fun ⟨_, _, e2, q⟩ => by rw [e] at e2; cases e2; exact q, fun q => ⟨_, _, e, q⟩⟩
theorem trn_nx {next : Env → List O → Prop} {ρ1 : Env} : Trn next S (.nx ρ1) μ ↔ next ρ1 μ := Iff.rfl
theorem trn_ct {next : Env → List O → Prop} {ρ1 : Env} : Trn next S (.ct ρ1) μ ↔ next ρ1 μ := Iff.rfl
theorem trn_bk {next : Env → List O → Prop} {ρ1 : Env} : Trn next S (.bk ρ1) μ ↔ S (.nx ρ1) μ := Iff.rfl
theorem trn_rt {next : Env → List O → Prop} {d : D} : Trn next S (.rt d) μ ↔ S (.rt d) μ := Iff.rfl
theorem trn_er {next : Env → List O → Prop} {x : Ex} {ρ1 : Env} : Trn next S (.er x ρ1) μ ↔ S (.er x ρ1) μ := Iff.rfl
/-- over numbers -/
theorem ws_forR {lo : Int} {n : Nat} {g : CG} {b : CB} (Inv : Nat → Env → List O → Prop) (h0 : Inv 0 ρ μ)
    (step : ∀ i ρ μ, i < n → Inv i ρ μ → ∃ ρ1 μ1, g.run (.int (lo + i)) ρ μ = some (ρ1, μ1) ∧ Ws (b.run ρ1) μ1 (Trn (Inv (i + 1)) S))
    (done : ∀ ρ μ, Inv n ρ μ → S (.nx ρ) μ) : Ws (forRun (wkR lo n) g b n 0 ρ) μ S := by
  have go : ∀ m i ρ μ, i + m = n → Inv i ρ μ → Ws (forRun (wkR lo n) g b m i ρ) μ S := by
    intro m
    induction m with
    | zero =>
      intro i ρ μ e h
      have e' : i = n := by omega
      subst e'
      exact ⟨.nx ρ, μ, by simp [forRun, wkR], done ρ μ h⟩
    | succ m ih =>
      intro i ρ μ e h
      have hi : i < n := by omega
      obtain ⟨ρ1, μ1, e1, r, μ2, e2, q⟩ := step i ρ μ hi h
      unfold Ws
      dsimp only [forRun, wkR]
      rw [if_pos hi]
      dsimp only
      rw [e1]
      dsimp only
      rw [e2]
      cases r with
      | nx ρ3 => exact ih (i + 1) ρ3 μ2 (by omega) q
      | ct ρ3 => exact ih (i + 1) ρ3 μ2 (by omega) q
      | _ => exact ⟨_, _, rfl, q⟩
  exact go n 0 ρ μ (by omega) h0
/-- over a list of the store -/
theorem ws_forL {l : Nat} {ds : List D} {g : CG} {b : CB} (Inv : Nat → Env → List O → Prop) (h0 : Inv 0 ρ μ) (hl : ∀ i ρ μ, Inv i ρ μ → μ[l]? = some (.lst ds))
    (step : ∀ i d ρ μ, ds[i]? = some d → Inv i ρ μ → ∃ ρ1 μ1, g.run d ρ μ = some (ρ1, μ1) ∧ Ws (b.run ρ1) μ1 (Trn (Inv (i + 1)) S))
    (done : ∀ ρ μ, Inv ds.length ρ μ → S (.nx ρ) μ) : Ws (forRun (wkL l ds.length) g b ds.length 0 ρ) μ S := by
  have go : ∀ n i ρ μ, i + n = ds.length → Inv i ρ μ → Ws (forRun (wkL l ds.length) g b n i ρ) μ S := by
    intro n
    induction n with
    | zero =>
      intro i ρ μ e h
      have e' : i = ds.length := by omega
      subst e'
      exact ⟨.nx ρ, μ, by simp [forRun, wkL, hl _ _ _ h], done ρ μ h⟩
    | succ n ih =>
      intro i ρ μ e h
      have hi : i < ds.length := by omega
      have hd := List.getElem?_eq_getElem hi
      obtain ⟨ρ1, μ1, e1, r, μ2, e2, q⟩ := step i _ ρ μ hd h
      unfold Ws
      dsimp only [forRun, wkL]
      rw [hl _ _ _ h]
      dsimp only
      rw [hd]
      dsimp only
      rw [e1]
      dsimp only
      rw [e2]
      cases r with
      | nx ρ3 => exact ih (i + 1) ρ3 μ2 (by omega) q
      | ct ρ3 => exact ih (i + 1) ρ3 μ2 (by omega) q
      | _ => exact ⟨_, _, rfl, q⟩
  exact go ds.length 0 ρ μ (by omega) h0
end
/-! ### comprehensions, by an invariant (turn, the list so far, the store) -/
section
variable {w : Wk} {g : CG} {f : Env → M Bool} {e : Env → M D} {ρ : Env} {μ : List O} {P : D → List O → Prop} {E : Ex → List O → Prop}
theorem wp_lc (n : Nat) (Inv : Nat → List D → List O → Prop) (hn : n ≤ w.fuel) (h0 : Inv 0 [] (μ ++ [.lst []]))
    (step : ∀ i acc μ', i < n → Inv i acc μ' → ∃ d, w.get i μ' = some (some d) ∧ ∃ ρ1 μ1, g.run d ρ μ' = some (ρ1, μ1) ∧ Wp (f ρ1) μ1 (fun b μ2 => if b = true then
      Wp (e ρ1) μ2 (fun y μ3 => ∃ acc', μ3[μ.length]? = some (.lst acc') ∧ acc'.length < sizeLine ∧ Inv (i + 1) (acc' ++ [y]) (μ3.set μ.length (.lst (acc' ++ [y])))) (fun _ _ => False)
      else ∃ acc', Inv (i + 1) acc' μ2) (fun _ _ => False))
    (done : ∀ acc μ', Inv n acc μ' → w.get n μ' = some none ∧ P (.ref μ.length) μ') : Wp (lcM w g f e ρ) μ P E := by
  have go : ∀ m k i acc μ', i + k = n → k ≤ m → Inv i acc μ' → ∃ μ2, lcRun w g f e μ.length ρ m i μ' = some (.ok (.ref μ.length), μ2) ∧ P (.ref μ.length) μ2 := by
    intro m
    induction m with
    | zero =>
      intro k i acc μ' e1 hk h
      have e' : i = n := by omega
      subst e'
      obtain ⟨d1, d2⟩ := done acc μ' h
      exact ⟨μ', by dsimp only [lcRun]; rw [d1], d2⟩
    | succ m ih =>
      intro k i acc μ' e1 hk h
      by_cases hi : i < n
      · obtain ⟨d, h1, ρ1, μ1, h2, r, μ2, h3, q⟩ := step i acc μ' hi h
        cases r with
        | error x => exact q.elim
        | ok b =>
          cases b with
          | false =>
            dsimp only at q
            rw [if_neg Bool.false_ne_true] at q
            obtain ⟨acc', q⟩ := q
            obtain ⟨μ4, h4, q4⟩ := ih (k - 1) (i + 1) acc' μ2 (by omega) (by omega) q
            refine ⟨μ4, ?_, q4⟩
            dsimp only [lcRun]
            rw [h1]; dsimp only
            rw [h2]; dsimp only
            rw [h3]
            exact h4
          | true =>
            dsimp only at q
            rw [if_pos rfl] at q
            obtain ⟨r2, μ3, h4, q⟩ := q
            cases r2 with
            | error x => exact q.elim
            | ok y =>
              obtain ⟨acc', h5, h6, q⟩ := q
              obtain ⟨μ5, h7, q5⟩ := ih (k - 1) (i + 1) _ _ (by omega) (by omega) q
              refine ⟨μ5, ?_, q5⟩
              dsimp only [lcRun]
              rw [h1]; dsimp only
              rw [h2]; dsimp only
              rw [h3]; dsimp only
              rw [h4]; dsimp only
              rw [h5]; dsimp only
              rw [if_pos h6]
              exact h7
      · have e' : i = n := by omega
        subst e'
        obtain ⟨d1, d2⟩ := done acc μ' h
        exact ⟨μ', by dsimp only [lcRun]; rw [d1], d2⟩
  obtain ⟨μ2, h1, h2⟩ := go w.fuel n 0 [] (μ ++ [.lst []]) (by omega) hn h0
  exact ⟨.ok (.ref μ.length), μ2, h1, h2⟩
/-- each item by itself, the store stays: a map -/
theorem wp_lc_map {get : Nat → Option D} (n : Nat) (φ : Nat → D) (hn : n ≤ w.fuel) (hz : n ≤ sizeLine) (src : ∀ i acc, w.get i (μ ++ [.lst acc]) = some (get i)) (hget : ∀ i, i < n → (get i).isSome) (hend : get n = none)
    (step : ∀ i d acc, i < n → get i = some d → ∃ ρ1, g.run d ρ (μ ++ [.lst acc]) = some (ρ1, μ ++ [.lst acc]) ∧ Wp (f ρ1) (μ ++ [.lst acc]) (fun b μ2 => b = true ∧ μ2 = μ ++ [.lst acc]) (fun _ _ => False) ∧
      Wp (e ρ1) (μ ++ [.lst acc]) (fun y μ3 => y = φ i ∧ μ3 = μ ++ [.lst acc]) (fun _ _ => False))
    (q : P (.ref μ.length) (μ ++ [.lst ((List.range n).map φ)])) : Wp (lcM w g f e ρ) μ P E := by
  refine wp_lc n (fun i acc μ' => i ≤ n ∧ acc = (List.range i).map φ ∧ μ' = μ ++ [.lst acc]) hn ⟨Nat.zero_le _, rfl, rfl⟩ ?_ ?_
  · rintro i acc _ hi ⟨_, rfl, rfl⟩
    obtain ⟨d, hd⟩ := Option.isSome_iff_exists.mp (hget i hi)
    obtain ⟨ρ1, h1, h2, h3⟩ := step i d _ hi hd
    refine ⟨d, by rw [src, hd], ρ1, _, h1, h2.mono ?_ fun _ _ z => z⟩
    rintro b _ ⟨rfl, rfl⟩
    rw [if_pos rfl]
    refine h3.mono ?_ fun _ _ z => z
    rintro y _ ⟨rfl, rfl⟩
    refine ⟨(List.range i).map φ, ?_, by rw [List.length_map, List.length_range]; omega, hi, ?_, ?_⟩
    · rw [List.getElem?_append_right (Nat.le_refl _)]; simp
    · rw [List.range_succ, List.map_append]; rfl
    · rw [List.set_append_right _ _ (Nat.le_refl _)]; simp
  · rintro acc _ ⟨_, rfl, rfl⟩
    exact ⟨by rw [src, hend], q⟩
end
end Mi
/-! Mi, part H: the store grows; what is seen stays; sizes. -/
namespace Mi
open PySem L2 PyProof.Rows

/-- all but the l-th object stays -/
structure Gr (l : Nat) (μ μ' : List O) : Prop where
  len : μ.length ≤ μ'.length
  at_ : ∀ (j : Nat) o, j ≠ l → μ[j]? = some o → μ'[j]? = some o
/-- all stays -/
structure Gr0 (μ μ' : List O) : Prop where
  len : μ.length ≤ μ'.length
  at_ : ∀ (j : Nat) o, μ[j]? = some o → μ'[j]? = some o
theorem Gr0.refl (μ : List O) : Gr0 μ μ := ⟨Nat.le_refl _, fun _ _ h => h⟩
theorem Gr0.trans {a b c : List O} (x : Gr0 a b) (y : Gr0 b c) : Gr0 a c := ⟨Nat.le_trans x.len y.len, fun j o h => y.at_ j o (x.at_ j o h)⟩
theorem Gr0.gr {l : Nat} {a b : List O} (x : Gr0 a b) : Gr l a b := ⟨x.len, fun j o _ h => x.at_ j o h⟩
theorem Gr.set_off {l L : Nat} {a b : List O} {o : O} (x : Gr l a b) (h : a.length ≤ L) : Gr l a (b.set L o) := ⟨by simpa using x.len, fun j p n e => by
  have := (List.getElem?_eq_some_iff.mp e).1
  rw [List.getElem?_set_ne (by omega)]
  exact x.at_ j p n e⟩
theorem Gr.off {l : Nat} {a b : List O} (x : Gr l a b) (h : a.length ≤ l) : Gr0 a b := ⟨x.len, fun j o e => x.at_ j o (by have := (List.getElem?_eq_some_iff.mp e).1; omega) e⟩
theorem Gr.refl (l : Nat) (μ : List O) : Gr l μ μ := ⟨Nat.le_refl _, fun _ _ _ h => h⟩
theorem Gr.trans {l : Nat} {a b c : List O} (x : Gr l a b) (y : Gr l b c) : Gr l a c := ⟨Nat.le_trans x.len y.len, fun j o n h => y.at_ j o n (x.at_ j o n h)⟩
theorem Gr0.app (μ ν : List O) : Gr0 μ (μ ++ ν) := ⟨by simp, fun j o h => by rw [List.getElem?_append_left (List.getElem?_eq_some_iff.mp h).1]; exact h⟩
theorem Gr.set (l : Nat) (μ : List O) (o : O) : Gr l μ (μ.set l o) := ⟨by simp, fun j o' n h => by rw [List.getElem?_set_ne (Ne.symm n)]; exact h⟩
theorem Gr0.put {l : Nat} {μ μ' : List O} {o : O} (x : Gr l μ μ') : Gr0 (μ.set l o) (μ'.set l o) := by
  refine ⟨by simpa using x.len, fun j o' h => ?_⟩
  by_cases hj : j = l
  · subst hj
    have hl : j < μ.length := by
      have := (List.getElem?_eq_some_iff.mp h).1
      simpa using this
    rw [List.getElem?_set_self hl] at h
    rw [List.getElem?_set_self (Nat.lt_of_lt_of_le hl x.len)]
    exact h
  · rw [List.getElem?_set_ne (Ne.symm hj)] at h ⊢
    exact x.at_ j o' hj h

theorem seeL_mono {f g : D → Option PyData} (h : ∀ d p, f d = some p → g d = some p) : ∀ {ds : List D} {ps : List PyData}, seeL f ds = some ps → seeL g ds = some ps
  | [], _, e => e
  | d :: ds, ps, e => by
    unfold seeL at e ⊢
    cases e1 : f d with
    | none => rw [e1] at e; cases e
    | some a =>
      cases e2 : seeL f ds with
      | none => rw [e1, e2] at e; cases e
      | some b =>
        rw [e1, e2] at e
        rw [h d a e1, seeL_mono h e2]
        exact e
theorem seeK_mono {f g : D → Option PyData} (h : ∀ d p, f d = some p → g d = some p) : ∀ {ds : List (Key × D)} {ps : List (PyData × PyData)}, seeK f ds = some ps → seeK g ds = some ps
  | [], _, e => e
  | (k, d) :: ds, ps, e => by
    unfold seeK at e ⊢
    cases e1 : f d with
    | none => rw [e1] at e; cases e
    | some a =>
      cases e2 : seeK f ds with
      | none => rw [e1, e2] at e; cases e
      | some b =>
        rw [e1, e2] at e
        rw [h d a e1, seeK_mono h e2]
        exact e
theorem see_mono {μ μ' : List O} (x : ∀ (j : Nat) o, μ[j]? = some o → μ'[j]? = some o) : ∀ {n m : Nat} {d : D} {p : PyData}, n ≤ m → see μ n d = some p → see μ' m d = some p
  | 0, _, _, _, _, h => by cases h
  | n + 1, 0, _, _, hm, _ => by omega
  | n + 1, m + 1, d, p, hm, h => by
    have ih : ∀ d p, see μ n d = some p → see μ' m d = some p := fun d p e => see_mono x (by omega) e
    cases d with
    | non => exact h
    | bl b => exact h
    | int i => exact h
    | str s => exact h
    | fro ds => cases h
    | tup ds =>
      have h' : (seeL (see μ n) ds).map PyData.tuple = some p := h
      show (seeL (see μ' m) ds).map PyData.tuple = some p
      cases e1 : seeL (see μ n) ds with
      | none => rw [e1] at h'; cases h'
      | some ps =>
        rw [e1] at h'
        rw [seeL_mono ih e1]
        exact h'
    | ref l =>
      cases e0 : μ[l]? with
      | none =>
        dsimp only [see] at h
        rw [e0] at h
        cases h
      | some o =>
        have e0' := x l o e0
        dsimp only [see] at h ⊢
        rw [e0] at h
        rw [e0']
        cases o with
        | lst ds =>
          dsimp only at h ⊢
          cases e1 : seeL (see μ n) ds with
          | none => rw [e1] at h; cases h
          | some ps =>
            rw [e1] at h
            rw [seeL_mono ih e1]
            exact h
        | dct ds =>
          dsimp only at h ⊢
          cases e1 : seeK (see μ n) ds with
          | none => rw [e1] at h; cases h
          | some ps =>
            rw [e1] at h
            rw [seeK_mono ih e1]
            exact h
/-- the type that a seen thing has -/
def tyP : PyData → String
  | .none => "NoneType"
  | .bool _ => "bool"
  | .int _ => "int"
  | .str _ => "str"
  | .tuple _ => "tuple"
  | .list _ => "list"
  | .dict _ => "dict"
theorem see_ty {μ : List O} {n : Nat} {d : D} {p : PyData} (h : see μ n d = some p) : tyN μ d = some (tyP p) := by
  cases n with
  | zero => cases h
  | succ n =>
    cases d with
    | non => cases h; rfl
    | bl b => cases h; rfl
    | int i => cases h; rfl
    | str s => cases h; rfl
    | fro ds => cases h
    | tup ds =>
      have h' : (seeL (see μ n) ds).map PyData.tuple = some p := h
      cases e1 : seeL (see μ n) ds with
      | none => rw [e1] at h'; cases h'
      | some ps => rw [e1] at h'; cases h'; rfl
    | ref l =>
      dsimp only [see] at h
      cases e0 : μ[l]? with
      | none => rw [e0] at h; cases h
      | some o =>
        rw [e0] at h
        cases o with
        | lst ds =>
          dsimp only at h
          cases e1 : seeL (see μ n) ds with
          | none => rw [e1] at h; cases h
          | some ps =>
            rw [e1] at h
            cases h
            dsimp only [tyN]
            rw [e0]
            rfl
        | dct ds =>
          dsimp only at h
          cases e1 : seeK (see μ n) ds with
          | none => rw [e1] at h; cases h
          | some ps =>
            rw [e1] at h
            cases h
            dsimp only [tyN]
            rw [e0]
            rfl
theorem seeL_len {f : D → Option PyData} : ∀ {ds : List D} {ps : List PyData}, seeL f ds = some ps → ds.length = ps.length
  | [], _, e => by cases e; rfl
  | d :: ds, ps, e => by
    unfold seeL at e
    cases e1 : f d with
    | none => rw [e1] at e; cases e
    | some a =>
      cases e2 : seeL f ds with
      | none => rw [e1, e2] at e; cases e
      | some b => rw [e1, e2] at e; cases e; simp [seeL_len e2]

/-! ### a thing that can be shown, whatever stands at l -/
/-- how big: w the weight -/
structure Fit (n w : Nat) (p : PyData) : Prop where
  sh : p.showable = true
  lv : p.leavesShort 2000 = true
  wt : p.weight ≤ w
  dp : p.depth ≤ n
theorem Fit.ok {n w : Nat} {p : PyData} (f : Fit n w p) (hn : n ≤ 60) (hw : w ≤ 8000) : reprOk p = true := by
  have h := PyData.shown_le 2000 (by omega) p f.lv
  have h2 : (2000 + 2) * p.weight ≤ 2002 * 8000 := Nat.mul_le_mul (Nat.le_refl _) (Nat.le_trans f.wt hw)
  have hs : sizeLine = 16777216 := sizeLine_eq
  unfold reprOk
  simp only [Bool.and_eq_true, decide_eq_true_eq]
  exact ⟨f.sh, by omega, Nat.le_trans f.dp hn⟩
/-- d is seen as p whatever stands at l -/
def Sn (l : Nat) (μ : List O) (n w : Nat) (d : D) : Prop := ∃ p, (∀ o, see (μ.set l o) (n + 1) d = some p) ∧ Fit n w p
theorem Sn.up {l : Nat} {μ μ' : List O} {n m w v : Nat} {d : D} (h : Sn l μ n w d) (x : Gr l μ μ') (hn : n ≤ m) (hw : w ≤ v) : Sn l μ' m v d := by
  obtain ⟨p, h1, h2⟩ := h
  exact ⟨p, fun o => see_mono (Gr0.put x).at_ (by omega) (h1 o), h2.sh, h2.lv, Nat.le_trans h2.wt hw, Nat.le_trans h2.dp hn⟩
theorem set_self {μ : List O} {l : Nat} {o : O} (h : μ[l]? = some o) : μ.set l o = μ := by
  apply List.ext_getElem?
  intro j
  by_cases hj : j = l
  · subst hj
    rw [List.getElem?_set_self (List.getElem?_eq_some_iff.mp h).1, h]
  · rw [List.getElem?_set_ne (Ne.symm hj)]
theorem Sn.see {l : Nat} {μ : List O} {n w : Nat} {d : D} (h : Sn l μ n w d) (hl : ∃ o, μ[l]? = some o) : ∃ p, see μ (n + 1) d = some p ∧ Fit n w p := by
  obtain ⟨p, h1, h2⟩ := h
  obtain ⟨o, e⟩ := hl
  refine ⟨p, ?_, h2⟩
  have := h1 o
  rw [set_self e] at this
  exact this
theorem int_leaf {i : Int} (h : i.natAbs.log2 < 1920) : (PyData.int i).leavesShort 2000 = true := by
  have := int_text_length_le (a := i) (k := 1920) (by omega) h
  have e : (PyData.shown (.int i)).length ≤ 2000 := by
    show (Str.ofString (toString i)).length ≤ 2000
    rw [PySem.ofString_length]
    omega
  simp only [PyData.leavesShort, decide_eq_true_eq]
  exact e
section
variable {l : Nat} {μ : List O} {n w v : Nat} {a b : D}
theorem sn_int {i : Int} (h : i.natAbs.log2 < 1920) (hw : 1921 ≤ w) : Sn l μ n w (.int i) := ⟨.int i, fun _ => rfl, by simp [PyData.showable, h], int_leaf h, by
  simp only [PyData.weight]
  split <;> omega, by simp [PyData.depth]⟩
theorem sn_bl {i : Bool} : Sn l μ n w (.bl i) := ⟨.bool i, fun _ => rfl, by simp [PyData.showable], by simp [PyData.leavesShort], by simp [PyData.weight], by simp [PyData.depth]⟩
theorem sn_non : Sn l μ n w .non := ⟨.none, fun _ => rfl, by simp [PyData.showable], by simp [PyData.leavesShort], by simp [PyData.weight], by simp [PyData.depth]⟩
theorem sn_str {x : Str} (hx : (x.cps.toList.all fun c => decide (c < 16 ^ 8)) = true) (hl : x.cps.size ≤ w) : Sn l μ n w (.str x) :=
  ⟨.str x, fun _ => rfl, by simp [PyData.showable], by simpa [PyData.leavesShort] using hx, by simpa [PyData.weight] using hl, by simp [PyData.depth]⟩
/-- several things -/
def Sns (l : Nat) (μ : List O) (n w : Nat) (ds : List D) : Prop := ∃ ps, (∀ o, seeL (see (μ.set l o) (n + 1)) ds = some ps) ∧ PyData.showableAll ps = true ∧ PyData.leavesShortAll 2000 ps = true ∧ PyData.weightAll ps ≤ w ∧ PyData.depthAll ps ≤ n
theorem sns_nil : Sns l μ n w [] := ⟨[], fun _ => rfl, by simp [PyData.showableAll], by simp [PyData.leavesShortAll], by simp [PyData.weightAll], by simp [PyData.depthAll]⟩
theorem sns_cons {ds : List D} (h : Sn l μ n w a) (hs : Sns l μ n v ds) : Sns l μ n (w + 1 + v) (a :: ds) := by
  obtain ⟨p, h1, h2⟩ := h
  obtain ⟨ps, h3, h4, h5, h6, h7⟩ := hs
  refine ⟨p :: ps, fun o => ?_, by simp [PyData.showableAll, h2.sh, h4], by simp [PyData.leavesShortAll, h2.lv, h5], ?_, ?_⟩
  · unfold seeL
    rw [h1 o, h3 o]
  · simp only [PyData.weightAll]
    have := h2.wt
    omega
  · simp only [PyData.depthAll]
    have := h2.dp
    omega
theorem Sns.up {μ' : List O} {m u : Nat} {ds : List D} (h : Sns l μ n w ds) (x : Gr l μ μ') (hn : n ≤ m) (hw : w ≤ u) : Sns l μ' m u ds := by
  obtain ⟨ps, h3, h4, h5, h6, h7⟩ := h
  exact ⟨ps, fun o => seeL_mono (fun d p e => see_mono (Gr0.put x).at_ (by omega) e) (h3 o), h4, h5, Nat.le_trans h6 hw, Nat.le_trans h7 hn⟩
theorem sn_tup {ds : List D} (h : Sns l μ n w ds) : Sn l μ (n + 1) w (.tup ds) := by
  obtain ⟨ps, h3, h4, h5, h6, h7⟩ := h
  refine ⟨.tuple ps, fun o => ?_, by simpa [PyData.showable] using h4, by simpa [PyData.leavesShort] using h5, by simpa [PyData.weight] using h6, by simp only [PyData.depth]; omega⟩
  show (seeL (see (μ.set l o) (n + 1)) ds).map PyData.tuple = _
  rw [h3 o]
  rfl
/-- a new list -/
theorem sn_new {ds : List D} (h : Sns l μ n w ds) (hl : l < μ.length) : Sn l (μ ++ [.lst ds]) (n + 1) w (.ref μ.length) := by
  have h' := h.up (Gr0.app μ [O.lst ds]).gr (Nat.le_refl _) (Nat.le_refl _)
  obtain ⟨ps, h3, h4, h5, h6, h7⟩ := h'
  refine ⟨.list ps, fun o => ?_, by simpa [PyData.showable] using h4, by simpa [PyData.leavesShort] using h5, by simpa [PyData.weight] using h6, by simp only [PyData.depth]; omega⟩
  have e : ((μ ++ [O.lst ds]).set l o)[μ.length]? = some (O.lst ds) := by
    rw [List.getElem?_set_ne (by omega), List.getElem?_append_right (Nat.le_refl _)]
    simp
  dsimp only [Mi.see]
  rw [e]
  show (seeL (see ((μ ++ [O.lst ds]).set l o) (n + 1)) ds).map PyData.list = _
  rw [h3 o]
  rfl
theorem sn_intB {i : Int} (B : Nat) (h : i.natAbs.log2 < B) (h1 : B ≤ 1920) (hw : B ≤ w) : Sn l μ n w (.int i) := ⟨.int i, fun _ => rfl, by simp [PyData.showable]; omega, int_leaf (by omega), by
  simp only [PyData.weight]
  split <;> omega, by simp [PyData.depth]⟩
theorem cps_ok (s : String) : ((Str.ofString s).cps.toList.all fun c => decide (c < 16 ^ 8)) = true := by
  rw [Str.ofString_eq_toList]
  simp only [List.all_eq_true, decide_eq_true_eq]
  intro x hx
  simp only [List.mem_map] at hx
  obtain ⟨c, _, rfl⟩ := hx
  have h1 : c.val.toNat < 4294967296 := c.val.toNat_lt
  show c.val.toNat < _
  omega
/-- an int's text -/
theorem sn_strI {i : Int} (B : Nat) (h0 : 0 < B) (h : i.natAbs.log2 < B) (hw : B + 1 ≤ w) : Sn l μ n w (.str (Str.ofString (toString i))) := by
  refine sn_str (cps_ok _) ?_
  have := int_text_length_le (a := i) h0 h
  show (Str.ofString (toString i)).length ≤ w
  rw [PySem.ofString_length]
  omega
theorem sn_strL (s : String) (hw : s.length ≤ w) : Sn l μ n w (.str (Str.ofString s)) := by
  refine sn_str (cps_ok _) ?_
  show (Str.ofString s).length ≤ w
  rw [PySem.ofString_length]
  exact hw
theorem sn_lst {ds : List D} {j : Nat} (h : Sns l μ n w ds) (hj : μ[j]? = some (.lst ds)) (hn : j ≠ l) : Sn l μ (n + 1) w (.ref j) := by
  obtain ⟨ps, h3, h4, h5, h6, h7⟩ := h
  refine ⟨.list ps, fun o => ?_, by simpa [PyData.showable] using h4, by simpa [PyData.leavesShort] using h5, by simpa [PyData.weight] using h6, by simp only [PyData.depth]; omega⟩
  have e : (μ.set l o)[j]? = some (O.lst ds) := by
    rw [List.getElem?_set_ne (Ne.symm hn)]
    exact hj
  dsimp only [Mi.see]
  rw [e]
  show (seeL (see (μ.set l o) (n + 1)) ds).map PyData.list = _
  rw [h3 o]
  rfl
/-- a dict of one entry -/
theorem sn_dct1 {kk : Key} {d : D} {j : Nat} (hk : Fit 0 v (keyP kk)) (h : Sn l μ n w d) (hj : μ[j]? = some (.dct [(kk, d)])) (hn : j ≠ l) : Sn l μ (n + 1) (v + w + 2) (.ref j) := by
  obtain ⟨p, h3, h4, h5, h6, h7⟩ := h
  obtain ⟨k1, k2, k3, k4⟩ := hk
  refine ⟨.dict [(keyP kk, p)], fun o => ?_, by simp [PyData.showable, PyData.showableKv, k1, h4], by simp [PyData.leavesShort, PyData.leavesShortKv, k2, h5], by simp only [PyData.weight, PyData.weightKv]; omega, by simp only [PyData.depth, PyData.depthKv]; omega⟩
  have e : (μ.set l o)[j]? = some (O.dct [(kk, d)]) := by
    rw [List.getElem?_set_ne (Ne.symm hn)]
    exact hj
  dsimp only [Mi.see]
  rw [e]
  show (seeK (see (μ.set l o) (n + 1)) [(kk, d)]).map PyData.dict = _
  unfold seeK
  rw [h3 o]
  rfl
theorem fit_keyI {i : Int} (B : Nat) (h : i.natAbs.log2 < B) (h1 : B ≤ 1920) (hw : B ≤ w) : Fit n w (keyP (.inl i)) := by
  obtain ⟨p, h1, h2⟩ := sn_intB (l := 0) (μ := []) (n := n) (w := w) (i := i) B h h1 hw
  have := h1 (O.lst [])
  cases this
  exact h2
theorem fit_keyS (s : String) (hw : s.length ≤ w) : Fit n w (keyP (.inr (Str.ofString s))) := by
  obtain ⟨p, h1, h2⟩ := sn_strL (l := 0) (μ := []) (n := n) (w := w) s hw
  have := h1 (O.lst [])
  cases this
  exact h2
theorem sns_c {ds : List D} {u : Nat} (h : Sn l μ n w a) (hs : Sns l μ n v ds) (hu : w + 1 + v ≤ u) : Sns l μ n u (a :: ds) := (sns_cons h hs).up (Gr.refl _ _) (Nat.le_refl _) hu
theorem sns_n : Sns l μ n w [] := sns_nil
theorem sn_t0 : Sn l μ (n + 1) w (.tup []) := sn_tup sns_n
theorem sn_t1 (w : Nat) (h : Sn l μ n w a) (hv : w + 1 ≤ v) : Sn l μ (n + 1) v (.tup [a]) := sn_tup (sns_c h (sns_n (w := 0)) hv)
theorem sn_t2 (w : Nat) (h : Sn l μ n w a) (k : Sn l μ n w b) (hv : 2 * w + 2 ≤ v) : Sn l μ (n + 1) v (.tup [a, b]) := sn_tup (sns_c h (sns_c k (sns_n (w := 0)) (Nat.le_refl _)) (by omega))
theorem sn_t3 {c : D} (w : Nat) (h : Sn l μ n w a) (k : Sn l μ n w b) (m : Sn l μ n w c) (hv : 3 * w + 3 ≤ v) : Sn l μ (n + 1) v (.tup [a, b, c]) := sn_tup (sns_c h (sns_c k (sns_c m (sns_n (w := 0)) (Nat.le_refl _)) (Nat.le_refl _)) (by omega))
theorem sn_l1 {j : Nat} (w : Nat) (h : Sn l μ n w a) (hv : w + 1 ≤ v) (hj : μ[j]? = some (.lst [a])) (hn : j ≠ l) : Sn l μ (n + 1) v (.ref j) := sn_lst (sns_c h (sns_n (w := 0)) hv) hj hn
theorem sn_l2 {j : Nat} (w : Nat) (h : Sn l μ n w a) (k : Sn l μ n w b) (hv : 2 * w + 2 ≤ v) (hj : μ[j]? = some (.lst [a, b])) (hn : j ≠ l) : Sn l μ (n + 1) v (.ref j) := sn_lst (sns_c h (sns_c k (sns_n (w := 0)) (Nat.le_refl _)) (by omega)) hj hn
theorem log2_mono {a b : Nat} (h : a ≤ b) : a.log2 ≤ b.log2 := by
  by_cases h0 : a = 0
  · subst h0; simp
  · exact (Nat.le_log2 (by omega)).mpr (Nat.le_trans (Nat.log2_self_le h0) h)
/-- a number of at most 31 digits -/
theorem sn_i {i : Int} (h : i.natAbs ≤ 2 * 10 ^ 30) (hw : 102 ≤ w) : Sn l μ n w (.int i) := sn_intB 102 (Nat.lt_of_le_of_lt (log2_mono h) (by decide)) (by omega) hw
theorem Sn.wide {m u : Nat} (h : Sn l μ n w a) (hn : n ≤ m) (hw : w ≤ u) : Sn l μ m u a := h.up (Gr.refl _ _) hn hw
theorem Sn.see_out (h : Sn l μ n w a) (hl : μ.length ≤ l) : ∃ p, Mi.see μ (n + 1) a = some p ∧ Fit n w p := by
  obtain ⟨p, h1, h2⟩ := h
  refine ⟨p, ?_, h2⟩
  have := h1 (.lst [])
  rwa [List.set_eq_of_length_le hl] at this
theorem see_lst {i j : Nat} {ds : List D} (h1 : μ[i]? = some (.lst ds)) (h2 : μ[j]? = some (.lst ds)) : see μ n (.ref i) = see μ n (.ref j) := by
  cases n with
  | zero => rfl
  | succ n =>
    show (match μ[i]? with | some (.lst ds) => (seeL (see μ n) ds).map PyData.list | some (.dct kvs) => _ | none => _) = (match μ[j]? with | some (.lst ds) => _ | some (.dct kvs) => _ | none => _)
    rw [h1, h2]
end
end Mi
/-! S1: codes that many laws share (fractions; the laws' own draws), and what they do. -/
namespace Std
open PySem L2 PyProof.Rows Mi
local macro_rules | `(tactic| walk_at "mi") => `(tactic| simp only [wp_mir, ws_cons, ws_nil, nx_nx, nx_rt, nx_bk, nx_ct, nx_er, fn_nx, fn_rt, fn_er, ws_asgN, ws_asgT, gs_cons, gs_nil, ex_tup, ex_pr, ws_asgS, ws_of, ws_some, wp_bnd, wp_ret, wp_new, ws_ite, wp_iteB, wp_stop,
  r_var, r_int, r_bl, r_str, r_non, r_glo, r_nil, r_cons, r_tup, r_lst, r_bin, r_cmp, r_tcmp, r_tval, r_tnot, r_and1, r_or1, r_and, r_or, r_if, r_vone, r_vand, r_vor, r_not, r_neg, r_chain, r_tchain,
  r_ix, r_slice, r_ono, r_oyes, r_B, r_call, r_call0, r_isi, s_expr, s_ret, s_if, s_par, s_while, s_for, s_brk, s_cont, s_pass, s_retN, i_T, i_L, i_A, i_En, i_Zp, r_rev, r_J, j_nil, j_lit, j_fmt, s_par3, o_isBt, o_isBn, o_fmtI, o_fmtS, o_put, o_sw, o_ls, o_part, r_callK, r_kNil, r_kCons, r_m0, r_m, f_nil, f_one, s_asg2, s_setLc, r_lc, o_revT, o_revL, o_max, o_min, o_all, o_any, o_aT, o_aF, o_aL, o_aS, o_enT, o_enL, o_zipT, o_zipL, fuelE, fuelZ, fuelS, o_mulL, o_mulS, o_isTL, o_isTS, wp_app, wp_pop, i_R1, i_R2,
  List.map_cons, List.map_nil, List.replicate_succ, List.replicate_zero, List.nil_append, List.cons_append, List.length_cons, List.length_nil, Nat.reduceAdd, Nat.add_assoc, Nat.zero_add, Nat.add_zero, Nat.reduceSub, true_and, getV, List.getElem?_cons_zero, List.getElem?_cons_succ, List.set_cons_zero, List.set_cons_succ,
  o_add, o_addS, o_addT, o_addL, o_sub, o_mul, o_fdiv, o_mod, o_pow, o_neg, o_lt, o_le, o_gt, o_ge, o_eq, o_eqS, o_eqB, o_ne, o_neS, o_neB, o_is, o_isn, o_asB, o_asI, o_lenT, o_lenF, o_lenL, o_abs', o_int, o_intB, o_str, o_slT, o_slF, o_slL, o_listT, o_listF, o_listL, o_tupT, o_tupL, o_newL, o_seqF, o_seqL, o_tupW, o_rng1, o_rng2, fuelOf, fuelL, fuelR, wp_isi, tyN_int, tyN_bl, tyN_str, tyN_non, tyN_tup, tyN_fro, iS_NoneType, iS_bool, iS_int, iS_str, iS_tuple, iS_list, iS_dict, List.length_append, List.length_map, List.length_set,
  wp_lstE, setL_E, ex_lst, ex_n, at_off, at_off0, wp_withNew, o_keyI, o_keyS, wp_setE, set_off, set_off0, r_dict1, trn_nx, trn_ct, trn_bk, trn_rt, trn_er, List.append_assoc, List.getElem?_append_left, List.set_set, List.getElem?_set_self, wp_need, ix_ref, Mi.ix_tup, ix_fro, atD_0, atD_1, atD_2, decide_eq_true_eq, Bool.false_eq_true, false_implies, not_false_eq_true, true_implies, not_true_eq_false, Bool.true_eq_false, and_true, if_true, if_false, Int.cast_ofNat_Int, Int.reduceEq, Int.reduceLT, Int.reduceLE, decide_true, decide_false, Bool.not_true, Bool.not_false, reduceIte, eq_self, Nat.reduceLeDiff])
local macro_rules | `(tactic| walk_at "mi*") => `(tactic| simp only [wp_mir, ws_cons, ws_nil, nx_nx, nx_rt, nx_bk, nx_ct, nx_er, fn_nx, fn_rt, fn_er, ws_asgN, ws_asgT, gs_cons, gs_nil, ex_tup, ex_pr, ws_asgS, ws_of, ws_some, wp_bnd, wp_ret, wp_new, ws_ite, wp_iteB, wp_stop,
  r_var, r_int, r_bl, r_str, r_non, r_glo, r_nil, r_cons, r_tup, r_lst, r_bin, r_cmp, r_tcmp, r_tval, r_tnot, r_and1, r_or1, r_and, r_or, r_if, r_vone, r_vand, r_vor, r_not, r_neg, r_chain, r_tchain,
  r_ix, r_slice, r_ono, r_oyes, r_B, r_call, r_call0, r_isi, s_expr, s_ret, s_if, s_par, s_while, s_for, s_brk, s_cont, s_pass, s_retN, i_T, i_L, i_A, i_En, i_Zp, r_rev, r_J, j_nil, j_lit, j_fmt, s_par3, o_isBt, o_isBn, o_fmtI, o_fmtS, o_put, o_sw, o_ls, o_part, r_callK, r_kNil, r_kCons, r_m0, r_m, f_nil, f_one, s_asg2, s_setLc, r_lc, o_revT, o_revL, o_max, o_min, o_all, o_any, o_aT, o_aF, o_aL, o_aS, o_enT, o_enL, o_zipT, o_zipL, fuelE, fuelZ, fuelS, o_mulL, o_mulS, o_isTL, o_isTS, wp_app, wp_pop, i_R1, i_R2,
  List.map_cons, List.map_nil, List.replicate_succ, List.replicate_zero, List.nil_append, List.cons_append, List.length_cons, List.length_nil, Nat.reduceAdd, Nat.add_assoc, Nat.zero_add, Nat.add_zero, Nat.reduceSub, true_and, getV, List.getElem?_cons_zero, List.getElem?_cons_succ, List.set_cons_zero, List.set_cons_succ,
  o_add, o_addS, o_addT, o_addL, o_sub, o_mul, o_fdiv, o_mod, o_pow, o_neg, o_lt, o_le, o_gt, o_ge, o_eq, o_eqS, o_eqB, o_ne, o_neS, o_neB, o_is, o_isn, o_asB, o_asI, o_lenT, o_lenF, o_lenL, o_abs', o_int, o_intB, o_str, o_slT, o_slF, o_slL, o_listT, o_listF, o_listL, o_tupT, o_tupL, o_newL, o_seqF, o_seqL, o_tupW, o_rng1, o_rng2, fuelOf, fuelL, fuelR, wp_isi, tyN_int, tyN_bl, tyN_str, tyN_non, tyN_tup, tyN_fro, iS_NoneType, iS_bool, iS_int, iS_str, iS_tuple, iS_list, iS_dict, List.length_append, List.length_map, List.length_set,
  wp_lstE, setL_E, ex_lst, ex_n, at_off, at_off0, wp_withNew, o_keyI, o_keyS, wp_setE, set_off, set_off0, r_dict1, trn_nx, trn_ct, trn_bk, trn_rt, trn_er, List.append_assoc, List.getElem?_append_left, List.set_set, List.getElem?_set_self, wp_need, ix_ref, Mi.ix_tup, ix_fro, atD_0, atD_1, atD_2, decide_eq_true_eq, Bool.false_eq_true, false_implies, not_false_eq_true, true_implies, not_true_eq_false, Bool.true_eq_false, and_true, if_true, if_false, Int.cast_ofNat_Int, Int.reduceEq, Int.reduceLT, Int.reduceLE, decide_true, decide_false, Bool.not_true, Bool.not_false, reduceIte, eq_self, Nat.reduceLeDiff, *])
def c_is_whole : CB := (bCons (sRet (vAnd (cIsi "int" "int" (cVar 0)) (vOne .And (cNot (cIsi "bool" "bool" (cVar 0))))))
  bNil)
def m_is_whole : List D → M D := mir 1 1 c_is_whole.run
def c_shared_by : CB := (bCons (sWhile (fun ρ => gas 1 ρ) (tCmpC .NotEq neD (cVar 1) (cInt 0)) (bCons (sPar 0 1 (cVar 1) (cBin .Mod modD (cVar 0) (cVar 1)))
  bNil))
  (bCons (sRet (cVar 0))
  bNil))
def m_shared_by : List D → M D := mir 2 2 c_shared_by.run
def c_is_fraction : CB := (bCons (sIf (wOr (tNotC (tVal (cIsi "tuple" "tuple" (cVar 0)))) (wOr (tCmpC .NotEq neD (cB "len" lenD (aCons (cVar 0) aNil)) (cInt 2)) (wOr (tNotC (tVal (cCall "is_whole" m_is_whole (aCons (cIx (cVar 0) (cInt 0)) aNil)))) (wOr1 (tNotC (tVal (cCall "is_whole" m_is_whole (aCons (cIx (cVar 0) (cInt 1)) aNil)))))))) (bCons (sRet (cBl false))
  bNil) bNil)
  (bCons (sRet (vAnd (cCmp .GtE geD (cIx (cVar 0) (cInt 1)) (cInt 1)) (vOne .And (cCmp .Eq eqD (cCall "shared_by" m_shared_by (aCons (cB "abs" absD (aCons (cIx (cVar 0) (cInt 0)) aNil)) (aCons (cIx (cVar 0) (cInt 1)) aNil))) (cInt 1)))))
  bNil))
def m_is_fraction : List D → M D := mir 1 1 c_is_fraction.run
def c_l_begin : CB := (bCons (sPar 3 4 (cIf (tCmpC .Lt ltD (cVar 1) (cB "len" lenD (aCons (cVar 0) aNil))) (cIx (cVar 0) (cVar 1)) (cInt 0)) (cBin .Add addD (cBin .Mult mulD (cInt 104729) (cVar 1)) (cInt 17)))
  (bCons (sFor (gN 2) (iA (cBin .Add addD (cLst (aCons (cVar 3) aNil)) (cSlice (cVar 0) oNo (oYes (cInt 60))))) (bCons (sAsg (gN 4) (cBin .Mod modD (cBin .Add addD (cBin .Add addD (cBin .Mult mulD (cVar 4) (cInt 636413622399)) (cBin .Mult mulD (cInt 2) (cB "abs" absD (aCons (cVar 2) aNil)))) (cB "int" intTx (aCons (cCmp .Lt ltD (cVar 2) (cInt 0)) aNil))) (cInt 2305843009213693951)))
  bNil))
  (bCons (sRet (cLst (aCons (cIf (tCmpC .GtE geD (cB "abs" absD (aCons (cVar 3) aNil)) (cBin .Pow powD (cInt 10) (cInt 18))) (cB "abs" absD (aCons (cVar 3) aNil)) (cInt 0)) (aCons (cVar 4) (aCons (cInt 0) aNil)))))
  bNil)))
def m_l_begin : List D → M D := mir 5 2 c_l_begin.run
def c_l_draw : CB := (bCons (sIf (tCmpC .Gt gtD (cIx (cVar 0) (cInt 0)) (cInt 0)) (bCons (sAsg (gN 4) (cBin .Mod modD (cIx (cVar 0) (cInt 0)) (cVar 1)))
  (bCons (sAsg (gS (cVar 0) (cInt 0)) (cBin .FloorDiv fdivD (cIx (cVar 0) (cInt 0)) (cVar 1)))
  (bCons (sRet (cVar 4))
  bNil))) bNil)
  (bCons (sAsg (gS (cVar 0) (cInt 2)) (cBin .Add addD (cIx (cVar 0) (cInt 2)) (cInt 1)))
  (bCons (sAsg (gN 2) (cIx (cVar 0) (cInt 2)))
  (bCons (sAsg (gN 3) (cBin .Mod modD (cBin .Mult mulD (cBin .Add addD (cIx (cVar 0) (cInt 1)) (cBin .Mult mulD (cInt 40503) (cVar 2))) (cBin .Add addD (cBin .Mult mulD (cBin .Mult mulD (cVar 2) (cVar 2)) (cInt 65539)) (cInt 97))) (cInt 2305843009213693921)))
  (bCons (sAsg (gN 3) (cBin .Mod modD (cBin .Mult mulD (cVar 3) (cBin .Add addD (cBin .Mod modD (cVar 3) (cInt 1000003)) (cVar 2))) (cInt 2305843009213693907)))
  (bCons (sRet (cBin .Mod modD (cBin .FloorDiv fdivD (cVar 3) (cInt 8191)) (cVar 1)))
  bNil))))))
def m_l_draw : List D → M D := mir 5 2 c_l_draw.run
def c_l_shared : CB := (bCons (sWhile (fun ρ => gas 1 ρ) (tCmpC .NotEq neD (cVar 1) (cInt 0)) (bCons (sPar 0 1 (cVar 1) (cBin .Mod modD (cVar 0) (cVar 1)))
  bNil))
  (bCons (sRet (cVar 0))
  bNil))
def m_l_shared : List D → M D := mir 2 2 c_l_shared.run
def c_l_made : CB := (bCons (sPar 2 3 (cCall "_law_shared" m_l_shared (aCons (cB "abs" absD (aCons (cVar 0) aNil)) (aCons (cB "abs" absD (aCons (cVar 1) aNil)) aNil))) (cBin .Sub subD (cInt 1) (cBin .Mult mulD (cInt 2) (cB "int" intTx (aCons (cCmp .Lt ltD (cVar 1) (cInt 0)) aNil)))))
  (bCons (sRet (cTup (aCons (cBin .FloorDiv fdivD (cBin .Mult mulD (cVar 3) (cVar 0)) (cVar 2)) (aCons (cBin .FloorDiv fdivD (cBin .Mult mulD (cVar 3) (cVar 1)) (cVar 2)) aNil))))
  bNil))
def m_l_made : List D → M D := mir 4 2 c_l_made.run
def c_l_whole : CB := (bCons (sAsg (gN 1) (cLst (aCons (cInt 0) (aCons (cInt 1) (aCons (cNeg (cInt 1)) (aCons (cBin .Sub subD (cCall "_law_draw" m_l_draw (aCons (cVar 0) (aCons (cInt 19) aNil))) (cInt 9)) (aCons (cCall "_law_draw" m_l_draw (aCons (cVar 0) (aCons (cBin .Pow powD (cInt 10) (cInt 6)) aNil))) (aCons (cBin .Sub subD (cCall "_law_draw" m_l_draw (aCons (cVar 0) (aCons (cBin .Mult mulD (cInt 2) (cBin .Pow powD (cInt 10) (cInt 30))) aNil))) (cBin .Pow powD (cInt 10) (cInt 30))) aNil))))))))
  (bCons (sRet (cIx (cVar 1) (cCall "_law_draw" m_l_draw (aCons (cVar 0) (aCons (cInt 6) aNil)))))
  bNil))
def m_l_whole : List D → M D := mir 2 1 c_l_whole.run
def c_l_some : CB := (bCons (sAsg (gN 1) (cIx (cLst (aCons (cInt 1) (aCons (cBin .Add addD (cInt 1) (cCall "_law_draw" m_l_draw (aCons (cVar 0) (aCons (cInt 9) aNil)))) (aCons (cBin .Add addD (cInt 1) (cCall "_law_draw" m_l_draw (aCons (cVar 0) (aCons (cBin .Pow powD (cInt 10) (cInt 6)) aNil)))) (aCons (cBin .Add addD (cInt 1) (cCall "_law_draw" m_l_draw (aCons (cVar 0) (aCons (cBin .Pow powD (cInt 10) (cInt 20)) aNil)))) aNil))))) (cCall "_law_draw" m_l_draw (aCons (cVar 0) (aCons (cInt 4) aNil)))))
  (bCons (sRet (cCall "_law_made" m_l_made (aCons (cCall "_law_whole" m_l_whole (aCons (cVar 0) aNil)) (aCons (cVar 1) aNil))))
  bNil))
def m_l_some : List D → M D := mir 2 1 c_l_some.run
/-! ### the greatest common divisor -/
theorem gcd_turn {a b : Nat} (h : b ≠ 0) : Nat.gcd a b = Nat.gcd b (a % b) := by
  rw [Nat.gcd_comm a b, Nat.gcd_rec b a, Nat.gcd_comm]
theorem fmod_nat (a b : Nat) : Int.fmod (a : Int) (b : Int) = ((a % b : Nat) : Int) := by
  rw [Int.fmod_eq_emod_of_nonneg _ (by omega)]
  simp
theorem run_shared : ∀ (a b : Nat) (μ : List O) (E : Ex → List O → Prop), Wp (m_shared_by [.int a, .int b]) μ (fun r μ' => r = .int (Nat.gcd a b) ∧ μ' = μ) E := by
  intro a b μ E
  have loop : ∀ (n a b : Nat) (S : SR → List O → Prop), b < n → S (.nx [some (.int (Nat.gcd a b)), some (.int 0)]) μ →
      Ws (whl (tCmpC .NotEq neD (cVar 1) (cInt 0)).run (bCons (sPar 0 1 (cVar 1) (cBin .Mod modD (cVar 0) (cVar 1))) bNil).run n [some (.int a), some (.int b)]) μ S := by
    intro n
    induction n with
    | zero => intro a b S h; omega
    | succ n ih =>
      intro a b S h k
      rw [ws_whl]
      walk_at "mi"
      by_cases hb : b = 0
      · subst hb
        simp [decide_eq_true] at k ⊢
        exact k
      · have hd : decide ((b : Int) = 0) = false := decide_eq_false (by omega)
        rw [hd]
        simp only [Bool.not_false, if_true, Trn]
        have hb' : (b : Int) ≠ 0 := by omega
        refine ⟨hb', ?_⟩
        rw [fmod_nat]
        refine ih b (a % b) S (Nat.lt_of_lt_of_le (Nat.mod_lt a (by omega)) (by omega)) ?_
        rw [← gcd_turn hb]
        exact k
  unfold m_shared_by c_shared_by
  walk_at "mi"
  show Ws (whl _ _ ((b : Int).natAbs + 1) _) μ _
  refine loop _ a b _ (by simp) ?_
  walk_at "mi"
/-! ### draws -/
def Pot (μ : List O) (l n : Nat) : Prop := ∃ a b c : Int, μ[l]? = some (.lst [.int a, .int b, .int c]) ∧ 0 ≤ a ∧ 0 ≤ b ∧ b < 2305843009213693951 ∧ 0 ≤ c ∧ c ≤ n
theorem mulOk_l {i j : Int} (h1 : -18446744073709551616 < i) (h2 : i < 18446744073709551616) : mulOk i j := .inl (.inl ⟨h1, h2⟩)
theorem mulOk_r {i j : Int} (h1 : -18446744073709551616 < j) (h2 : j < 18446744073709551616) : mulOk i j := .inl (.inr ⟨h1, h2⟩)
theorem run_draw {μ : List O} {l n : Nat} {many : Int} {E : Ex → List O → Prop} (h : Pot μ l n) (hn : n ≤ 1000000) (h0 : 0 < many) (h9 : many.natAbs.log2 < 9000) :
    Wp (m_l_draw [.ref l, .int many]) μ (fun r μ' => (∃ d, r = .int d ∧ 0 ≤ d ∧ d < many) ∧ Pot μ' l (n + 1) ∧ Gr l μ μ') E := by
  obtain ⟨a, b, c, hl, ha, hb, hb2, hc, hc2⟩ := h
  have hlt : l < μ.length := (List.getElem?_eq_some_iff.mp hl).1
  unfold m_l_draw c_l_draw
  have i0 : ixN 3 0 = some 0 := rfl
  have i2 : ixN 3 2 = some 2 := rfl
  walk_at "mi*"
  have m9 : many ≠ 0 := by omega
  refine ⟨fun h => ⟨m9, ⟨m9, h9⟩, ⟨_, rfl, Int.fmod_nonneg_of_pos _ h0, Int.fmod_lt_of_pos _ h0⟩, ⟨_, _, _, at_set hl, Int.fdiv_nonneg ha (by omega), hb, hb2, hc, by omega⟩, Gr.set _ _ _⟩,
    fun h => ⟨mulOk_l (by omega) (by omega), mulOk_l (by omega) (by omega), mulOk_r (by omega) (by omega), mulOk_l (by omega) (by omega), by omega, by omega, ?_, by omega, by decide, m9, ⟨_, rfl, Int.fmod_nonneg_of_pos _ h0, Int.fmod_lt_of_pos _ h0⟩, ⟨_, _, _, at_set hl, ha, hb, hb2, by omega, by omega⟩, Gr.set _ _ _⟩⟩
  generalize (b + 40503 * (c + 1)) * ((c + 1) * (c + 1) * 65539 + 97) = z
  have y1 := Int.fmod_nonneg_of_pos z (b := 2305843009213693921) (by omega)
  have y2 := Int.fmod_lt_of_pos z (b := 2305843009213693921) (by omega)
  exact mulOk_l (by omega) (by omega)
theorem run_begin {ns : List Int} {k : Nat} {μ : List O} {E : Ex → List O → Prop} (hk : k ≤ 63) :
    Wp (m_l_begin [scr ns, .int k]) μ (fun r μ' => ∃ l, r = .ref l ∧ μ.length ≤ l ∧ Pot μ' l 0 ∧ Gr0 μ μ') E := by
  unfold m_l_begin c_l_begin scr
  have at_ : ∀ h : k < ns.length, atD (List.map D.int ns) k = M.ret (.int ns[k]) := fun h => atD_nat (by rw [List.getElem?_map, List.getElem?_eq_getElem h]; rfl)
  have cl : (Mi.cutD ns none (some 60)).length ≤ 60 := by
    simp [Mi.cutD, HT.sIx]
    omega
  have hs : sizeLine = 16777216 := sizeLine_eq
  have p18 : powOk 10 18 := by decide
  by_cases h : k < ns.length
  all_goals
    first
    | have e := at_ h
      have h' : (k : Int) < ns.length := by omega
      walk_at "mi*"
    | have h' : ¬ ((k : Int) < ns.length) := by omega
      walk_at "mi*"
    rw [cut_map, List.length_map]
    refine ⟨mulOk_l (by omega) (by omega), by omega, ?_⟩
    generalize Mi.cutD ns none (some 60) = xs at cl ⊢
    first
    | generalize ns[k] = c
    | obtain ⟨c, h0⟩ : ∃ c : Int, D.int 0 = D.int c := ⟨0, rfl⟩
      rw [h0]
      clear h0
    rw [show 1 + xs.length = (D.int c :: List.map D.int xs).length by simp [Nat.add_comm]]
    refine ws_forL (fun i ρ μ' => μ' = μ ++ [O.lst [D.int c], O.lst (List.map D.int xs), O.lst (D.int c :: List.map D.int xs)] ∧ ∃ x s, ρ = [some (D.fro (List.map D.int ns)), some (D.int k), x, some (.int c), some (.int s)] ∧ 0 ≤ s ∧ (0 < i → s < 2305843009213693951)) ?_ ?_ ?_ ?_
    · exact ⟨rfl, _, _, rfl, by omega, fun z => absurd z (by omega)⟩
    · rintro i ρ _ ⟨rfl, _⟩
      rw [at_off]
      rfl
    · rintro i d ρ _ hd ⟨rfl, x, s, rfl, h1, h2⟩
      have hd' : d ∈ (c :: xs).map D.int := List.mem_of_getElem? (by exact hd)
      obtain ⟨z, _, rfl⟩ := List.mem_map.mp hd'
      refine ⟨_, _, rfl, ?_⟩
      walk_at "mi*"
      refine ⟨mulOk_r (by omega) (by omega), mulOk_l (by omega) (by omega), by omega, _, _, rfl, Int.fmod_nonneg_of_pos _ (by omega), fun _ => Int.fmod_lt_of_pos _ (by omega)⟩
    · rintro ρ _ ⟨rfl, x, s, rfl, h1, h2⟩
      have h3 := h2 (by simp)
      walk_at "mi*"
      exact ⟨fun _ => ⟨_, rfl, by omega, ⟨_, _, _, at_off, by omega, h1, h3, by omega, by omega⟩, Gr0.app _ _⟩, fun _ => ⟨_, rfl, by omega, ⟨_, _, _, at_off, by omega, h1, h3, by omega, by omega⟩, Gr0.app _ _⟩⟩
/-! ### fractions -/
theorem run_lshared (a b : Nat) (μ : List O) (E : Ex → List O → Prop) : Wp (m_l_shared [.int a, .int b]) μ (fun r μ' => r = .int (Nat.gcd a b) ∧ μ' = μ) E := run_shared a b μ E
theorem fdiv_mul {a g : Int} (h : g ∣ a) : a.fdiv g * g = a := by
  rw [Int.fdiv_eq_ediv_of_dvd h]
  exact Int.ediv_mul_cancel h
/-- what a made fraction is -/
structure Made (t low a b : Int) : Prop where
  pos : 0 < b
  low_ : Nat.gcd a.natAbs b.natAbs = 1
  eq : a * low = t * b
  sa : a.natAbs ≤ t.natAbs
  sb : b.natAbs ≤ low.natAbs
theorem made_of {t low s : Int} (h : low ≠ 0) (hs : s * low = low.natAbs) (hs1 : s = 1 ∨ s = -1) : Made t low ((s * t).fdiv (Nat.gcd t.natAbs low.natAbs : Nat)) ((s * low).fdiv (Nat.gcd t.natAbs low.natAbs : Nat)) := by
  have hg : 0 < Nat.gcd t.natAbs low.natAbs := Nat.gcd_pos_of_pos_right _ (by omega)
  have e1 : (s * t).fdiv (Nat.gcd t.natAbs low.natAbs : Nat) * (Nat.gcd t.natAbs low.natAbs : Nat) = s * t := fdiv_mul (Int.dvd_mul_of_dvd_right (Int.ofNat_dvd_left.mpr (Nat.gcd_dvd_left _ _)))
  have e2 : (s * low).fdiv (Nat.gcd t.natAbs low.natAbs : Nat) * (Nat.gcd t.natAbs low.natAbs : Nat) = s * low := fdiv_mul (Int.dvd_mul_of_dvd_right (Int.ofNat_dvd_left.mpr (Nat.gcd_dvd_right _ _)))
  generalize (s * t).fdiv (Nat.gcd t.natAbs low.natAbs : Nat) = a at e1 ⊢
  generalize (s * low).fdiv (Nat.gcd t.natAbs low.natAbs : Nat) = b at e2 ⊢
  have n1 : a.natAbs * Nat.gcd t.natAbs low.natAbs = t.natAbs := by
    have := congrArg Int.natAbs e1
    rw [Int.natAbs_mul, Int.natAbs_mul, Int.natAbs_natCast] at this
    rcases hs1 with rfl | rfl <;> simpa using this
  have n2 : b.natAbs * Nat.gcd t.natAbs low.natAbs = low.natAbs := by
    have := congrArg Int.natAbs e2
    rw [Int.natAbs_mul, Int.natAbs_mul, Int.natAbs_natCast] at this
    rcases hs1 with rfl | rfl <;> simpa using this
  have hb : 0 < b := by
    rcases Int.lt_trichotomy b 0 with x | x | x
    · have := Int.mul_neg_of_neg_of_pos x (Int.natCast_pos.mpr hg)
      rw [e2, hs] at this
      omega
    · subst x
      simp at n2
      omega
    · exact x
  refine ⟨hb, ?_, ?_, ?_, ?_⟩
  · have := Nat.gcd_mul_right a.natAbs (Nat.gcd t.natAbs low.natAbs) b.natAbs
    rw [n1, n2] at this
    exact Nat.eq_of_mul_eq_mul_right hg (by omega)
  · have hss : s * s = 1 := by rcases hs1 with rfl | rfl <;> rfl
    have k : a * low * (Nat.gcd t.natAbs low.natAbs : Nat) = t * b * (Nat.gcd t.natAbs low.natAbs : Nat) := by
      rw [Int.mul_right_comm, e1, Int.mul_assoc t, e2, Int.mul_comm s t, Int.mul_assoc, ← Int.mul_assoc]
    exact Int.eq_of_mul_eq_mul_right (by omega) k
  · exact n1 ▸ Nat.le_mul_of_pos_right _ hg
  · exact n2 ▸ Nat.le_mul_of_pos_right _ hg
theorem run_made {t low : Int} {μ : List O} {E : Ex → List O → Prop} (h : low ≠ 0) (h9 : low.natAbs.log2 < 9000) :
    Wp (m_l_made [.int t, .int low]) μ (fun r μ' => (∃ a b, r = .tup [.int a, .int b] ∧ Made t low a b) ∧ μ' = μ) E := by
  unfold m_l_made c_l_made
  have hs : sizeLine = 16777216 := sizeLine_eq
  walk_at "mi*"
  refine Wp.go (run_lshared _ _ _ _) ?_
  rintro _ _ ⟨rfl, rfl⟩
  have hg : 0 < Nat.gcd t.natAbs low.natAbs := Nat.gcd_pos_of_pos_right _ (by omega)
  have hd : divOk (Nat.gcd t.natAbs low.natAbs : Nat) := ⟨by omega, Nat.lt_of_le_of_lt (log2_mono (Nat.le_of_dvd (by omega) (Nat.gcd_dvd_right _ _))) h9⟩
  walk_at "mi*"
  by_cases hn : low < 0
  · simp only [hn, decide_true, if_true]
    exact ⟨mulOk_l (by omega) (by omega), mulOk_l (by omega) (by omega), mulOk_l (by omega) (by omega), _, _, rfl, made_of h (by omega) (.inr rfl)⟩
  · simp only [hn, decide_false, if_false]
    exact ⟨mulOk_l (by omega) (by omega), mulOk_l (by omega) (by omega), mulOk_l (by omega) (by omega), _, _, rfl, made_of h (by omega) (.inl rfl)⟩
theorem Pot.lt {μ : List O} {l n : Nat} (h : Pot μ l n) : l < μ.length := by
  obtain ⟨_, _, _, h, _⟩ := h
  exact (List.getElem?_eq_some_iff.mp h).1
theorem Pot.gr {μ μ' : List O} {l n : Nat} (h : Pot μ l n) (g : Gr0 μ μ') : Pot μ' l n := by
  obtain ⟨a, b, c, h, r⟩ := h
  exact ⟨a, b, c, g.at_ _ _ h, r⟩
theorem Pot.app {μ ν : List O} {l n : Nat} (h : Pot μ l n) : Pot (μ ++ ν) l n := h.gr (Gr0.app _ _)
theorem Pot.up {μ : List O} {l n m : Nat} (h : Pot μ l n) (g : n ≤ m) : Pot μ l m := by
  obtain ⟨a, b, c, h, r1, r2, r3, r4, r5⟩ := h
  exact ⟨a, b, c, h, r1, r2, r3, r4, by omega⟩
theorem run_whole {l n : Nat} {μ : List O} {E : Ex → List O → Prop} (h : Pot μ l n) (hn : n + 10 ≤ 1000000) :
    Wp (m_l_whole [.ref l]) μ (fun r μ' => (∃ z, r = .int z ∧ z.natAbs ≤ 10 ^ 30) ∧ Pot μ' l (n + 4) ∧ Gr l μ μ') E := by
  unfold m_l_whole c_l_whole
  have hs : sizeLine = 16777216 := sizeLine_eq
  have p6 : powOk 10 6 := by decide
  have p30 : powOk 10 30 := by decide
  have m30 : mulOk 2 (10 ^ Int.toNat 30) := mulOk_l (by omega) (by omega)
  walk_at "mi*"
  refine Wp.go (run_draw h (by omega) (by decide) (by decide)) ?_
  rintro _ μ1 ⟨⟨d1, rfl, a1, b1⟩, p1, g1⟩
  walk_at "mi*"
  refine Wp.go (run_draw p1 (by omega) (by decide) (by decide)) ?_
  rintro _ μ2 ⟨⟨d2, rfl, a2, b2⟩, p2, g2⟩
  try walk_at "mi*"
  refine Wp.go (run_draw p2 (by omega) (by decide) (by decide)) ?_
  rintro _ μ3 ⟨⟨d3, rfl, a3, b3⟩, p3, g3⟩
  walk_at "mi*"
  refine Wp.go (run_draw p3.app (by omega) (by decide) (by decide)) ?_
  rintro _ μ4 ⟨⟨d4, rfl, a4, b4⟩, p4, g4⟩
  have h4 := g4.at_ _ _ (Nat.ne_of_gt p3.lt) (List.getElem?_concat_length (l := μ3))
  walk_at "mi*"
  refine wp_at (by omega) (by simp; omega) fun d hd => ?_
  have G : Gr l μ μ4 := ((g1.trans g2).trans g3).trans ((Gr0.app _ _).gr.trans g4)
  simp only [List.mem_cons, List.not_mem_nil, or_false] at hd
  have e6 : (10 : Int) ^ Int.toNat 6 = 10 ^ 6 := rfl
  have e30 : (10 : Int) ^ Int.toNat 30 = 10 ^ 30 := rfl
  rcases hd with rfl | rfl | rfl | rfl | rfl | rfl
  all_goals exact ⟨⟨_, rfl, by omega⟩, p4, G⟩
theorem run_some {l n : Nat} {μ : List O} {E : Ex → List O → Prop} (h : Pot μ l n) (hn : n + 20 ≤ 1000000) :
    Wp (m_l_some [.ref l]) μ (fun r μ' => (∃ t low a b, r = .tup [.int a, .int b] ∧ Made t low a b ∧ t.natAbs ≤ 10 ^ 30 ∧ low.natAbs ≤ 10 ^ 20) ∧ Pot μ' l (n + 8) ∧ Gr l μ μ') E := by
  unfold m_l_some c_l_some
  have hs : sizeLine = 16777216 := sizeLine_eq
  have p6 : powOk 10 6 := by decide
  have p20 : powOk 10 20 := by decide
  walk_at "mi*"
  refine Wp.go (run_draw h (by omega) (by decide) (by decide)) ?_
  rintro _ μ1 ⟨⟨d1, rfl, a1, b1⟩, p1, g1⟩
  walk_at "mi*"
  refine Wp.go (run_draw p1 (by omega) (by decide) (by decide)) ?_
  rintro _ μ2 ⟨⟨d2, rfl, a2, b2⟩, p2, g2⟩
  walk_at "mi*"
  refine Wp.go (run_draw p2 (by omega) (by decide) (by decide)) ?_
  rintro _ μ3 ⟨⟨d3, rfl, a3, b3⟩, p3, g3⟩
  walk_at "mi*"
  refine Wp.go (run_draw p3.app (by omega) (by decide) (by decide)) ?_
  rintro _ μ4 ⟨⟨d4, rfl, a4, b4⟩, p4, g4⟩
  have h4 := g4.at_ _ _ (Nat.ne_of_gt p3.lt) (List.getElem?_concat_length (l := μ3))
  walk_at "mi*"
  have G : Gr l μ μ4 := ((g1.trans g2).trans g3).trans ((Gr0.app _ _).gr.trans g4)
  have W : Wp (atD [D.int 1, D.int (1 + d1), D.int (1 + d2), D.int (1 + d3)] d4) μ4 (fun d μ' => (∃ low, d = .int low ∧ 0 < low ∧ low ≤ 10 ^ 20) ∧ μ' = μ4) E := by
    refine wp_at (by omega) (by simp; omega) fun d hd => ?_
    have e6 : (10 : Int) ^ Int.toNat 6 ≤ 10 ^ 20 := by decide
    have e20 : (10 : Int) ^ Int.toNat 20 = 10 ^ 20 := by decide
    simp only [List.mem_cons, List.not_mem_nil, or_false] at hd
    rcases hd with rfl | rfl | rfl | rfl
    all_goals exact ⟨⟨_, rfl, by omega, by omega⟩, rfl⟩
  refine W.mono ?_ fun _ _ z => z
  rintro _ _ ⟨⟨low, rfl, l1, l2⟩, rfl⟩
  refine Wp.go (run_whole p4 (by omega)) ?_
  rintro _ μ5 ⟨⟨t, rfl, ht⟩, p5, g5⟩
  try walk_at "mi*"
  have l3 : low.natAbs ≤ 10 ^ 20 := by omega
  refine Wp.go (run_made (by omega) (Nat.lt_of_le_of_lt (log2_mono l3) (by decide))) ?_
  rintro _ _ ⟨⟨a, b, rfl, hm⟩, rfl⟩
  exact ⟨⟨t, low, a, b, rfl, hm, ht, l3⟩, p5, G.trans g5⟩
/-! ### is it a fraction -/
def isI : D → Bool
  | .int _ => true
  | _ => false
theorem isI_ty {μ : List O} {d : D} {T : String} (h : tyN μ d = some T) : (isSub T "int" && !isSub T "bool") = isI d := by
  cases d with
  | ref l =>
    dsimp only [tyN] at h
    split at h <;> cases h <;> rfl
  | _ => cases h; rfl
theorem run_is_whole {μ : List O} {d : D} {E : Ex → List O → Prop} (h : ∃ T, tyN μ d = some T) : Wp (m_is_whole [d]) μ (fun r μ' => r = .bl (isI d) ∧ μ' = μ) E := by
  obtain ⟨T, h⟩ := h
  have e := isI_ty h
  unfold m_is_whole c_is_whole
  walk_at "mi*"
  rw [← e]
  cases isSub T "int" <;> simp
def frD : D → Bool
  | .tup [.int a, .int b] => decide (1 ≤ b) && decide (Nat.gcd a.natAbs b.natAbs = 1)
  | _ => false
/-- its type is known, and its items' -/
def Typed (μ : List O) (d : D) : Prop := (∃ T, tyN μ d = some T) ∧ ∀ ds, d = .tup ds → ∀ x ∈ ds, ∃ T, tyN μ x = some T
theorem typed_of {μ : List O} {n : Nat} {d : D} {p : PyData} (h : see μ n d = some p) : Typed μ d := by
  refine ⟨⟨_, see_ty h⟩, ?_⟩
  rintro ds rfl
  cases n with
  | zero => cases h
  | succ n =>
    have h' : (seeL (see μ n) ds).map PyData.tuple = some p := h
    cases e : seeL (see μ n) ds with
    | none => rw [e] at h'; cases h'
    | some ps =>
      clear h h'
      induction ds generalizing ps with
      | nil => intro x hx; cases hx
      | cons a r ih =>
        unfold seeL at e
        cases e1 : see μ n a with
        | none => rw [e1] at e; cases e
        | some q =>
          cases e2 : seeL (see μ n) r with
          | none => rw [e1, e2] at e; cases e
          | some qs =>
            intro x hx
            rcases List.mem_cons.mp hx with rfl | hx
            · exact ⟨_, see_ty e1⟩
            · exact ih qs e2 x hx
theorem not_tup {μ : List O} {d : D} {T : String} (h : tyN μ d = some T) (n : ∀ ds, d ≠ .tup ds) : isSub T "tuple" = false ∧ frD d = false := by
  cases d with
  | tup ds => exact (n ds rfl).elim
  | ref l =>
    dsimp only [tyN] at h
    split at h <;> cases h <;> exact ⟨rfl, rfl⟩
  | _ => cases h; exact ⟨rfl, rfl⟩
theorem frD_len {ds : List D} (h : ds.length ≠ 2) : frD (.tup ds) = false := by
  unfold frD
  split
  · next e => cases e; exact (h rfl).elim
  · rfl
theorem frD_not {x y : D} (h : isI x = false ∨ isI y = false) : frD (.tup [x, y]) = false := by
  cases x with
  | int a =>
    cases y with
    | int b => rcases h with h | h <;> cases h
    | _ => rfl
  | _ => rfl
theorem isI_int {x : D} (h : isI x = true) : ∃ a, x = .int a := by
  cases x with
  | int a => exact ⟨a, rfl⟩
  | _ => cases h
theorem run_is_fraction {μ : List O} {d : D} {E : Ex → List O → Prop} (h : Typed μ d) : Wp (m_is_fraction [d]) μ (fun r μ' => r = .bl (frD d) ∧ μ' = μ) E := by
  obtain ⟨⟨T, hT⟩, hx⟩ := h
  unfold m_is_fraction c_is_fraction
  by_cases ht : ∃ ds, d = .tup ds
  · obtain ⟨ds, rfl⟩ := ht
    have hT' : tyN μ (.tup ds) = some "tuple" := rfl
    have e9 : isSub "tuple" "tuple" = true := rfl
    by_cases hl : ds.length = 2
    · obtain ⟨x, y, rfl⟩ : ∃ x y, ds = [x, y] := by
        match ds, hl with
        | [x, y], _ => exact ⟨x, y, rfl⟩
      clear hT
      walk_at "mi*"
      refine Wp.go (run_is_whole (hx _ rfl x (by simp))) ?_
      rintro _ _ ⟨rfl, rfl⟩
      have hy := hx _ rfl y (by simp)
      clear hx
      cases hi : isI x with
      | false =>
        rw [frD_not (.inl hi)]
        walk_at "mi*"
      | true =>
        obtain ⟨a, rfl⟩ := isI_int hi
        walk_at "mi*"
        refine Wp.go (run_is_whole hy) ?_
        rintro _ _ ⟨rfl, rfl⟩
        cases hj : isI y with
        | false =>
          rw [frD_not (.inr hj)]
          walk_at "mi*"
        | true =>
          obtain ⟨b, rfl⟩ := isI_int hj
          by_cases hb : 1 ≤ b
          · obtain ⟨c, rfl⟩ : ∃ c : Nat, b = c := ⟨b.toNat, by omega⟩
            walk_at "mi*"
            refine Wp.go (run_shared _ _ _ _) ?_
            rintro _ _ ⟨rfl, rfl⟩
            walk_at "mi*"
            simp [frD, hb]
            omega
          · walk_at "mi*"
            simp [frD, hb]
    · have hl' : ¬ (ds.length : Int) = 2 := by omega
      rw [frD_len hl]
      clear hT
      walk_at "mi*"
  · obtain ⟨e1, e2⟩ := not_tup hT fun ds e => ht ⟨ds, e⟩
    rw [e2]
    clear e2
    walk_at "mi*"
end Std
/-! S2: sums and products of fractions, polynomials. -/
namespace Std
open PySem L2 PyProof.Rows Mi
local macro_rules | `(tactic| walk_at "mi") => `(tactic| simp only [wp_mir, ws_cons, ws_nil, nx_nx, nx_rt, nx_bk, nx_ct, nx_er, fn_nx, fn_rt, fn_er, ws_asgN, ws_asgT, gs_cons, gs_nil, ex_tup, ex_pr, ws_asgS, ws_of, ws_some, wp_bnd, wp_ret, wp_new, ws_ite, wp_iteB, wp_stop,
  r_var, r_int, r_bl, r_str, r_non, r_glo, r_nil, r_cons, r_tup, r_lst, r_bin, r_cmp, r_tcmp, r_tval, r_tnot, r_and1, r_or1, r_and, r_or, r_if, r_vone, r_vand, r_vor, r_not, r_neg, r_chain, r_tchain,
  r_ix, r_slice, r_ono, r_oyes, r_B, r_call, r_call0, r_isi, s_expr, s_ret, s_if, s_par, s_while, s_for, s_brk, s_cont, s_pass, s_retN, i_T, i_L, i_A, i_En, i_Zp, r_rev, r_J, j_nil, j_lit, j_fmt, s_par3, o_isBt, o_isBn, o_fmtI, o_fmtS, o_put, o_sw, o_ls, o_part, r_callK, r_kNil, r_kCons, r_m0, r_m, f_nil, f_one, s_asg2, s_setLc, r_lc, o_revT, o_revL, o_max, o_min, o_all, o_any, o_aT, o_aF, o_aL, o_aS, o_enT, o_enL, o_zipT, o_zipL, fuelE, fuelZ, fuelS, o_mulL, o_mulS, o_isTL, o_isTS, wp_app, wp_pop, i_R1, i_R2,
  List.map_cons, List.map_nil, List.replicate_succ, List.replicate_zero, List.nil_append, List.cons_append, List.length_cons, List.length_nil, Nat.reduceAdd, Nat.add_assoc, Nat.zero_add, Nat.add_zero, Nat.reduceSub, true_and, getV, List.getElem?_cons_zero, List.getElem?_cons_succ, List.set_cons_zero, List.set_cons_succ,
  o_add, o_addS, o_addT, o_addL, o_sub, o_mul, o_fdiv, o_mod, o_pow, o_neg, o_lt, o_le, o_gt, o_ge, o_eq, o_eqS, o_eqB, o_ne, o_neS, o_neB, o_is, o_isn, o_asB, o_asI, o_lenT, o_lenF, o_lenL, o_abs', o_int, o_intB, o_str, o_slT, o_slF, o_slL, o_listT, o_listF, o_listL, o_tupT, o_tupL, o_newL, o_seqF, o_seqL, o_tupW, o_rng1, o_rng2, fuelOf, fuelL, fuelR, wp_isi, tyN_int, tyN_bl, tyN_str, tyN_non, tyN_tup, tyN_fro, iS_NoneType, iS_bool, iS_int, iS_str, iS_tuple, iS_list, iS_dict, List.length_append, List.length_map, List.length_set,
  wp_lstE, setL_E, ex_lst, ex_n, at_off, at_off0, wp_withNew, o_keyI, o_keyS, wp_setE, set_off, set_off0, r_dict1, trn_nx, trn_ct, trn_bk, trn_rt, trn_er, List.append_assoc, List.getElem?_append_left, List.set_set, List.getElem?_set_self, wp_need, ix_ref, Mi.ix_tup, ix_fro, atD_0, atD_1, atD_2, decide_eq_true_eq, Bool.false_eq_true, false_implies, not_false_eq_true, true_implies, not_true_eq_false, Bool.true_eq_false, and_true, if_true, if_false, Int.cast_ofNat_Int, Int.reduceEq, Int.reduceLT, Int.reduceLE, decide_true, decide_false, Bool.not_true, Bool.not_false, reduceIte, eq_self, Nat.reduceLeDiff])
local macro_rules | `(tactic| walk_at "mi*") => `(tactic| simp only [wp_mir, ws_cons, ws_nil, nx_nx, nx_rt, nx_bk, nx_ct, nx_er, fn_nx, fn_rt, fn_er, ws_asgN, ws_asgT, gs_cons, gs_nil, ex_tup, ex_pr, ws_asgS, ws_of, ws_some, wp_bnd, wp_ret, wp_new, ws_ite, wp_iteB, wp_stop,
  r_var, r_int, r_bl, r_str, r_non, r_glo, r_nil, r_cons, r_tup, r_lst, r_bin, r_cmp, r_tcmp, r_tval, r_tnot, r_and1, r_or1, r_and, r_or, r_if, r_vone, r_vand, r_vor, r_not, r_neg, r_chain, r_tchain,
  r_ix, r_slice, r_ono, r_oyes, r_B, r_call, r_call0, r_isi, s_expr, s_ret, s_if, s_par, s_while, s_for, s_brk, s_cont, s_pass, s_retN, i_T, i_L, i_A, i_En, i_Zp, r_rev, r_J, j_nil, j_lit, j_fmt, s_par3, o_isBt, o_isBn, o_fmtI, o_fmtS, o_put, o_sw, o_ls, o_part, r_callK, r_kNil, r_kCons, r_m0, r_m, f_nil, f_one, s_asg2, s_setLc, r_lc, o_revT, o_revL, o_max, o_min, o_all, o_any, o_aT, o_aF, o_aL, o_aS, o_enT, o_enL, o_zipT, o_zipL, fuelE, fuelZ, fuelS, o_mulL, o_mulS, o_isTL, o_isTS, wp_app, wp_pop, i_R1, i_R2,
  List.map_cons, List.map_nil, List.replicate_succ, List.replicate_zero, List.nil_append, List.cons_append, List.length_cons, List.length_nil, Nat.reduceAdd, Nat.add_assoc, Nat.zero_add, Nat.add_zero, Nat.reduceSub, true_and, getV, List.getElem?_cons_zero, List.getElem?_cons_succ, List.set_cons_zero, List.set_cons_succ,
  o_add, o_addS, o_addT, o_addL, o_sub, o_mul, o_fdiv, o_mod, o_pow, o_neg, o_lt, o_le, o_gt, o_ge, o_eq, o_eqS, o_eqB, o_ne, o_neS, o_neB, o_is, o_isn, o_asB, o_asI, o_lenT, o_lenF, o_lenL, o_abs', o_int, o_intB, o_str, o_slT, o_slF, o_slL, o_listT, o_listF, o_listL, o_tupT, o_tupL, o_newL, o_seqF, o_seqL, o_tupW, o_rng1, o_rng2, fuelOf, fuelL, fuelR, wp_isi, tyN_int, tyN_bl, tyN_str, tyN_non, tyN_tup, tyN_fro, iS_NoneType, iS_bool, iS_int, iS_str, iS_tuple, iS_list, iS_dict, List.length_append, List.length_map, List.length_set,
  wp_lstE, setL_E, ex_lst, ex_n, at_off, at_off0, wp_withNew, o_keyI, o_keyS, wp_setE, set_off, set_off0, r_dict1, trn_nx, trn_ct, trn_bk, trn_rt, trn_er, List.append_assoc, List.getElem?_append_left, List.set_set, List.getElem?_set_self, wp_need, ix_ref, Mi.ix_tup, ix_fro, atD_0, atD_1, atD_2, decide_eq_true_eq, Bool.false_eq_true, false_implies, not_false_eq_true, true_implies, not_true_eq_false, Bool.true_eq_false, and_true, if_true, if_false, Int.cast_ofNat_Int, Int.reduceEq, Int.reduceLT, Int.reduceLE, decide_true, decide_false, Bool.not_true, Bool.not_false, reduceIte, eq_self, Nat.reduceLeDiff, *])
def k_NOUGHT : D := (.tup [(.int 0), (.int 1)])
def c_plus : CB := (bCons (sAsg (gN 2) (cCall "shared_by" m_shared_by (aCons (cIx (cVar 0) (cInt 1)) (aCons (cIx (cVar 1) (cInt 1)) aNil))))
  (bCons (sIf (tCmpC .Eq eqD (cVar 2) (cInt 1)) (bCons (sRet (cTup (aCons (cBin .Add addD (cBin .Mult mulD (cIx (cVar 0) (cInt 0)) (cIx (cVar 1) (cInt 1))) (cBin .Mult mulD (cIx (cVar 1) (cInt 0)) (cIx (cVar 0) (cInt 1)))) (aCons (cBin .Mult mulD (cIx (cVar 0) (cInt 1)) (cIx (cVar 1) (cInt 1))) aNil))))
  bNil) bNil)
  (bCons (sAsg (gN 3) (cBin .Add addD (cBin .Mult mulD (cIx (cVar 0) (cInt 0)) (cBin .FloorDiv fdivD (cIx (cVar 1) (cInt 1)) (cVar 2))) (cBin .Mult mulD (cIx (cVar 1) (cInt 0)) (cBin .FloorDiv fdivD (cIx (cVar 0) (cInt 1)) (cVar 2)))))
  (bCons (sAsg (gN 4) (cCall "shared_by" m_shared_by (aCons (cB "abs" absD (aCons (cVar 3) aNil)) (aCons (cVar 2) aNil))))
  (bCons (sRet (cTup (aCons (cBin .FloorDiv fdivD (cVar 3) (cVar 4)) (aCons (cBin .Mult mulD (cBin .FloorDiv fdivD (cIx (cVar 0) (cInt 1)) (cVar 2)) (cBin .FloorDiv fdivD (cIx (cVar 1) (cInt 1)) (cVar 4))) aNil))))
  bNil)))))
def m_plus : List D → M D := mir 5 2 c_plus.run
def c_times : CB := (bCons (sPar 2 3 (cCall "shared_by" m_shared_by (aCons (cB "abs" absD (aCons (cIx (cVar 0) (cInt 0)) aNil)) (aCons (cIx (cVar 1) (cInt 1)) aNil))) (cCall "shared_by" m_shared_by (aCons (cB "abs" absD (aCons (cIx (cVar 1) (cInt 0)) aNil)) (aCons (cIx (cVar 0) (cInt 1)) aNil))))
  (bCons (sRet (cTup (aCons (cBin .Mult mulD (cBin .FloorDiv fdivD (cIx (cVar 0) (cInt 0)) (cVar 2)) (cBin .FloorDiv fdivD (cIx (cVar 1) (cInt 0)) (cVar 3))) (aCons (cBin .Mult mulD (cBin .FloorDiv fdivD (cIx (cVar 0) (cInt 1)) (cVar 3)) (cBin .FloorDiv fdivD (cIx (cVar 1) (cInt 1)) (cVar 2))) aNil))))
  bNil))
def m_times : List D → M D := mir 4 2 c_times.run
def c_trimmed : CB := (bCons (sAsg (gN 1) (cB "list" listD (aCons (cVar 0) aNil)))
  (bCons (sWhile (fun _ => 100000) (wAnd (tCmpC .Gt gtD (cB "len" lenD (aCons (cVar 1) aNil)) (cInt 0)) (wAnd1 (tCmpC .Eq eqD (cIx (cVar 1) (cNeg (cInt 1))) (cGlo "NOUGHT" k_NOUGHT)))) (bCons (sExpr (cM0 "list" "pop" popD (cVar 1)))
  bNil))
  (bCons (sRet (cB "tuple" tupleD (aCons (cVar 1) aNil)))
  bNil)))
def m_trimmed : List D → M D := mir 2 1 c_trimmed.run
def c_part_of : CB := (bCons (sRet (cIf (tCmpC .Lt ltD (cVar 1) (cB "len" lenD (aCons (cVar 0) aNil))) (cIx (cVar 0) (cVar 1)) (cGlo "NOUGHT" k_NOUGHT)))
  bNil)
def m_part_of : List D → M D := mir 2 2 c_part_of.run
def c_poly_plus : CB := (bCons (sRet (cCall "trimmed" m_trimmed (aCons (cLc (iR1 (cB "max" maxD (aCons (cB "len" lenD (aCons (cVar 0) aNil)) (aCons (cB "len" lenD (aCons (cVar 1) aNil)) aNil)))) (gN 2) fNil (cCall "plus" m_plus (aCons (cCall "part_of" m_part_of (aCons (cVar 0) (aCons (cVar 2) aNil))) (aCons (cCall "part_of" m_part_of (aCons (cVar 1) (aCons (cVar 2) aNil))) aNil))) [("at", 2)]) aNil)))
  bNil)
def m_poly_plus : List D → M D := mir 3 2 c_poly_plus.run
def c_poly_times : CB := (bCons (sAsg (gN 2) (cBin .Mult mulD (cLst (aCons (cGlo "NOUGHT" k_NOUGHT) aNil)) (cBin .Add addD (cB "len" lenD (aCons (cVar 0) aNil)) (cB "len" lenD (aCons (cVar 1) aNil)))))
  (bCons (sFor (gT (gsCons (gN 3) (gsCons (gN 4) gsNil)) 2) (iEn (cVar 0)) (bCons (sFor (gT (gsCons (gN 5) (gsCons (gN 6) gsNil)) 2) (iEn (cVar 1)) (bCons (sAsg (gS (cVar 2) (cBin .Add addD (cVar 3) (cVar 5))) (cCall "plus" m_plus (aCons (cIx (cVar 2) (cBin .Add addD (cVar 3) (cVar 5))) (aCons (cCall "times" m_times (aCons (cVar 4) (aCons (cVar 6) aNil))) aNil))))
  bNil))
  bNil))
  (bCons (sRet (cCall "trimmed" m_trimmed (aCons (cVar 2) aNil)))
  bNil)))
def m_poly_times : List D → M D := mir 7 2 c_poly_times.run
def c_poly_by : CB := (bCons (sRet (cCall "trimmed" m_trimmed (aCons (cLc (iA (cVar 0)) (gN 2) fNil (cCall "times" m_times (aCons (cVar 2) (aCons (cVar 1) aNil))) [("one", 2)]) aNil)))
  bNil)
def m_poly_by : List D → M D := mir 3 2 c_poly_by.run
def c_poly_at : CB := (bCons (sAsg (gN 2) (cGlo "NOUGHT" k_NOUGHT))
  (bCons (sFor (gN 3) (iA (cRev (cVar 0))) (bCons (sAsg (gN 2) (cCall "plus" m_plus (aCons (cCall "times" m_times (aCons (cVar 2) (aCons (cVar 1) aNil))) (aCons (cVar 3) aNil))))
  bNil))
  (bCons (sRet (cVar 2))
  bNil)))
def m_poly_at : List D → M D := mir 4 2 c_poly_at.run
def c_l_small : CB := (bCons (sRet (cCall "_law_made" m_l_made (aCons (cBin .Sub subD (cCall "_law_draw" m_l_draw (aCons (cVar 0) (aCons (cInt 13) aNil))) (cInt 6)) (aCons (cBin .Add addD (cInt 1) (cCall "_law_draw" m_l_draw (aCons (cVar 0) (aCons (cInt 4) aNil)))) aNil))))
  bNil)
def m_l_small : List D → M D := mir 1 1 c_l_small.run
def c_l_trim : CB := (bCons (sAsg (gN 1) (cB "list" listD (aCons (cVar 0) aNil)))
  (bCons (sWhile (fun _ => 100000) (wAnd (tCmpC .NotEq neD (cVar 1) (cLst aNil)) (wAnd1 (tCmpC .Eq eqD (cIx (cIx (cVar 1) (cNeg (cInt 1))) (cInt 0)) (cInt 0)))) (bCons (sAsg (gN 1) (cSlice (cVar 1) oNo (oYes (cNeg (cInt 1)))))
  bNil))
  (bCons (sRet (cB "tuple" tupleD (aCons (cVar 1) aNil)))
  bNil)))
def m_l_trim : List D → M D := mir 2 1 c_l_trim.run
def c_l_poly : CB := (bCons (sSetLc 2 (iR1 (cCall "_law_draw" m_l_draw (aCons (cVar 0) (aCons (cBin .Add addD (cVar 1) (cInt 1)) aNil)))) (gN 3) fNil (cIx (cLst (aCons (cCall "_law_small" m_l_small (aCons (cVar 0) aNil)) (aCons (cTup (aCons (cInt 0) (aCons (cInt 1) aNil))) aNil))) (cB "int" intTx (aCons (cCmp .Eq eqD (cCall "_law_draw" m_l_draw (aCons (cVar 0) (aCons (cInt 4) aNil))) (cInt 0)) aNil))) [("_law_k", 3)])
  (bCons (sRet (cCall "_law_trim" m_l_trim (aCons (cVar 2) aNil)))
  bNil))
def m_l_poly : List D → M D := mir 4 2 c_l_poly.run
def c_l_add : CB := (bCons (sRet (cCall "_law_made" m_l_made (aCons (cBin .Add addD (cBin .Mult mulD (cIx (cVar 0) (cInt 0)) (cIx (cVar 1) (cInt 1))) (cBin .Mult mulD (cIx (cVar 1) (cInt 0)) (cIx (cVar 0) (cInt 1)))) (aCons (cBin .Mult mulD (cIx (cVar 0) (cInt 1)) (cIx (cVar 1) (cInt 1))) aNil))))
  bNil)
def m_l_add : List D → M D := mir 2 2 c_l_add.run
def c_l_mul : CB := (bCons (sRet (cCall "_law_made" m_l_made (aCons (cBin .Mult mulD (cIx (cVar 0) (cInt 0)) (cIx (cVar 1) (cInt 0))) (aCons (cBin .Mult mulD (cIx (cVar 0) (cInt 1)) (cIx (cVar 1) (cInt 1))) aNil))))
  bNil)
def m_l_mul : List D → M D := mir 2 2 c_l_mul.run
def c_l_sum : CB := (bCons (sAsg (gN 2) (cLst aNil))
  (bCons (sFor (gN 3) (iR1 (cB "max" maxD (aCons (cB "len" lenD (aCons (cVar 0) aNil)) (aCons (cB "len" lenD (aCons (cVar 1) aNil)) aNil)))) (bCons (sExpr (cM "list" "append" appD (cVar 2) (aCons (cCall "_law_add" m_l_add (aCons (cIx (cBin .Add addD (cB "list" listD (aCons (cVar 0) aNil)) (cBin .Mult mulD (cLst (aCons (cTup (aCons (cInt 0) (aCons (cInt 1) aNil))) aNil)) (cInt 99))) (cVar 3)) (aCons (cIx (cBin .Add addD (cB "list" listD (aCons (cVar 1) aNil)) (cBin .Mult mulD (cLst (aCons (cTup (aCons (cInt 0) (aCons (cInt 1) aNil))) aNil)) (cInt 99))) (cVar 3)) aNil))) aNil)))
  bNil))
  (bCons (sRet (cCall "_law_trim" m_l_trim (aCons (cVar 2) aNil)))
  bNil)))
def m_l_sum : List D → M D := mir 4 2 c_l_sum.run
def c_l_product : CB := (bCons (sAsg (gN 2) (cBin .Mult mulD (cLst (aCons (cTup (aCons (cInt 0) (aCons (cInt 1) aNil))) aNil)) (cBin .Add addD (cB "len" lenD (aCons (cVar 0) aNil)) (cB "len" lenD (aCons (cVar 1) aNil)))))
  (bCons (sFor (gT (gsCons (gN 3) (gsCons (gN 4) gsNil)) 2) (iEn (cVar 0)) (bCons (sFor (gT (gsCons (gN 5) (gsCons (gN 6) gsNil)) 2) (iEn (cVar 1)) (bCons (sAsg (gS (cVar 2) (cBin .Add addD (cVar 3) (cVar 5))) (cCall "_law_add" m_l_add (aCons (cIx (cVar 2) (cBin .Add addD (cVar 3) (cVar 5))) (aCons (cCall "_law_mul" m_l_mul (aCons (cVar 4) (aCons (cVar 6) aNil))) aNil))))
  bNil))
  bNil))
  (bCons (sRet (cCall "_law_trim" m_l_trim (aCons (cVar 2) aNil)))
  bNil)))
def m_l_product : List D → M D := mir 7 2 c_l_product.run
def c_l_value : CB := (bCons (sAsg2 (gT (gsCons (gN 3) (gsCons (gN 4) gsNil)) 2) (cTup (aCons (cTup (aCons (cInt 0) (aCons (cInt 1) aNil))) (aCons (cTup (aCons (cInt 1) (aCons (cInt 1) aNil))) aNil))))
  (bCons (sFor (gN 2) (iA (cVar 0)) (bCons (sPar 3 4 (cCall "_law_add" m_l_add (aCons (cVar 3) (aCons (cCall "_law_mul" m_l_mul (aCons (cVar 2) (aCons (cVar 4) aNil))) aNil))) (cCall "_law_mul" m_l_mul (aCons (cVar 4) (aCons (cVar 1) aNil))))
  bNil))
  (bCons (sRet (cVar 3))
  bNil)))
def m_l_value : List D → M D := mir 5 2 c_l_value.run
/-! ### fractions as rational numbers -/
def fr (q : Rat) : D := .tup [.int q.num, .int q.den]
theorem fr_of {q : Rat} {n d : Int} (hd : 0 < d) (hc : Nat.gcd n.natAbs d.natAbs = 1) (hv : q = Rat.divInt n d) : D.tup [.int n, .int d] = fr q := by
  have e : (⟨n, d.natAbs, by omega, hc⟩ : Rat) = q := by
    rw [Rat.mk_eq_divInt, hv]
    congr 1
    omega
  unfold fr
  rw [← e]
  have : ((d.natAbs : Nat) : Int) = d := by omega
  simp only [this]
theorem val_eq {q : Rat} {n d : Int} (hd : d ≠ 0) (h : q = Rat.divInt n d) : q.num * d = n * q.den := by
  have h0 : (q.den : Int) ≠ 0 := by have := q.den_nz; omega
  rw [← Rat.divInt_eq_divInt_iff h0 hd, ← h, Rat.num_divInt_den]
theorem red_le {q : Rat} {n d : Int} (hd : d ≠ 0) (h : q = Rat.divInt n d) : q.num.natAbs ≤ n.natAbs ∧ q.den ≤ d.natAbs := by
  have e := congrArg Int.natAbs (val_eq hd h)
  rw [Int.natAbs_mul, Int.natAbs_mul, Int.natAbs_natCast] at e
  have hc := q.reduced
  constructor
  · by_cases h0 : n.natAbs = 0
    · rw [h0, Nat.zero_mul] at e
      rcases Nat.mul_eq_zero.mp e with z | z <;> omega
    · have : q.num.natAbs ∣ n.natAbs := hc.dvd_of_dvd_mul_right ⟨d.natAbs, e.symm⟩
      exact Nat.le_of_dvd (by omega) this
  · have : q.den ∣ d.natAbs := hc.symm.dvd_of_dvd_mul_left ⟨n.natAbs, by rw [e, Nat.mul_comm]⟩
    exact Nat.le_of_dvd (by omega) this
/-- both parts below 2 ^ B -/
def Sm (B : Nat) (q : Rat) : Prop := q.num.natAbs < 2 ^ B ∧ q.den < 2 ^ B
theorem pow_le {A B : Nat} (h : A ≤ B) : 2 ^ A ≤ 2 ^ B := Nat.pow_le_pow_right (by omega) h
theorem Sm.up {A B : Nat} {q : Rat} (h : Sm A q) (hb : A ≤ B) : Sm B q := ⟨Nat.lt_of_lt_of_le h.1 (pow_le hb), Nat.lt_of_lt_of_le h.2 (pow_le hb)⟩
theorem mul_lt {A B a b : Nat} (h1 : a < 2 ^ A) (h2 : b < 2 ^ B) : a * b < 2 ^ (A + B) := by
  rw [Nat.pow_add]
  by_cases h0 : b = 0
  · subst h0
    rw [Nat.mul_zero]
    exact Nat.mul_pos (Nat.pow_pos (by omega)) (Nat.pow_pos (by omega))
  · exact Nat.lt_of_lt_of_le (Nat.mul_lt_mul_of_pos_right h1 (by omega)) (Nat.mul_le_mul (Nat.le_refl _) (by omega))
theorem Sm.of {B : Nat} {q : Rat} {n d : Int} (hd : d ≠ 0) (h : q = Rat.divInt n d) (hn : n.natAbs < 2 ^ B) (hb : d.natAbs < 2 ^ B) : Sm B q :=
  ⟨Nat.lt_of_le_of_lt (red_le hd h).1 hn, Nat.lt_of_le_of_lt (red_le hd h).2 hb⟩
theorem den_ne (q : Rat) : (q.den : Int) ≠ 0 := by have := q.den_nz; omega
theorem add_val (p q : Rat) : p + q = Rat.divInt (p.num * q.den + q.num * p.den) (p.den * q.den) := by
  conv => lhs; rw [← Rat.num_divInt_den p, ← Rat.num_divInt_den q]
  exact Rat.divInt_add_divInt _ _ (den_ne p) (den_ne q)
theorem mul_val (p q : Rat) : p * q = Rat.divInt (p.num * q.num) (p.den * q.den) := by
  conv => lhs; rw [← Rat.num_divInt_den p, ← Rat.num_divInt_den q]
  exact Rat.divInt_mul_divInt _ _
theorem Sm.mul {A B : Nat} {p q : Rat} (h : Sm A p) (k : Sm B q) : Sm (A + B) (p * q) := by
  refine Sm.of (Int.mul_ne_zero (den_ne p) (den_ne q)) (mul_val p q) ?_ ?_
  · rw [Int.natAbs_mul]; exact mul_lt h.1 k.1
  · rw [Int.natAbs_mul, Int.natAbs_natCast, Int.natAbs_natCast]; exact mul_lt h.2 k.2
theorem Sm.add {A B : Nat} {p q : Rat} (h : Sm A p) (k : Sm B q) : Sm (A + B + 1) (p + q) := by
  refine Sm.of (Int.mul_ne_zero (den_ne p) (den_ne q)) (add_val p q) ?_ ?_
  · have h1 := mul_lt h.1 k.2
    have h2 := mul_lt k.1 h.2
    have h3 := Int.natAbs_add_le (p.num * q.den) (q.num * p.den)
    rw [Int.natAbs_mul, Int.natAbs_mul, Int.natAbs_natCast, Int.natAbs_natCast] at h3
    rw [Nat.add_comm B A] at h2
    rw [Nat.pow_succ]
    omega
  · rw [Int.natAbs_mul, Int.natAbs_natCast, Int.natAbs_natCast]
    exact Nat.lt_of_lt_of_le (mul_lt h.2 k.2) (pow_le (by omega))
theorem Sm.neg {A : Nat} {p : Rat} (h : Sm A p) : Sm A (-p) := ⟨by rw [Rat.neg_num, Int.natAbs_neg]; exact h.1, by rw [Rat.neg_den]; exact h.2⟩
theorem log2_lt {n B : Nat} (h : n < 2 ^ B) (hB : 0 < B) : n.log2 < B := by
  by_cases h0 : n = 0
  · subst h0; simpa using hB
  · exact (Nat.log2_lt h0).mpr h
theorem mulOk_n {A B : Nat} {i j : Int} (h1 : i.natAbs < 2 ^ A) (h2 : j.natAbs < 2 ^ B) (hA : 0 < A) (hB : 0 < B) (h : A + B ≤ 1000000) : mulOk i j := .inr (by
  have := log2_lt h1 hA
  have := log2_lt h2 hB
  omega)
theorem divOk_n {A : Nat} {d : Nat} (h : d < 2 ^ A) (h0 : 0 < d) (hA : A ≤ 9000) : divOk (d : Int) := ⟨by omega, by
  rw [Int.natAbs_natCast]
  have : 0 < A := by
    rcases Nat.eq_zero_or_pos A with z | z
    · subst z; omega
    · exact z
  exact Nat.lt_of_lt_of_le (log2_lt h this) hA⟩
/-! ### made, plus, times -/
theorem made_fr {t low a b : Int} (h : low ≠ 0) (m : Made t low a b) : D.tup [.int a, .int b] = fr (Rat.divInt t low) :=
  fr_of m.pos m.low_ (by
    rw [Rat.divInt_eq_divInt_iff h (by have := m.pos; omega)]
    exact m.eq.symm)
theorem run_mk {t low : Int} {μ : List O} {E : Ex → List O → Prop} (h : low ≠ 0) (h9 : ∃ B, B ≤ 9000 ∧ 0 < B ∧ low.natAbs < 2 ^ B) :
    Wp (m_l_made [.int t, .int low]) μ (fun r μ' => r = fr (Rat.divInt t low) ∧ μ' = μ) E := by
  obtain ⟨B, hB, hB0, h9⟩ := h9
  refine (run_made h (Nat.lt_of_lt_of_le (log2_lt h9 hB0) hB)).mono ?_ fun _ _ z => z
  rintro _ _ ⟨⟨a, b, rfl, m⟩, rfl⟩
  exact ⟨made_fr h m, rfl⟩
theorem add_parts (p q : Rat) : (p.den.gcd q.den = 1 → (p + q).num = p.num * q.den + q.num * p.den ∧ (p + q).den = p.den * q.den) ∧
    (p.den.gcd q.den ≠ 1 → (p + q).num = (p.num * ↑(q.den / p.den.gcd q.den) + q.num * ↑(p.den / p.den.gcd q.den)) / ((p.num * ↑(q.den / p.den.gcd q.den) + q.num * ↑(p.den / p.den.gcd q.den)).natAbs.gcd (p.den.gcd q.den) : Nat) ∧
      (p + q).den = (p.den / p.den.gcd q.den * q.den) / (p.num * ↑(q.den / p.den.gcd q.den) + q.num * ↑(p.den / p.den.gcd q.den)).natAbs.gcd (p.den.gcd q.den)) := by
  have e : p + q = Rat.add p q := rfl
  rw [e]
  unfold Rat.add
  constructor
  · intro h
    simp [h]
  · intro h
    simp only [h]
    simp [Rat.maybeNormalize_eq]
theorem mul_parts (p q : Rat) : (p * q).num = p.num / (p.num.natAbs.gcd q.den : Nat) * (q.num / (q.num.natAbs.gcd p.den : Nat)) ∧ (p * q).den = p.den / (q.num.natAbs.gcd p.den) * (q.den / (p.num.natAbs.gcd q.den)) := by
  have e : p * q = Rat.mul p q := rfl
  rw [e]
  unfold Rat.mul
  simp
theorem fdiv_nat (a b : Nat) : Int.fdiv (a : Int) (b : Int) = ((a / b : Nat) : Int) := by
  rw [Int.fdiv_eq_ediv_of_nonneg _ (by omega)]
  simp
theorem fdiv_int (a : Int) (b : Nat) : Int.fdiv a (b : Int) = a / (b : Int) := Int.fdiv_eq_ediv_of_nonneg _ (by omega)
theorem run_plus {A : Nat} {p q : Rat} {μ : List O} {E : Ex → List O → Prop} (hp : Sm A p) (hq : Sm A q) (h0 : 0 < A) (hA : A ≤ 9000) : Wp (m_plus [fr p, fr q]) μ (fun r μ' => r = fr (p + q) ∧ μ' = μ) E := by
  unfold m_plus c_plus fr
  have hs : sizeLine = 16777216 := sizeLine_eq
  walk_at "mi*"
  refine Wp.go (run_shared _ _ _ _) ?_
  rintro _ _ ⟨rfl, rfl⟩
  have hg : 0 < p.den.gcd q.den := Nat.gcd_pos_of_pos_left _ p.den_pos
  have dg : p.den.gcd q.den < 2 ^ A := Nat.lt_of_le_of_lt (Nat.le_of_dvd p.den_pos (Nat.gcd_dvd_left _ _)) hp.2
  have kd := divOk_n dg hg hA
  obtain ⟨P1, P2⟩ := add_parts p q
  by_cases h : p.den.gcd q.den = 1
  · have h' : ((p.den.gcd q.den : Nat) : Int) = 1 := by omega
    obtain ⟨e1, e2⟩ := P1 h
    have m1 : mulOk p.num q.den := mulOk_n (A := A) (B := A) hp.1 (by rw [Int.natAbs_natCast]; exact hq.2) h0 h0 (by omega)
    have m2 : mulOk q.num p.den := mulOk_n (A := A) (B := A) hq.1 (by rw [Int.natAbs_natCast]; exact hp.2) h0 h0 (by omega)
    have m3 : mulOk p.den q.den := mulOk_n (A := A) (B := A) (by rw [Int.natAbs_natCast]; exact hp.2) (by rw [Int.natAbs_natCast]; exact hq.2) h0 h0 (by omega)
    walk_at "mi*"
    rw [Int.natCast_mul]
  · have h' : ¬ ((p.den.gcd q.den : Nat) : Int) = 1 := by omega
    obtain ⟨e1, e2⟩ := P2 h
    have d1 : q.den / p.den.gcd q.den < 2 ^ A := Nat.lt_of_le_of_lt (Nat.div_le_self _ _) hq.2
    have d2 : p.den / p.den.gcd q.den < 2 ^ A := Nat.lt_of_le_of_lt (Nat.div_le_self _ _) hp.2
    have m1 : mulOk p.num (q.den / p.den.gcd q.den : Nat) := mulOk_n (A := A) (B := A) hp.1 (by rw [Int.natAbs_natCast]; exact d1) h0 h0 (by omega)
    have m2 : mulOk q.num (p.den / p.den.gcd q.den : Nat) := mulOk_n (A := A) (B := A) hq.1 (by rw [Int.natAbs_natCast]; exact d2) h0 h0 (by omega)
    walk_at "mi*"
    simp only [fdiv_nat]
    refine ⟨m1, m2, ?_⟩
    generalize hz : p.num * ↑(q.den / p.den.gcd q.den) + q.num * ↑(p.den / p.den.gcd q.den) = z at e1 e2 ⊢
    refine Wp.go (run_shared _ _ _ _) ?_
    rintro _ _ ⟨rfl, rfl⟩
    have hm : 0 < z.natAbs.gcd (p.den.gcd q.den) := Nat.gcd_pos_of_pos_right _ hg
    have dm : z.natAbs.gcd (p.den.gcd q.den) ∣ q.den := Nat.dvd_trans (Nat.gcd_dvd_right _ _) (Nat.gcd_dvd_right _ _)
    have km := divOk_n (d := z.natAbs.gcd (p.den.gcd q.den)) (Nat.lt_of_le_of_lt (Nat.le_of_dvd hg (Nat.gcd_dvd_right _ _)) dg) hm hA
    have m3 : mulOk (p.den / p.den.gcd q.den : Nat) (q.den / z.natAbs.gcd (p.den.gcd q.den) : Nat) := mulOk_n (A := A) (B := A) (by rw [Int.natAbs_natCast]; exact d2)
      (by rw [Int.natAbs_natCast]; exact Nat.lt_of_le_of_lt (Nat.div_le_self _ _) hq.2) h0 h0 (by omega)
    walk_at "mi*"
    simp only [fdiv_nat, fdiv_int]
    refine ⟨m3, ?_⟩
    rw [Nat.mul_div_assoc _ dm, Int.natCast_mul]
    simp only [Int.natCast_ediv]
theorem run_times {A : Nat} {p q : Rat} {μ : List O} {E : Ex → List O → Prop} (hp : Sm A p) (hq : Sm A q) (h0 : 0 < A) (hA : A ≤ 9000) : Wp (m_times [fr p, fr q]) μ (fun r μ' => r = fr (p * q) ∧ μ' = μ) E := by
  unfold m_times c_times fr
  have hs : sizeLine = 16777216 := sizeLine_eq
  walk_at "mi*"
  refine Wp.go (run_shared _ _ _ _) ?_
  rintro _ _ ⟨rfl, rfl⟩
  walk_at "mi*"
  refine Wp.go (run_shared _ _ _ _) ?_
  rintro _ _ ⟨rfl, rfl⟩
  obtain ⟨e1, e2⟩ := mul_parts p q
  have g1 : 0 < p.num.natAbs.gcd q.den := Nat.gcd_pos_of_pos_right _ q.den_pos
  have g2 : 0 < q.num.natAbs.gcd p.den := Nat.gcd_pos_of_pos_right _ p.den_pos
  have k1 := divOk_n (d := p.num.natAbs.gcd q.den) (Nat.lt_of_le_of_lt (Nat.le_of_dvd q.den_pos (Nat.gcd_dvd_right _ _)) hq.2) g1 hA
  have k2 := divOk_n (d := q.num.natAbs.gcd p.den) (Nat.lt_of_le_of_lt (Nat.le_of_dvd p.den_pos (Nat.gcd_dvd_right _ _)) hp.2) g2 hA
  have ab : ∀ (x : Int) (y : Nat), (x / (y : Int)).natAbs ≤ x.natAbs := fun x y => Int.natAbs_ediv_le_natAbs x y
  have m1 : mulOk (p.num / (p.num.natAbs.gcd q.den : Nat)) (q.num / (q.num.natAbs.gcd p.den : Nat)) := mulOk_n (A := A) (B := A) (Nat.lt_of_le_of_lt (ab _ _) hp.1) (Nat.lt_of_le_of_lt (ab _ _) hq.1) h0 h0 (by omega)
  have m2 : mulOk (p.den / (q.num.natAbs.gcd p.den) : Nat) (q.den / (p.num.natAbs.gcd q.den) : Nat) := mulOk_n (A := A) (B := A) (by rw [Int.natAbs_natCast]; exact Nat.lt_of_le_of_lt (Nat.div_le_self _ _) hp.2)
    (by rw [Int.natAbs_natCast]; exact Nat.lt_of_le_of_lt (Nat.div_le_self _ _) hq.2) h0 h0 (by omega)
  walk_at "mi*"
  simp only [fdiv_nat, fdiv_int]
  refine ⟨m1, m2, ?_⟩
  rw [Int.natCast_mul]
  simp only [Int.natCast_ediv]
theorem fr0 : fr 0 = .tup [.int 0, .int 1] := rfl
theorem fr1 : fr 1 = .tup [.int 1, .int 1] := rfl
theorem nought : k_NOUGHT = fr 0 := rfl
theorem fr_inj {p q : Rat} (h : fr p = fr q) : p = q := by
  unfold fr at h
  simp only [D.tup.injEq, List.cons.injEq, D.int.injEq, and_true] at h
  exact Rat.ext h.1 (by omega)
theorem run_ladd {A : Nat} {p q : Rat} {μ : List O} {E : Ex → List O → Prop} (hp : Sm A p) (hq : Sm A q) (h0 : 0 < A) (hA : A ≤ 4500) : Wp (m_l_add [fr p, fr q]) μ (fun r μ' => r = fr (p + q) ∧ μ' = μ) E := by
  unfold m_l_add c_l_add
  rw [fr, fr]
  have m1 : mulOk p.num q.den := mulOk_n (A := A) (B := A) hp.1 (by rw [Int.natAbs_natCast]; exact hq.2) h0 h0 (by omega)
  have m2 : mulOk q.num p.den := mulOk_n (A := A) (B := A) hq.1 (by rw [Int.natAbs_natCast]; exact hp.2) h0 h0 (by omega)
  have m3 : mulOk p.den q.den := mulOk_n (A := A) (B := A) (by rw [Int.natAbs_natCast]; exact hp.2) (by rw [Int.natAbs_natCast]; exact hq.2) h0 h0 (by omega)
  walk_at "mi*"
  have hd := Int.mul_ne_zero (den_ne p) (den_ne q)
  refine (run_mk hd ?_).mono ?_ fun _ _ z => z
  · refine ⟨A + A, by omega, by omega, ?_⟩
    rw [Int.natAbs_mul, Int.natAbs_natCast, Int.natAbs_natCast]
    exact mul_lt hp.2 hq.2
  · rintro _ _ ⟨rfl, rfl⟩
    exact ⟨by rw [← add_val], rfl⟩
theorem run_lmul {A : Nat} {p q : Rat} {μ : List O} {E : Ex → List O → Prop} (hp : Sm A p) (hq : Sm A q) (h0 : 0 < A) (hA : A ≤ 4500) : Wp (m_l_mul [fr p, fr q]) μ (fun r μ' => r = fr (p * q) ∧ μ' = μ) E := by
  unfold m_l_mul c_l_mul
  rw [fr, fr]
  have m1 : mulOk p.num q.num := mulOk_n (A := A) (B := A) hp.1 hq.1 h0 h0 (by omega)
  have m3 : mulOk p.den q.den := mulOk_n (A := A) (B := A) (by rw [Int.natAbs_natCast]; exact hp.2) (by rw [Int.natAbs_natCast]; exact hq.2) h0 h0 (by omega)
  walk_at "mi*"
  have hd := Int.mul_ne_zero (den_ne p) (den_ne q)
  refine (run_mk hd ?_).mono ?_ fun _ _ z => z
  · refine ⟨A + A, by omega, by omega, ?_⟩
    rw [Int.natAbs_mul, Int.natAbs_natCast, Int.natAbs_natCast]
    exact mul_lt hp.2 hq.2
  · rintro _ _ ⟨rfl, rfl⟩
    exact ⟨by rw [← mul_val], rfl⟩
/-! ### polynomials -/
def frs (ps : List Rat) : List D := ps.map fr
def trimR : List Rat → List Rat
  | [] => []
  | p :: r => match trimR r with
    | [] => if p = 0 then [] else [p]
    | q :: s => p :: q :: s
theorem trim_snoc0 : ∀ ps : List Rat, trimR (ps ++ [0]) = trimR ps
  | [] => rfl
  | p :: r => by
    show (match trimR (r ++ [0]) with | [] => _ | q :: s => _) = _
    rw [trim_snoc0 r]
    rfl
theorem trim_snoc {q : Rat} (h : q ≠ 0) : ∀ ps : List Rat, trimR (ps ++ [q]) = ps ++ [q]
  | [] => by simp [trimR, h]
  | p :: r => by
    show (match trimR (r ++ [q]) with | [] => _ | q :: s => _) = _
    rw [trim_snoc h r]
    cases r <;> rfl
theorem trim_mem : ∀ {ps : List Rat} {x : Rat}, x ∈ trimR ps → x ∈ ps
  | p :: r, x, h => by
    unfold trimR at h
    split at h
    · split at h
      · cases h
      · rw [List.mem_singleton.mp h]; exact List.mem_cons_self
    · rename_i q s e
      rcases List.mem_cons.mp h with rfl | h
      · exact List.mem_cons_self
      · exact List.mem_cons_of_mem _ (trim_mem (by rw [e]; exact h))
theorem trim_len : ∀ ps : List Rat, (trimR ps).length ≤ ps.length
  | [] => Nat.le_refl _
  | p :: r => by
    have h := trim_len r
    unfold trimR
    split
    · split <;> simp
    · rename_i q s e
      rw [e] at h
      simp only [List.length_cons] at h ⊢
      omega
/-- the last one looked at -/
theorem eqv_fr (p q : Rat) : eqD (fr p) (fr q) = M.ret (.bl (decide (p = q))) := by
  funext μ
  have h1 : see μ 65 (fr p) = some (.tuple [.int p.num, .int p.den]) := rfl
  have h2 : see μ 65 (fr q) = some (.tuple [.int q.num, .int q.den]) := rfl
  show eqvD false (fr p) (fr q) μ = _
  unfold eqvD
  rw [h1, h2]
  have s1 : ∀ a b : Int, SeqAt.shaped (.tuple [.int a, .int b]) = true := fun a b => rfl
  simp only [s1, and_self, if_true, Bool.false_eq_true, if_false]
  have e : PyData.eqv (.tuple [.int p.num, .int p.den]) (.tuple [.int q.num, .int q.den]) = decide (p = q) := by
    have e1 : PyData.eqv (.tuple [.int p.num, .int p.den]) (.tuple [.int q.num, .int q.den]) = (p.num == q.num && (((p.den : Nat) : Int) == ((q.den : Nat) : Int) && true)) := by
      simp [PyData.eqv, PyData.eqvAll]
    rw [e1]
    by_cases h : p = q
    · subst h; simp
    · rw [decide_eq_false h]
      by_cases hn : p.num = q.num
      · have hd : p.den ≠ q.den := fun z => h (Rat.ext hn z)
        have : ¬ ((p.den : Int) = q.den) := by omega
        simp
        exact fun _ => this
      · simp [hn]
  rw [e]
  rfl
def pF (q : Rat) : PyData := .tuple [.int q.num, .int q.den]
theorem see_frs {μ : List O} {n : Nat} : ∀ ps : List Rat, seeL (see μ (n + 2)) (frs ps) = some (ps.map pF)
  | [] => rfl
  | p :: r => by
    show (match see μ (n + 2) (fr p), seeL (see μ (n + 2)) (frs r) with | some a, some b => _ | _, _ => _) = _
    rw [see_frs r]
    rfl
theorem lay_frs : ∀ ps : List Rat, PyData.canLayAll0 (ps.map pF) = true
  | [] => rfl
  | p :: r => by
    have ih := lay_frs r
    simp [PyData.canLayAll0, pF, PyData.canLay0] at ih ⊢
    exact ih
theorem dep_frs : ∀ ps : List Rat, PyData.depthAll (ps.map pF) ≤ 1
  | [] => by simp [PyData.depthAll]
  | p :: r => by
    have ih := dep_frs r
    have e : PyData.depthAll ((p :: r).map pF) = max (PyData.depth (pF p)) (PyData.depthAll (r.map pF)) := rfl
    have e2 : PyData.depth (pF p) = 1 := by simp [pF, PyData.depth, PyData.depthAll]
    rw [e, e2]
    omega
theorem shaped_l {ps : List Rat} : SeqAt.shaped (.list (ps.map pF)) = true := by
  have h1 := lay_frs ps
  have h2 := dep_frs ps
  unfold SeqAt.shaped
  have e : PyData.depth (.list (ps.map pF)) = PyData.depthAll (ps.map pF) + 1 := by simp [PyData.depth]
  have e2 : PyData.canLay0 (.list (ps.map pF)) = PyData.canLayAll0 (ps.map pF) := by simp [PyData.canLay0]
  rw [e, e2, h1]
  simp
  omega
/-- a list against the empty one -/
theorem wp_ne_nil {ps : List Rat} {a b : Nat} {μ : List O} {E : Ex → List O → Prop} {P : D → List O → Prop} (ha : μ[a]? = some (.lst (frs ps))) (hb : μ[b]? = some (.lst [])) : Wp (neD (.ref a) (.ref b)) μ P E ↔ P (.bl (!decide (ps = []))) μ := by
  have h1 : see μ 65 (.ref a) = some (.list (ps.map pF)) := by
    show (match μ[a]? with | some (.lst ds) => _ | some (.dct ds) => _ | none => _) = _
    rw [ha]
    show (seeL (see μ 64) (frs ps)).map PyData.list = _
    rw [see_frs]
    rfl
  have h2 : see μ 65 (.ref b) = some (.list []) := by
    show (match μ[b]? with | some (.lst ds) => _ | some (.dct ds) => _ | none => _) = _
    rw [hb]
    rfl
  have e : neD (.ref a) (.ref b) μ = some (.ok (.bl (!decide (ps = []))), μ) := by
    show eqvD true (.ref a) (.ref b) μ = _
    unfold eqvD
    rw [h1, h2]
    have s2 : SeqAt.shaped (.list []) = true := shaped_l (ps := [])
    simp only [shaped_l, s2, and_self, if_true]
    cases ps <;> simp [PyData.eqv, PyData.eqvAll]
  constructor
  · rintro ⟨r, μ', e2, q⟩
    rw [e] at e2
    cases e2
    exact q
  · exact fun q => ⟨_, _, e, q⟩
theorem frs_snoc {ps : List Rat} {q : Rat} : frs (ps ++ [q]) = frs ps ++ [fr q] := by simp [frs]
theorem frs_len {ps : List Rat} : (frs ps).length = ps.length := by simp [frs]
theorem snoc_or (ps : List Rat) : ps = [] ∨ ∃ rs q, ps = rs ++ [q] := by
  rcases List.eq_nil_or_concat ps with h | ⟨rs, q, h⟩
  · exact .inl h
  · exact .inr ⟨rs, q, by rw [h]; simp⟩
theorem frs_nil : frs [] = [] := rfl
theorem run_trimmed {l : Nat} {ps : List Rat} {μ : List O} {E : Ex → List O → Prop} (h : μ[l]? = some (.lst (frs ps))) (hz : ps.length < 100000) : Wp (m_trimmed [.ref l]) μ (fun r μ' => r = .tup (frs (trimR ps)) ∧ Gr0 μ μ') E := by
  have loop : ∀ (n : Nat) (qs : List Rat) (S : SR → List O → Prop), qs.length < n → S (.nx [some (.ref l), some (.ref μ.length)]) (μ ++ [.lst (frs (trimR qs))]) →
      Ws (whl (wAnd (tCmpC .Gt gtD (cB "len" lenD (aCons (cVar 1) aNil)) (cInt 0)) (wAnd1 (tCmpC .Eq eqD (cIx (cVar 1) (cNeg (cInt 1))) (cGlo "NOUGHT" k_NOUGHT)))).run (bCons (sExpr (cM0 "list" "pop" popD (cVar 1))) bNil).run n [some (.ref l), some (.ref μ.length)]) (μ ++ [.lst (frs qs)]) S := by
    intro n
    induction n with
    | zero => intro qs S h; omega
    | succ n ih =>
      intro qs S h k
      rw [ws_whl]
      rcases snoc_or qs with rfl | ⟨rs, q, rfl⟩
      · rw [show trimR [] = [] from rfl] at k
        rw [frs_nil] at k ⊢
        walk_at "mi*"
      · rw [frs_snoc]
        have hp : (0 : Int) < ((frs rs ++ [fr q]).length : Nat) := by simp
        have hl : (frs rs ++ [fr q])[(frs rs ++ [fr q]).length - 1]? = some (fr q) := by simp
        have hd : (frs rs ++ [fr q]).dropLast = frs rs := by simp
        generalize hx : frs rs ++ [fr q] = xs at hp hl hd ⊢
        have ha : atD xs (-1) = M.ret (fr q) := by rw [← hx]; exact atD_last
        have hq := eqv_fr q 0
        rw [← nought] at hq
        walk_at "mi*"
        by_cases h0 : q = 0
        · rw [if_pos h0]
          subst h0
          rw [trim_snoc0] at k
          exact ih rs S (by simp at h; omega) k
        · rw [if_neg h0]
          rw [trim_snoc h0, frs_snoc, hx] at k
          exact k
  unfold m_trimmed c_trimmed
  walk_at "mi*"
  refine loop _ ps _ hz ?_
  walk_at "mi"
  exact Gr0.app _ _
theorem cut_last {a : Type} {xs : List a} {x : a} : Mi.cutD (xs ++ [x]) none (some (-1)) = xs := by
  unfold Mi.cutD HT.sIx
  simp
  have e : (-1 + ((xs.length : Int) + 1)).toNat = xs.length := by omega
  rw [e]
  simp
theorem ix_fr0 {q : Rat} : ixD (fr q) (.int 0) = M.ret (.int q.num) := rfl
theorem ix_fr1 {q : Rat} : ixD (fr q) (.int 1) = M.ret (.int q.den) := rfl
theorem num0 {q : Rat} : (q.num = 0) ↔ q = 0 := Rat.num_eq_zero
theorem run_ltrim {l : Nat} {ps : List Rat} {μ : List O} {E : Ex → List O → Prop} (h : μ[l]? = some (.lst (frs ps))) (hz : ps.length < 100000) : Wp (m_l_trim [.ref l]) μ (fun r μ' => r = .tup (frs (trimR ps)) ∧ Gr0 μ μ') E := by
  have loop : ∀ (n : Nat) (qs : List Rat) (μ' : List O) (a : Nat) (S : SR → List O → Prop), Gr0 μ μ' → μ'[a]? = some (.lst (frs qs)) → qs.length < n → (∀ μ2 b, Gr0 μ μ2 → μ2[b]? = some (.lst (frs (trimR qs))) → S (.nx [some (.ref l), some (.ref b)]) μ2) →
      Ws (whl (wAnd (tCmpC .NotEq neD (cVar 1) (cLst aNil)) (wAnd1 (tCmpC .Eq eqD (cIx (cIx (cVar 1) (cNeg (cInt 1))) (cInt 0)) (cInt 0)))).run (bCons (sAsg (gN 1) (cSlice (cVar 1) oNo (oYes (cNeg (cInt 1))))) bNil).run n [some (.ref l), some (.ref a)]) μ' S := by
    intro n
    induction n with
    | zero => intro qs μ' a S _ _ h; omega
    | succ n ih =>
      intro qs μ' a S g ha h k
      have hs : sizeLine = 16777216 := sizeLine_eq
      have ha2 : (μ' ++ [O.lst []])[a]? = some (.lst (frs qs)) := at_old ha
      rw [ws_whl]
      walk_at "mi"
      refine ⟨by omega, (wp_ne_nil ha2 at_off0).mpr ?_⟩
      rcases snoc_or qs with rfl | ⟨rs, q, rfl⟩
      · walk_at "mi*"
        exact k _ a (g.trans (Gr0.app _ _)) ha2
      · have hne : ¬ (rs ++ [q] = []) := by simp
        have hc := cut_last (xs := frs rs) (x := fr q)
        have hat : atD (frs rs ++ [fr q]) (-1) = M.ret (fr q) := atD_last
        rw [frs_snoc] at ha2
        simp only [hne, decide_false, Bool.not_false]
        have ix0 := @ix_fr0
        walk_at "mi*"
        by_cases h0 : q = 0
        · have hn := num0.mpr h0
          rw [if_pos hn]
          subst h0
          rw [trim_snoc0] at k
          refine ih rs _ _ S (g.trans (Gr0.app _ _)) ?_ (by simp at h; omega) k
          rw [at_off]
          rfl
        · have hn : ¬ q.num = 0 := fun z => h0 (num0.mp z)
          rw [if_neg hn]
          rw [trim_snoc h0, frs_snoc] at k
          exact k _ a (g.trans (Gr0.app _ _)) ha2
  unfold m_l_trim c_l_trim
  walk_at "mi*"
  refine loop _ ps _ _ _ (Gr0.app _ _) at_off0 hz ?_
  rintro μ2 b g hb
  walk_at "mi*"
theorem sm0 {A : Nat} (h : 0 < A) : Sm A 0 := by
  have := pow_le (A := 1) (B := A) h
  have h1 : (2:Nat) ^ 1 = 2 := rfl
  refine ⟨?_, ?_⟩
  · show (0 : Int).natAbs < _; simp; omega
  · show 1 < _; omega
theorem gd_in {ps : List Rat} {i : Nat} (h : i < ps.length) : ps.getD i 0 = ps[i] := by
  rw [List.getD_eq_getElem?_getD, List.getElem?_eq_getElem h]
  rfl
theorem gd_out {ps : List Rat} {i : Nat} (h : ps.length ≤ i) : ps.getD i 0 = 0 := by
  rw [List.getD_eq_getElem?_getD, List.getElem?_eq_none h]
  rfl
def SmL (A : Nat) (ps : List Rat) : Prop := ∀ p ∈ ps, Sm A p
theorem SmL.get {A i : Nat} {ps : List Rat} (h : SmL A ps) (hA : 0 < A) : Sm A (ps.getD i 0) := by
  by_cases hi : i < ps.length
  · rw [gd_in hi]
    exact h _ (List.getElem_mem hi)
  · rw [gd_out (by omega)]
    exact sm0 hA
theorem frs_get {ps : List Rat} {i : Nat} (h : i < ps.length) : (frs ps)[i]? = some (fr (ps.getD i 0)) := by
  unfold frs
  rw [List.getElem?_map, List.getElem?_eq_getElem h, gd_in h]
  rfl
theorem run_part {ps : List Rat} {i : Nat} {μ : List O} {E : Ex → List O → Prop} : Wp (m_part_of [.tup (frs ps), .int i]) μ (fun r μ' => r = fr (ps.getD i 0) ∧ μ' = μ) E := by
  unfold m_part_of c_part_of
  by_cases h : i < ps.length
  · have h' : (i : Int) < ((frs ps).length : Nat) := by rw [frs_len]; omega
    have e : atD (frs ps) i = M.ret (fr (ps.getD i 0)) := atD_nat (frs_get h)
    walk_at "mi*"
  · have h' : ¬ (i : Int) < ((frs ps).length : Nat) := by rw [frs_len]; omega
    have e : ps.getD i 0 = 0 := gd_out (by omega)
    have hk := nought
    walk_at "mi*"
def addR (ps qs : List Rat) : List Rat := (List.range (max ps.length qs.length)).map fun i => ps.getD i 0 + qs.getD i 0
theorem max_int (a b : Nat) : (if (b : Int) > (a : Int) then (b : Int) else a) = ((max a b : Nat) : Int) := by
  split <;> omega
theorem run_pplus {A : Nat} {ps qs : List Rat} {μ : List O} {E : Ex → List O → Prop} (hp : SmL A ps) (hq : SmL A qs) (h0 : 0 < A) (hA : A ≤ 4000) (l1 : ps.length ≤ 50) (l2 : qs.length ≤ 50) :
    Wp (m_poly_plus [.tup (frs ps), .tup (frs qs)]) μ (fun r μ' => r = .tup (frs (trimR (addR ps qs))) ∧ Gr0 μ μ') E := by
  unfold m_poly_plus c_poly_plus
  have hs : sizeLine = 16777216 := sizeLine_eq
  walk_at "mi*"
  rw [frs_len, frs_len, max_int]
  refine ⟨⟨by omega, by omega⟩, ?_⟩
  refine wp_lc_map (get := fun i => if i < max ps.length qs.length then some (.int (0 + i)) else none) (max ps.length qs.length) (fun i => fr (ps.getD i 0 + qs.getD i 0)) (by show _ ≤ (((max ps.length qs.length : Nat) : Int)).toNat; omega) (by omega) ?_ ?_ ?_ ?_ ?_
  · intro i acc
    show (if i < (((max ps.length qs.length : Nat) : Int)).toNat then some (some (D.int (0 + (i : Int)))) else some none) = _
    rw [Int.toNat_natCast]
    split <;> rfl
  · intro i hi
    rw [if_pos hi]
    rfl
  · rw [if_neg (by omega)]
  · intro i d acc hi hd
    rw [if_pos hi] at hd
    cases hd
    refine ⟨_, rfl, ?_, ?_⟩
    · walk_at "mi*"
    · dsimp only [wipeE, List.map_cons, List.map_nil, List.set_cons_succ, List.set_cons_zero]
      rw [show (0 : Int) + i = i by omega]
      walk_at "mi"
      refine Wp.go run_part ?_
      rintro _ _ ⟨rfl, rfl⟩
      try walk_at "mi"
      refine Wp.go run_part ?_
      rintro _ _ ⟨rfl, rfl⟩
      try walk_at "mi"
      refine Wp.go (run_plus (hp.get h0) (hq.get h0) h0 (by omega)) ?_
      rintro _ _ ⟨rfl, rfl⟩
      exact ⟨rfl, rfl⟩
  · try walk_at "mi"
    have e : (List.range (max ps.length qs.length)).map (fun i => fr (ps.getD i 0 + qs.getD i 0)) = frs (addR ps qs) := by
      unfold frs addR
      rw [List.map_map]
      rfl
    rw [e]
    refine Wp.go (run_trimmed at_off0 (by unfold addR; rw [List.length_map, List.length_range]; omega)) ?_
    rintro _ μ2 ⟨rfl, g⟩
    try walk_at "mi"
    exact (Gr0.app _ _).trans g
theorem at_old_ {μ ν : List O} {j : Nat} {p : O} (h : μ[j]? = some p) : (μ ++ ν)[j]? = some p := (Gr0.app μ ν).at_ _ _ h
theorem flat_rep (n : Nat) (d : D) : (List.replicate n [d]).flatten = List.replicate n d := by
  induction n with
  | zero => rfl
  | succ n ih => rw [List.replicate_succ, List.flatten_cons, ih, List.replicate_succ]; rfl
theorem frs_rep (n : Nat) : frs (List.replicate n 0) = List.replicate n (fr 0) := by simp [frs]
theorem pad_get {ps : List Rat} {i m : Nat} (h : i < ps.length + m) : (frs ps ++ List.replicate m (fr 0))[i]? = some (fr (ps.getD i 0)) := by
  by_cases hi : i < ps.length
  · rw [List.getElem?_append_left (by rw [frs_len]; exact hi)]
    exact frs_get hi
  · rw [List.getElem?_append_right (by rw [frs_len]; omega), frs_len, List.getElem?_replicate, if_pos (by omega), gd_out (by omega)]
theorem run_lsum {A : Nat} {ps qs : List Rat} {μ : List O} {E : Ex → List O → Prop} (hp : SmL A ps) (hq : SmL A qs) (h0 : 0 < A) (hA : A ≤ 4000) (l1 : ps.length ≤ 50) (l2 : qs.length ≤ 50) :
    Wp (m_l_sum [.tup (frs ps), .tup (frs qs)]) μ (fun r μ' => r = .tup (frs (trimR (addR ps qs))) ∧ Gr0 μ μ') E := by
  unfold m_l_sum c_l_sum
  have hs : sizeLine = 16777216 := sizeLine_eq
  walk_at "mi*"
  rw [frs_len, frs_len, max_int]
  refine ⟨⟨by omega, by omega⟩, ?_⟩
  rw [Int.toNat_natCast]
  refine ws_forR (fun i ρ μ' => Gr μ.length μ μ' ∧ μ'[μ.length]? = some (.lst (frs ((List.range i).map fun i => ps.getD i 0 + qs.getD i 0))) ∧ ∃ x, ρ = [some (.tup (frs ps)), some (.tup (frs qs)), some (.ref μ.length), x]) ?_ ?_ ?_
  · exact ⟨(Gr0.app _ _).gr, at_off0, _, rfl⟩
  · rintro i ρ μ' hi ⟨g, hl, x, rfl⟩
    refine ⟨_, _, rfl, ?_⟩
    rw [show (0 : Int) + i = i by omega]
    have hlt := (List.getElem?_eq_some_iff.mp hl).1
    have k99 : (-(2 ^ 63) : Int) ≤ 99 ∧ (99 : Int) < 2 ^ 63 := by omega
    have r99 : repL (Int.toNat 99) [D.tup [.int 0, .int 1]] = List.replicate 99 (fr 0) := flat_rep 99 _
    have n99 : (repL (Int.toNat 99) [D.tup [.int 0, .int 1]]).length = 99 := by rw [r99, List.length_replicate]
    have e1 : atD (frs ps ++ repL (Int.toNat 99) [D.tup [.int 0, .int 1]]) i = M.ret (fr (ps.getD i 0)) := by rw [r99]; exact atD_nat (pad_get (by omega))
    have e2 : atD (frs qs ++ repL (Int.toNat 99) [D.tup [.int 0, .int 1]]) i = M.ret (fr (qs.getD i 0)) := by rw [r99]; exact atD_nat (pad_get (by omega))
    clear r99
    have lp := @frs_len ps
    have lq := @frs_len qs
    walk_at "mi*"
    refine ⟨by omega, by omega, Wp.go (run_ladd (hp.get h0) (hq.get h0) h0 (by omega)) ?_⟩
    rintro _ _ ⟨rfl, rfl⟩
    refine ⟨_, at_old_ hl, by rw [frs_len, List.length_map, List.length_range]; omega, (g.trans (Gr0.app _ _).gr).trans (Gr.set _ _ _), ?_, _, rfl⟩
    rw [at_set (at_old_ hl), List.range_succ, List.map_append]
    rw [frs, frs, List.map_append]
    rfl
  · rintro ρ μ' ⟨g, hl, x, rfl⟩
    try walk_at "mi*"
    refine Wp.go (run_ltrim hl (by rw [List.length_map, List.length_range]; omega)) ?_
    rintro _ μ2 ⟨rfl, g2⟩
    try walk_at "mi"
    exact ⟨rfl, (g.off (Nat.le_refl _)).trans g2⟩
/-! ### products of polynomials -/
def stepR (p : Rat) (at_ : Nat) (qs : List Rat) (acc : List Rat) (j : Nat) : List Rat := acc.set (at_ + j) (acc.getD (at_ + j) 0 + p * qs.getD j 0)
def innerR (p : Rat) (at_ : Nat) (qs : List Rat) (acc : List Rat) : Nat → List Rat
  | 0 => acc
  | j + 1 => stepR p at_ qs (innerR p at_ qs acc j) j
def outerR (ps qs : List Rat) : Nat → List Rat
  | 0 => List.replicate (ps.length + qs.length) 0
  | i + 1 => innerR (ps.getD i 0) i qs (outerR ps qs i) qs.length
def mulR (ps qs : List Rat) : List Rat := outerR ps qs ps.length
theorem inner_len {p : Rat} {at_ : Nat} {qs acc : List Rat} : ∀ j, (innerR p at_ qs acc j).length = acc.length
  | 0 => rfl
  | j + 1 => by
    show (stepR p at_ qs (innerR p at_ qs acc j) j).length = _
    unfold stepR
    rw [List.length_set, inner_len j]
theorem outer_len {ps qs : List Rat} : ∀ i, (outerR ps qs i).length = ps.length + qs.length
  | 0 => by simp [outerR]
  | i + 1 => by
    show (innerR _ _ _ _ _).length = _
    rw [inner_len, outer_len i]
/-- how great: behind place k already one more -/
structure BdI (C b k : Nat) (acc : List Rat) : Prop where
  lo : ∀ i, i < k → Sm (b + C) (acc.getD i 0)
  hi : ∀ i, k ≤ i → Sm b (acc.getD i 0)
theorem gd_set {acc : List Rat} {k i : Nat} {x : Rat} : (acc.set k x).getD i 0 = if k = i ∧ k < acc.length then x else acc.getD i 0 := by
  rw [List.getD_eq_getElem?_getD, List.getD_eq_getElem?_getD]
  by_cases h : k = i
  · subst h
    by_cases hl : k < acc.length
    · rw [List.getElem?_set_self hl, if_pos ⟨rfl, hl⟩]; rfl
    · rw [if_neg (by omega), List.getElem?_eq_none (by rw [List.length_set]; omega), List.getElem?_eq_none (by omega)]
  · rw [List.getElem?_set_ne h, if_neg (by omega)]
theorem bd_step {A B b at_ j : Nat} {p : Rat} {qs acc : List Rat} (hp : Sm A p) (hq : SmL B qs) (hB : 0 < B) (h : BdI (A + B + 1) b (at_ + j) acc) : BdI (A + B + 1) b (at_ + (j + 1)) (stepR p at_ qs acc j) := by
  have hn : Sm (b + (A + B + 1)) (acc.getD (at_ + j) 0 + p * qs.getD j 0) := ((h.hi _ (Nat.le_refl _)).add (hp.mul (hq.get hB))).up (by omega)
  constructor
  · intro i hi
    unfold stepR
    rw [gd_set]
    split
    · exact hn
    · by_cases hlt : i < at_ + j
      · exact h.lo i hlt
      · exact (h.hi i (by omega)).up (by omega)
  · intro i hi
    unfold stepR
    rw [gd_set, if_neg (by omega)]
    exact h.hi i (by omega)
theorem bd_inner {A B b at_ : Nat} {p : Rat} {qs acc : List Rat} (hp : Sm A p) (hq : SmL B qs) (hB : 0 < B) (h : ∀ i, Sm b (acc.getD i 0)) : ∀ j, BdI (A + B + 1) b (at_ + j) (innerR p at_ qs acc j)
  | 0 => ⟨fun i _ => (h i).up (by omega), fun i _ => h i⟩
  | j + 1 => bd_step hp hq hB (bd_inner hp hq hB h j)
theorem BdI.all {C b k : Nat} {acc : List Rat} (h : BdI C b k acc) (i : Nat) : Sm (b + C) (acc.getD i 0) := by
  by_cases hi : i < k
  · exact h.lo i hi
  · exact (h.hi i (by omega)).up (by omega)
theorem bd_outer {A B : Nat} {ps qs : List Rat} (hp : SmL A ps) (hq : SmL B qs) (hA : 0 < A) (hB : 0 < B) : ∀ i k, Sm (1 + i * (A + B + 1)) ((outerR ps qs i).getD k 0)
  | 0, k => by
    have e : (outerR ps qs 0).getD k 0 = 0 := by
      show (List.replicate _ 0).getD k 0 = 0
      rw [List.getD_eq_getElem?_getD, List.getElem?_replicate]
      split <;> rfl
    rw [e]
    exact (sm0 (A := 1) (by omega)).up (by rw [Nat.zero_mul]; omega)
  | i + 1, k => by
    have h := (bd_inner (at_ := i) (hp.get (i := i) hA) hq hB (bd_outer hp hq hA hB i) qs.length).all k
    refine h.up ?_
    rw [Nat.add_mul, Nat.one_mul]
    omega
theorem getL {ps : List Rat} {A : Nat} (h : ∀ i, Sm A (ps.getD i 0)) : SmL A ps := fun p hp => by
  obtain ⟨i, hi, rfl⟩ := List.getElem_of_mem hp
  rw [← gd_in hi]
  exact h i
theorem frs_set {ps : List Rat} {k : Nat} {x : Rat} : (frs ps).set k (fr x) = frs (ps.set k x) := by
  unfold frs
  rw [List.map_set]
theorem enT_get {ps : List Rat} {i : Nat} {μ : List O} (h : i < ps.length) : (wkE (wkOf (frs ps))).get i μ = some (some (.tup [.int i, fr (ps.getD i 0)])) := by
  dsimp only [wkE, wkOf]
  rw [frs_get h]
theorem enT_end {ps : List Rat} {μ : List O} : (wkE (wkOf (frs ps))).get ps.length μ = some none := by
  dsimp only [wkE, wkOf]
  rw [List.getElem?_eq_none (by rw [frs_len]; omega)]
theorem prod_loop {n1 n2 : Str} {f1 f2 : List D → M D} {A B : Nat} {ps qs : List Rat} {f : Nat} {S : SR → List O → Prop} {μ : List O} (hp : SmL A ps) (hq : SmL B qs) (hA : 0 < A) (hB : 0 < B) (hl : ps.length ≤ 40) (hC : 41 * (A + B + 1) + 1 ≤ 4500)
    (s1 : ∀ p q μ, Sm 4500 p → Sm 4500 q → Wp (f1 [fr p, fr q]) μ (fun r μ' => r = fr (p + q) ∧ μ' = μ) fun _ _ => False) (s2 : ∀ p q μ, Sm 4500 p → Sm 4500 q → Wp (f2 [fr p, fr q]) μ (fun r μ' => r = fr (p * q) ∧ μ' = μ) fun _ _ => False)
    (hf : μ[f]? = some (.lst (frs (List.replicate (ps.length + qs.length) 0))))
    (k : ∀ μ' x3 x4 x5 x6, Gr f μ μ' → μ'[f]? = some (.lst (frs (mulR ps qs))) → S (.nx [some (.tup (frs ps)), some (.tup (frs qs)), some (.ref f), x3, x4, x5, x6]) μ') :
    Ws (forRun (wkE (wkOf (frs ps))) (gT (gsCons (gN 3) (gsCons (gN 4) gsNil)) 2) (bCons (sFor (gT (gsCons (gN 5) (gsCons (gN 6) gsNil)) 2) (iEn (cVar 1)) (bCons (sAsg (gS (cVar 2) (cBin .Add addD (cVar 3) (cVar 5))) (cCall n1 f1 (aCons (cIx (cVar 2) (cBin .Add addD (cVar 3) (cVar 5))) (aCons (cCall n2 f2 (aCons (cVar 4) (aCons (cVar 6) aNil))) aNil)))) bNil)) bNil) ps.length 0
      [some (.tup (frs ps)), some (.tup (frs qs)), some (.ref f), none, none, none, none]) μ S := by
  have hlq := @frs_len ps
  have hlq2 := @frs_len qs
  refine ws_forW ps.length (fun i => .tup [.int i, fr (ps.getD i 0)]) (fun i μ h => enT_get h) (fun μ => enT_end) (Nat.le_refl _)
    (fun i ρ μ' => Gr f μ μ' ∧ μ'[f]? = some (.lst (frs (outerR ps qs i))) ∧ ∃ x3 x4 x5 x6, ρ = [some (.tup (frs ps)), some (.tup (frs qs)), some (.ref f), x3, x4, x5, x6]) ?_ ?_ ?_
  · exact ⟨Gr.refl _ _, hf, _, _, _, _, rfl⟩
  · rintro i ρ μ' hi ⟨g, h1, x3, x4, x5, x6, rfl⟩
    refine ⟨_, _, rfl, ?_⟩
    walk_at "mi*"
    have hib : i * (A + B + 1) ≤ 40 * (A + B + 1) := Nat.mul_le_mul (by omega) (Nat.le_refl _)
    refine ws_forW qs.length (fun j => .tup [.int j, fr (qs.getD j 0)]) (fun i μ h => enT_get h) (fun μ => enT_end) (Nat.le_refl _)
      (fun j ρ μ' => Gr f μ μ' ∧ μ'[f]? = some (.lst (frs (innerR (ps.getD i 0) i qs (outerR ps qs i) j))) ∧ ∃ x5 x6, ρ = [some (.tup (frs ps)), some (.tup (frs qs)), some (.ref f), some (.int i), some (fr (ps.getD i 0)), x5, x6]) ?_ ?_ ?_
    · exact ⟨g, h1, _, _, rfl⟩
    · rintro j ρ μ2 hj ⟨g2, h2, x5, x6, rfl⟩
      refine ⟨_, _, rfl, ?_⟩
      have hlen : i + j < (innerR (ps.getD i 0) i qs (outerR ps qs i) j).length := by
        rw [inner_len, outer_len]
        omega
      have e1 : atD (frs (innerR (ps.getD i 0) i qs (outerR ps qs i) j)) ((i : Int) + j) = M.ret (fr ((innerR (ps.getD i 0) i qs (outerR ps qs i) j).getD (i + j) 0)) := by
        rw [show (i : Int) + j = ((i + j : Nat) : Int) by omega]
        exact atD_nat (frs_get hlen)
      have e2 : ixN (frs (innerR (ps.getD i 0) i qs (outerR ps qs i) j)).length ((i : Int) + j) = some (i + j) := by
        rw [show (i : Int) + j = ((i + j : Nat) : Int) by omega, frs_len]
        exact ixN_nat hlen
      walk_at "mi*"
      have bI := bd_inner (at_ := i) (hp.get (i := i) hA) hq hB (bd_outer hp hq hA hB i) j
      refine Wp.go (s2 _ _ _ ((hp.get hA).up (by omega)) ((hq.get hB).up (by omega))) ?_
      rintro _ _ ⟨rfl, rfl⟩
      try walk_at "mi*"
      refine Wp.go (s1 _ _ _ ((bI.hi _ (Nat.le_refl _)).up (by omega)) (((hp.get hA).mul (hq.get hB)).up (by omega))) ?_
      rintro _ _ ⟨rfl, rfl⟩
      have e2' := e2
      rw [frs_len] at e2'
      walk_at "mi*"
      rw [frs_set]
      exact ⟨g2.trans (Gr.set _ _ _), at_set h2, _, _, rfl⟩
    · rintro ρ μ2 ⟨g2, h2, x5, x6, rfl⟩
      walk_at "mi"
      exact ⟨g2, h2, _, _, _, _, rfl⟩
  · rintro ρ μ' ⟨g, h1, x3, x4, x5, x6, rfl⟩
    exact k μ' _ _ _ _ g h1
theorem run_ptimes {A B : Nat} {ps qs : List Rat} {μ : List O} {E : Ex → List O → Prop} (hp : SmL A ps) (hq : SmL B qs) (hA : 0 < A) (hB : 0 < B) (l1 : ps.length ≤ 40) (l2 : qs.length ≤ 40) (hC : 41 * (A + B + 1) + 1 ≤ 4500) :
    Wp (m_poly_times [.tup (frs ps), .tup (frs qs)]) μ (fun r μ' => r = .tup (frs (trimR (mulR ps qs))) ∧ Gr0 μ μ') E := by
  unfold m_poly_times c_poly_times
  have hs : sizeLine = 16777216 := sizeLine_eq
  have lp := @frs_len ps
  have lq := @frs_len qs
  have kr : (-(2 ^ 63) : Int) ≤ (ps.length : Int) + qs.length ∧ (ps.length : Int) + qs.length < 2 ^ 63 := by omega
  have er : repL ((ps.length : Int) + qs.length).toNat [fr 0] = frs (List.replicate (ps.length + qs.length) 0) := by
    rw [frs_rep, show ((ps.length : Int) + qs.length).toNat = ps.length + qs.length by omega]
    exact flat_rep _ _
  have el : (frs (List.replicate (ps.length + qs.length) 0)).length ≤ 16777216 := by rw [frs_len, List.length_replicate]; omega
  rw [nought]
  walk_at "mi*"
  refine prod_loop hp hq hA hB l1 hC (fun p q μ a b => run_plus a b (by omega) (by omega)) (fun p q μ a b => run_times a b (by omega) (by omega)) at_off ?_
  intro μ2 x3 x4 x5 x6 g h
  walk_at "mi"
  refine Wp.go (run_trimmed h (by rw [mulR, outer_len]; omega)) ?_
  rintro _ μ3 ⟨rfl, g3⟩
  try walk_at "mi"
  exact ((Gr0.app _ _).gr.trans g).off (by omega) |>.trans g3
theorem run_lproduct {A B : Nat} {ps qs : List Rat} {μ : List O} {E : Ex → List O → Prop} (hp : SmL A ps) (hq : SmL B qs) (hA : 0 < A) (hB : 0 < B) (l1 : ps.length ≤ 40) (l2 : qs.length ≤ 40) (hC : 41 * (A + B + 1) + 1 ≤ 4500) :
    Wp (m_l_product [.tup (frs ps), .tup (frs qs)]) μ (fun r μ' => r = .tup (frs (trimR (mulR ps qs))) ∧ Gr0 μ μ') E := by
  unfold m_l_product c_l_product
  have hs : sizeLine = 16777216 := sizeLine_eq
  have lp := @frs_len ps
  have lq := @frs_len qs
  have kr : (-(2 ^ 63) : Int) ≤ (ps.length : Int) + qs.length ∧ (ps.length : Int) + qs.length < 2 ^ 63 := by omega
  have er : repL ((ps.length : Int) + qs.length).toNat [D.tup [.int 0, .int 1]] = frs (List.replicate (ps.length + qs.length) 0) := by
    rw [frs_rep, show ((ps.length : Int) + qs.length).toNat = ps.length + qs.length by omega]
    exact flat_rep _ _
  have el : (frs (List.replicate (ps.length + qs.length) 0)).length ≤ 16777216 := by rw [frs_len, List.length_replicate]; omega
  walk_at "mi*"
  refine prod_loop hp hq hA hB l1 hC (fun p q μ a b => run_ladd a b (by omega) (by omega)) (fun p q μ a b => run_lmul a b (by omega) (by omega)) at_off ?_
  intro μ2 x3 x4 x5 x6 g h
  walk_at "mi"
  refine Wp.go (run_ltrim h (by rw [mulR, outer_len]; omega)) ?_
  rintro _ μ3 ⟨rfl, g3⟩
  try walk_at "mi"
  exact ((Gr0.app _ _).gr.trans g).off (by omega) |>.trans g3
/-! ### times a number; the value at a number -/
def byR (ps : List Rat) (x : Rat) : List Rat := (List.range ps.length).map fun i => ps.getD i 0 * x
theorem run_lcby {n1 : Str} {f1 : List D → M D} {ps : List Rat} {x : Rat} {c : CE} {μ : List O} {P : D → List O → Prop} {E : Ex → List O → Prop} {g : CG} {ρ : Mi.Env} (hz : ps.length ≤ 50)
    (step : ∀ i acc, i < ps.length → ∃ ρ1, g.run (fr (ps.getD i 0)) ρ (μ ++ [.lst acc]) = some (ρ1, μ ++ [.lst acc]) ∧ Wp (c.run ρ1) (μ ++ [.lst acc]) (fun y μ3 => y = fr (ps.getD i 0 * x) ∧ μ3 = μ ++ [.lst acc]) (fun _ _ => False))
    (q : P (.ref μ.length) (μ ++ [.lst (frs (byR ps x))])) : Wp (lcM (wkOf (frs ps)) g fNil.run c.run ρ) μ P E := by
  have hs : sizeLine = 16777216 := sizeLine_eq
  refine wp_lc_map (get := fun i => (frs ps)[i]?) ps.length (fun i => fr (ps.getD i 0 * x)) (by show _ ≤ (frs ps).length; rw [frs_len]; omega) (by omega) (fun i acc => rfl) (fun i hi => by rw [frs_get hi]; rfl) (List.getElem?_eq_none (by rw [frs_len]; omega)) ?_ ?_
  · intro i d acc hi hd
    rw [frs_get hi] at hd
    cases hd
    obtain ⟨ρ1, h1, h2⟩ := step i acc hi
    exact ⟨ρ1, h1, wp_ret.mpr ⟨rfl, rfl⟩, h2⟩
  · have e : (List.range ps.length).map (fun i => fr (ps.getD i 0 * x)) = frs (byR ps x) := by
      unfold frs byR
      rw [List.map_map]
      rfl
    rw [e]
    exact q
theorem run_pby {A B : Nat} {ps : List Rat} {x : Rat} {μ : List O} {E : Ex → List O → Prop} (hp : SmL A ps) (hx : Sm B x) (hA : 0 < A) (hB : 0 < B) (hC : A + B ≤ 9000) (l1 : ps.length ≤ 50) :
    Wp (m_poly_by [.tup (frs ps), fr x]) μ (fun r μ' => r = .tup (frs (trimR (byR ps x))) ∧ Gr0 μ μ') E := by
  unfold m_poly_by c_poly_by
  walk_at "mi*"
  refine run_lcby (n1 := "") (f1 := m_times) (x := x) l1 ?_ ?_
  · intro i acc hi
    refine ⟨_, rfl, ?_⟩
    dsimp only [wipeE, List.map_cons, List.map_nil, List.set_cons_succ, List.set_cons_zero]
    walk_at "mi"
    refine Wp.go (run_times (A := A + B) ((hp.get hA).up (by omega)) (hx.up (by omega)) (by omega) hC) ?_
    rintro _ _ ⟨rfl, rfl⟩
    exact ⟨rfl, rfl⟩
  · try walk_at "mi"
    refine Wp.go (run_trimmed at_off0 (by unfold byR; rw [List.length_map, List.length_range]; omega)) ?_
    rintro _ μ2 ⟨rfl, g⟩
    try walk_at "mi"
    exact (Gr0.app _ _).trans g
def evalL (x : Rat) : List Rat → Rat
  | [] => 0
  | c :: r => c + x * evalL x r
theorem horner {x : Rat} : ∀ ps : List Rat, ps.reverse.foldl (fun f c => f * x + c) 0 = evalL x ps := by
  intro ps
  rw [List.foldl_reverse]
  induction ps with
  | nil => rfl
  | cons c r ih =>
    rw [List.foldr_cons, ih]
    show evalL x r * x + c = c + x * evalL x r
    grind
theorem powsum {x : Rat} : ∀ (ps : List Rat) (f w : Rat), (ps.foldl (fun (a : Rat × Rat) c => (a.1 + c * a.2, a.2 * x)) (f, w)).1 = f + w * evalL x ps
  | [], f, w => by
    show f = f + w * 0
    grind
  | c :: r, f, w => by
    rw [List.foldl_cons, powsum r]
    show f + c * w + w * x * evalL x r = f + w * (c + x * evalL x r)
    grind
theorem take_get {ps : List Rat} {i : Nat} (h : i < ps.length) : ps.take (i + 1) = ps.take i ++ [ps.getD i 0] := by
  rw [List.take_succ, List.getElem?_eq_getElem h, gd_in h]
  rfl
theorem frs_rev {ps : List Rat} : (frs ps).reverse = frs ps.reverse := by simp [frs]
theorem run_pat {A B C : Nat} {ps : List Rat} {x : Rat} {μ : List O} {E : Ex → List O → Prop} (hp : SmL A ps) (hx : Sm B x) (hA : 0 < A) (hB : 0 < B) (l1 : ps.length ≤ 40) (hC1 : A + B + 1 ≤ C) (hC : 41 * C + 1 ≤ 9000) :
    Wp (m_poly_at [.tup (frs ps), fr x]) μ (fun r μ' => (r = fr (evalL x ps) ∧ Sm (1 + ps.length * C) (evalL x ps)) ∧ μ' = μ) E := by
  unfold m_poly_at c_poly_at
  rw [nought]
  have hr := @frs_rev ps
  have lr : (frs ps.reverse).length = ps.length := by rw [frs_len, List.length_reverse]
  have hp' : SmL A ps.reverse := fun p h => hp p (List.mem_reverse.mp h)
  have ll : ps.reverse.length = ps.length := List.length_reverse
  walk_at "mi*"
  rw [← lr]
  refine ws_for (fun i ρ μ' => i ≤ ps.length ∧ μ' = μ ∧ Sm (1 + i * C) ((ps.reverse.take i).foldl (fun f c => f * x + c) 0) ∧ ∃ y, ρ = [some (.tup (frs ps)), some (fr x), some (fr ((ps.reverse.take i).foldl (fun f c => f * x + c) 0)), y]) ?_ ?_ ?_
  · exact ⟨Nat.zero_le _, rfl, (sm0 (A := 1) (by omega)).up (by omega), _, rfl⟩
  · rintro i d ρ _ hd ⟨hi, rfl, hsm, y, rfl⟩
    have hi2 : i < ps.reverse.length := by
      have := (List.getElem?_eq_some_iff.mp hd).1
      rw [frs_len] at this
      exact this
    rw [frs_get hi2] at hd
    cases hd
    refine ⟨_, _, rfl, ?_⟩
    walk_at "mi"
    have hb : i * C ≤ 40 * C := Nat.mul_le_mul (by omega) (Nat.le_refl _)
    have sx := hsm.mul hx
    refine Wp.go (run_times (A := 9000) (hsm.up (by omega)) (hx.up (by omega)) (by omega) (by omega)) ?_
    rintro _ _ ⟨rfl, rfl⟩
    try walk_at "mi"
    have sy := sx.add (hp'.get (i := i) hA)
    refine Wp.go (run_plus (A := 9000) (sx.up (by omega)) ((hp'.get hA).up (by omega)) (by omega) (by omega)) ?_
    rintro _ _ ⟨rfl, rfl⟩
    have e : (ps.reverse.take (i + 1)).foldl (fun f c => f * x + c) 0 = (ps.reverse.take i).foldl (fun f c => f * x + c) 0 * x + ps.reverse.getD i 0 := by
      rw [take_get hi2, List.foldl_append]
      rfl
    refine ⟨by omega, rfl, ?_, some (fr (ps.reverse.getD i 0)), ?_⟩
    · rw [e]
      exact sy.up (by rw [Nat.add_mul, Nat.one_mul]; omega)
    · rw [e]
  · rintro ρ _ ⟨hi, rfl, hsm, y, rfl⟩
    have ef : (ps.reverse.take (frs ps.reverse).length).foldl (fun f c => f * x + c) 0 = evalL x ps := by
      rw [frs_len, List.take_length, horner]
    rw [ef] at hsm ⊢
    walk_at "mi"
    exact hsm
def lvB (A B : Nat) : Nat → Nat
  | 0 => 1
  | i + 1 => lvB A B i + (A + (1 + i * B)) + 1
theorem lvB_le {A B : Nat} {i : Nat} : ∀ {n : Nat}, i ≤ n → lvB A B i ≤ lvB A B n
  | 0, h => by
    have : i = 0 := by omega
    rw [this]; exact Nat.le_refl _
  | n + 1, h => by
    by_cases e : i = n + 1
    · rw [e]; exact Nat.le_refl _
    · have := lvB_le (A := A) (B := B) (i := i) (n := n) (by omega)
      show _ ≤ lvB A B n + (A + (1 + n * B)) + 1
      omega
theorem run_lvalue {A B : Nat} {ps : List Rat} {x : Rat} {μ : List O} {E : Ex → List O → Prop} (hp : SmL A ps) (hx : Sm B x) (hA : 0 < A) (hB : 0 < B) (hC : lvB A B ps.length ≤ 4500) (hB2 : 1 + ps.length * B ≤ 4500) (hB3 : B ≤ 4500) (hA3 : A ≤ 4500) :
    Wp (m_l_value [.tup (frs ps), fr x]) μ (fun r μ' => r = fr (evalL x ps) ∧ μ' = μ) E := by
  unfold m_l_value c_l_value
  have lr : (frs ps).length = ps.length := frs_len
  have hs : sizeLine = 16777216 := sizeLine_eq
  walk_at "mi*"
  rw [← lr]
  refine ws_for (fun i ρ μ' => i ≤ ps.length ∧ μ' = μ ∧ Sm (lvB A B i) ((ps.take i).foldl (fun (a : Rat × Rat) c => (a.1 + c * a.2, a.2 * x)) (0, 1)).1 ∧ Sm (1 + i * B) ((ps.take i).foldl (fun (a : Rat × Rat) c => (a.1 + c * a.2, a.2 * x)) (0, 1)).2 ∧
    ∃ y, ρ = [some (.tup (frs ps)), some (fr x), y, some (fr ((ps.take i).foldl (fun (a : Rat × Rat) c => (a.1 + c * a.2, a.2 * x)) (0, 1)).1), some (fr ((ps.take i).foldl (fun (a : Rat × Rat) c => (a.1 + c * a.2, a.2 * x)) (0, 1)).2)]) ?_ ?_ ?_
  · have s1 : Sm 1 1 := ⟨by decide, by decide⟩
    exact ⟨Nat.zero_le _, rfl, (sm0 (A := 1) (by omega)).up (Nat.le_refl _), s1.up (by omega), _, rfl⟩
  · rintro i d ρ _ hd ⟨hi, rfl, h1, h2, y, rfl⟩
    have hi2 : i < ps.length := by
      have := (List.getElem?_eq_some_iff.mp hd).1
      rw [frs_len] at this
      exact this
    rw [frs_get hi2] at hd
    cases hd
    refine ⟨_, _, rfl, ?_⟩
    have e : (ps.take (i + 1)).foldl (fun (a : Rat × Rat) c => (a.1 + c * a.2, a.2 * x)) (0, 1) = (((ps.take i).foldl (fun (a : Rat × Rat) c => (a.1 + c * a.2, a.2 * x)) (0, 1)).1 + ps.getD i 0 * ((ps.take i).foldl (fun (a : Rat × Rat) c => (a.1 + c * a.2, a.2 * x)) (0, 1)).2, ((ps.take i).foldl (fun (a : Rat × Rat) c => (a.1 + c * a.2, a.2 * x)) (0, 1)).2 * x) := by
      rw [take_get hi2, List.foldl_append]
      rfl
    rw [e]
    generalize (ps.take i).foldl (fun (a : Rat × Rat) c => (a.1 + c * a.2, a.2 * x)) (0, 1) = st at h1 h2 ⊢
    obtain ⟨f, w⟩ := st
    dsimp only at h1 h2 ⊢
    have hb := lvB_le (A := A) (B := B) (i := i + 1) (n := ps.length) hi2
    have hb0 : lvB A B (i + 1) = lvB A B i + (A + (1 + i * B)) + 1 := rfl
    have hb2 : i * B ≤ ps.length * B := Nat.mul_le_mul (by omega) (Nat.le_refl _)
    have hg := hp.get (i := i) hA
    have sm := hg.mul h2
    have sa := h1.add sm
    have sw := h2.mul hx
    walk_at "mi"
    refine Wp.go (run_lmul (A := 4500) (hg.up (by omega)) (h2.up (by omega)) (by omega) (by omega)) ?_
    rintro _ _ ⟨rfl, rfl⟩
    try walk_at "mi"
    refine Wp.go (run_ladd (A := 4500) (h1.up (by omega)) (sm.up (by omega)) (by omega) (by omega)) ?_
    rintro _ _ ⟨rfl, rfl⟩
    try walk_at "mi"
    refine Wp.go (run_lmul (A := 4500) (h2.up (by omega)) (hx.up (by omega)) (by omega) (by omega)) ?_
    rintro _ _ ⟨rfl, rfl⟩
    try walk_at "mi"
    refine ⟨by omega, ?_, ?_, some (fr (ps.getD i 0)), rfl⟩
    · exact sa.up (Nat.le_of_eq hb0.symm)
    · exact sw.up (by rw [Nat.add_mul, Nat.one_mul]; omega)
  · rintro ρ _ ⟨hi, rfl, h1, h2, y, rfl⟩
    have ef : ((ps.take (frs ps).length).foldl (fun (a : Rat × Rat) c => (a.1 + c * a.2, a.2 * x)) (0, 1)).1 = evalL x ps := by
      rw [frs_len, List.take_length, powsum]
      grind
    rw [ef]
    walk_at "mi"
/-! ### drawn fractions, polynomials -/
theorem sm_of_made {t low : Int} {B : Nat} (h : low ≠ 0) (ht : t.natAbs < 2 ^ B) (hl : low.natAbs < 2 ^ B) : Sm B (Rat.divInt t low) := Sm.of h rfl ht hl
theorem run_some_q {l n : Nat} {μ : List O} {E : Ex → List O → Prop} (h : Pot μ l n) (hn : n + 20 ≤ 1000000) :
    Wp (m_l_some [.ref l]) μ (fun r μ' => (∃ q, r = fr q ∧ Sm 100 q) ∧ Pot μ' l (n + 8) ∧ Gr l μ μ') E := by
  refine (run_some h hn).mono ?_ fun _ _ z => z
  rintro _ μ' ⟨⟨t, low, a, b, rfl, hm, ht, hlow⟩, p, g⟩
  have h0 : low ≠ 0 := fun z => by
    have := hm.sb
    have := hm.pos
    subst z
    omega
  have e30 : (10 : Nat) ^ 30 < 2 ^ 100 := by decide
  have e20 : (10 : Nat) ^ 20 < 2 ^ 100 := by decide
  exact ⟨⟨_, made_fr h0 hm, sm_of_made h0 (by omega) (by omega)⟩, p, g⟩
theorem run_lsmall {l n : Nat} {μ : List O} {E : Ex → List O → Prop} (h : Pot μ l n) (hn : n + 20 ≤ 1000000) :
    Wp (m_l_small [.ref l]) μ (fun r μ' => (∃ q, r = fr q ∧ Sm 3 q) ∧ Pot μ' l (n + 2) ∧ Gr l μ μ') E := by
  unfold m_l_small c_l_small
  walk_at "mi*"
  refine Wp.go (run_draw h (by omega) (by decide) (by decide)) ?_
  rintro _ μ1 ⟨⟨d1, rfl, a1, b1⟩, p1, g1⟩
  walk_at "mi*"
  refine Wp.go (run_draw p1 (by omega) (by decide) (by decide)) ?_
  rintro _ μ2 ⟨⟨d2, rfl, a2, b2⟩, p2, g2⟩
  walk_at "mi*"
  have e8 : (2 : Nat) ^ 3 = 8 := rfl
  refine Wp.go (run_mk (by omega) ⟨3, by omega, by omega, by omega⟩) ?_
  rintro _ _ ⟨rfl, rfl⟩
  exact ⟨⟨_, rfl, sm_of_made (by omega) (by omega) (by omega)⟩, p2, g1.trans g2⟩
theorem run_lpoly {l n : Nat} {most : Nat} {μ : List O} {E : Ex → List O → Prop} (h : Pot μ l n) (hn : n + 500 ≤ 1000000) (hm : most ≤ 40) :
    Wp (m_l_poly [.ref l, .int most]) μ (fun r μ' => (∃ ps, r = .tup (frs ps) ∧ SmL 3 ps ∧ ps.length ≤ most) ∧ Pot μ' l (n + 200) ∧ Gr l μ μ') E := by
  unfold m_l_poly c_l_poly
  have hs : sizeLine = 16777216 := sizeLine_eq
  walk_at "mi*"
  have hlog : ((most : Int) + 1).natAbs.log2 < 9000 := Nat.lt_of_le_of_lt (log2_mono (b := 41) (by omega)) (by decide)
  refine Wp.go (run_draw h (by omega) (by omega) hlog) ?_
  rintro _ μ1 ⟨⟨d1, rfl, a1, b1⟩, p1, g1⟩
  obtain ⟨k, rfl⟩ : ∃ k : Nat, d1 = k := ⟨d1.toNat, by omega⟩
  walk_at "mi*"
  refine ⟨⟨by omega, by omega⟩, ?_⟩
  rw [Int.toNat_natCast]
  have hl1 := p1.lt
  refine wp_lc k (fun i acc μ' => ∃ cs, acc = frs cs ∧ cs.length = i ∧ SmL 3 cs ∧ Pot μ' l (n + 1 + 4 * i) ∧ Gr l μ1 μ' ∧ μ'[μ1.length]? = some (.lst acc)) (Nat.le_refl _) ?_ ?_ ?_
  · exact ⟨[], rfl, rfl, fun p hp => (nomatch hp), p1.app, (Gr0.app _ _).gr, at_off0⟩
  · rintro i acc μ2 hi ⟨cs, rfl, hc, hsm, p2, g2, h2⟩
    refine ⟨.int (0 + i), by show (if i < k then _ else _) = _; rw [if_pos hi], _, _, rfl, ?_⟩
    dsimp only [wipeE, List.map_cons, List.map_nil, List.set_cons_succ, List.set_cons_zero]
    try walk_at "mi"
    refine Wp.go (run_lsmall p2 (by omega)) ?_
    rintro _ μ3 ⟨⟨q, rfl, hq⟩, p3, g3⟩
    try walk_at "mi"
    refine ⟨by omega, by omega, Wp.go (run_draw p3.app (by omega) (by decide) (by decide)) ?_⟩
    rintro _ μ4 ⟨⟨d4, rfl, a4, b4⟩, p4, g4⟩
    have h4 := g4.at_ _ _ (Nat.ne_of_gt p3.lt) at_off0
    have G4 : Gr l μ2 μ4 := g3.trans ((Gr0.app _ _).gr.trans g4)
    have h24 := G4.at_ _ _ (Nat.ne_of_gt hl1) h2
    walk_at "mi*"
    have fin : ∀ c : Rat, Sm 3 c → (∃ ds, some (O.lst (frs cs)) = some (O.lst ds) ∧ ds.length < 16777216 ∧ ∃ cs', ds ++ [fr c] = frs cs' ∧ cs'.length = i + 1 ∧ SmL 3 cs' ∧ Pot (μ4.set μ1.length (O.lst (ds ++ [fr c]))) l (n + (1 + 4 * (i + 1))) ∧ Gr l μ1 (μ4.set μ1.length (O.lst (ds ++ [fr c]))) ∧ (μ4.set μ1.length (O.lst (ds ++ [fr c])))[μ1.length]? = some (.lst (ds ++ [fr c]))) := by
      intro c hcs
      refine ⟨_, rfl, by rw [frs_len]; omega, cs ++ [c], frs_snoc.symm, by simp [hc], ?_, ?_, (g2.trans G4).set_off (Nat.le_refl _), at_set h24⟩
      · intro p hp
        rcases List.mem_append.mp hp with h | h
        · exact hsm p h
        · rw [List.mem_singleton.mp h]; exact hcs
      · have := p4.up (m := n + (1 + 4 * (i + 1))) (by omega)
        obtain ⟨a, b, c', hh, r⟩ := this
        exact ⟨a, b, c', by rw [List.getElem?_set_ne (by omega)]; exact hh, r⟩
    by_cases h0 : d4 = 0
    · subst h0
      try walk_at "mi"
      rw [h24]
      exact fin 0 (sm0 (by omega))
    · simp only [h0, decide_false, Bool.false_eq_true, if_false]
      try walk_at "mi"
      rw [h24]
      exact fin q hq
  · rintro acc μ2 ⟨cs, rfl, hc, hsm, p2, g2, h2⟩
    refine ⟨by show (if k < k then _ else _) = _; rw [if_neg (by omega)], ?_⟩
    try walk_at "mi"
    refine Wp.go (run_ltrim h2 (by omega)) ?_
    rintro _ μ3 ⟨rfl, g3⟩
    try walk_at "mi"
    have hle := trim_len cs
    exact ⟨⟨_, rfl, fun p hp => hsm p (trim_mem hp), by omega⟩, (p2.gr g3).up (by omega), (g1.trans g2).trans g3.gr⟩
/-! ### seen -/
section
variable {l n w A : Nat} {μ : List O}
theorem sn_fr {q : Rat} (h : Sm A q) (hA : A ≤ 1900) (h0 : 0 < A) (hw : 2 * A + 2 ≤ w) : Sn l μ (n + 1) w (fr q) :=
  sn_t2 A (sn_intB A (log2_lt h.1 h0) (by omega) (Nat.le_refl _)) (sn_intB A (log2_lt (by rw [Int.natAbs_natCast]; exact h.2) h0) (by omega) (Nat.le_refl _)) hw
theorem sns_frs (hA : A ≤ 1900) (h0 : 0 < A) : ∀ {ps : List Rat}, SmL A ps → Sns l μ (n + 1) (ps.length * (2 * A + 3)) (frs ps)
  | [], _ => sns_n
  | p :: r, h => sns_c (sn_fr (w := 2 * A + 2) (h p List.mem_cons_self) hA h0 (Nat.le_refl _)) (sns_frs hA h0 fun q hq => h q (List.mem_cons_of_mem _ hq)) (by rw [List.length_cons, Nat.add_mul, Nat.one_mul]; omega)
theorem sn_poly {ps : List Rat} (h : SmL A ps) (hA : A ≤ 1900) (h0 : 0 < A) (hl : ps.length * (2 * A + 3) ≤ w) : Sn l μ (n + 2) w (.tup (frs ps)) := sn_tup ((sns_frs hA h0 h).up (Gr.refl _ _) (Nat.le_refl _) hl)
end
theorem add_sm {A B : Nat} {ps qs : List Rat} (hp : SmL A ps) (hq : SmL B qs) (hA : 0 < A) (hB : 0 < B) : SmL (A + B + 1) (addR ps qs) := fun p h => by
  obtain ⟨i, _, rfl⟩ := List.mem_map.mp h
  exact (hp.get hA).add (hq.get hB)
theorem by_sm {A B : Nat} {ps : List Rat} {x : Rat} (hp : SmL A ps) (hx : Sm B x) (hA : 0 < A) : SmL (A + B) (byR ps x) := fun p h => by
  obtain ⟨i, _, rfl⟩ := List.mem_map.mp h
  exact (hp.get hA).mul hx
theorem mul_sm {A B C : Nat} {ps qs : List Rat} (hp : SmL A ps) (hq : SmL B qs) (hA : 0 < A) (hB : 0 < B) (hC : 1 + ps.length * (A + B + 1) ≤ C) : SmL C (mulR ps qs) := fun p h => by
  exact (getL (bd_outer hp hq hA hB ps.length) p h).up hC
theorem SmL.trim {A : Nat} {ps : List Rat} (h : SmL A ps) : SmL A (trimR ps) := fun p hp => h p (trim_mem hp)
end Std
/-! S3: more of fractions; their texts. -/
namespace Std
open PySem L2 PyProof.Rows Mi
local macro_rules | `(tactic| walk_at "mi") => `(tactic| simp only [wp_mir, ws_cons, ws_nil, nx_nx, nx_rt, nx_bk, nx_ct, nx_er, fn_nx, fn_rt, fn_er, ws_asgN, ws_asgT, gs_cons, gs_nil, ex_tup, ex_pr, ws_asgS, ws_of, ws_some, wp_bnd, wp_ret, wp_new, ws_ite, wp_iteB, wp_stop,
  r_var, r_int, r_bl, r_str, r_non, r_glo, r_nil, r_cons, r_tup, r_lst, r_bin, r_cmp, r_tcmp, r_tval, r_tnot, r_and1, r_or1, r_and, r_or, r_if, r_vone, r_vand, r_vor, r_not, r_neg, r_chain, r_tchain,
  r_ix, r_slice, r_ono, r_oyes, r_B, r_call, r_call0, r_isi, s_expr, s_ret, s_if, s_par, s_while, s_for, s_brk, s_cont, s_pass, s_retN, i_T, i_L, i_A, i_En, i_Zp, r_rev, r_J, j_nil, j_lit, j_fmt, s_par3, o_isBt, o_isBn, o_fmtI, o_fmtS, o_put, o_sw, o_ls, o_part, r_callK, r_kNil, r_kCons, r_m0, r_m, f_nil, f_one, s_asg2, s_setLc, r_lc, o_revT, o_revL, o_max, o_min, o_all, o_any, o_aT, o_aF, o_aL, o_aS, o_enT, o_enL, o_zipT, o_zipL, fuelE, fuelZ, fuelS, o_mulL, o_mulS, o_isTL, o_isTS, wp_app, wp_pop, i_R1, i_R2,
  List.map_cons, List.map_nil, List.replicate_succ, List.replicate_zero, List.nil_append, List.cons_append, List.length_cons, List.length_nil, Nat.reduceAdd, Nat.add_assoc, Nat.zero_add, Nat.add_zero, Nat.reduceSub, true_and, getV, List.getElem?_cons_zero, List.getElem?_cons_succ, List.set_cons_zero, List.set_cons_succ,
  o_add, o_addS, o_addT, o_addL, o_sub, o_mul, o_fdiv, o_mod, o_pow, o_neg, o_lt, o_le, o_gt, o_ge, o_eq, o_eqS, o_eqB, o_ne, o_neS, o_neB, o_is, o_isn, o_asB, o_asI, o_lenT, o_lenF, o_lenL, o_abs', o_int, o_intB, o_str, o_slT, o_slF, o_slL, o_listT, o_listF, o_listL, o_tupT, o_tupL, o_newL, o_seqF, o_seqL, o_tupW, o_rng1, o_rng2, fuelOf, fuelL, fuelR, wp_isi, tyN_int, tyN_bl, tyN_str, tyN_non, tyN_tup, tyN_fro, iS_NoneType, iS_bool, iS_int, iS_str, iS_tuple, iS_list, iS_dict, List.length_append, List.length_map, List.length_set,
  wp_lstE, setL_E, ex_lst, ex_n, at_off, at_off0, wp_withNew, o_keyI, o_keyS, wp_setE, set_off, set_off0, r_dict1, trn_nx, trn_ct, trn_bk, trn_rt, trn_er, List.append_assoc, List.getElem?_append_left, List.set_set, List.getElem?_set_self, wp_need, ix_ref, Mi.ix_tup, ix_fro, atD_0, atD_1, atD_2, decide_eq_true_eq, Bool.false_eq_true, false_implies, not_false_eq_true, true_implies, not_true_eq_false, Bool.true_eq_false, and_true, if_true, if_false, Int.cast_ofNat_Int, Int.reduceEq, Int.reduceLT, Int.reduceLE, decide_true, decide_false, Bool.not_true, Bool.not_false, reduceIte, eq_self, Nat.reduceLeDiff])
local macro_rules | `(tactic| walk_at "mi*") => `(tactic| simp only [wp_mir, ws_cons, ws_nil, nx_nx, nx_rt, nx_bk, nx_ct, nx_er, fn_nx, fn_rt, fn_er, ws_asgN, ws_asgT, gs_cons, gs_nil, ex_tup, ex_pr, ws_asgS, ws_of, ws_some, wp_bnd, wp_ret, wp_new, ws_ite, wp_iteB, wp_stop,
  r_var, r_int, r_bl, r_str, r_non, r_glo, r_nil, r_cons, r_tup, r_lst, r_bin, r_cmp, r_tcmp, r_tval, r_tnot, r_and1, r_or1, r_and, r_or, r_if, r_vone, r_vand, r_vor, r_not, r_neg, r_chain, r_tchain,
  r_ix, r_slice, r_ono, r_oyes, r_B, r_call, r_call0, r_isi, s_expr, s_ret, s_if, s_par, s_while, s_for, s_brk, s_cont, s_pass, s_retN, i_T, i_L, i_A, i_En, i_Zp, r_rev, r_J, j_nil, j_lit, j_fmt, s_par3, o_isBt, o_isBn, o_fmtI, o_fmtS, o_put, o_sw, o_ls, o_part, r_callK, r_kNil, r_kCons, r_m0, r_m, f_nil, f_one, s_asg2, s_setLc, r_lc, o_revT, o_revL, o_max, o_min, o_all, o_any, o_aT, o_aF, o_aL, o_aS, o_enT, o_enL, o_zipT, o_zipL, fuelE, fuelZ, fuelS, o_mulL, o_mulS, o_isTL, o_isTS, wp_app, wp_pop, i_R1, i_R2,
  List.map_cons, List.map_nil, List.replicate_succ, List.replicate_zero, List.nil_append, List.cons_append, List.length_cons, List.length_nil, Nat.reduceAdd, Nat.add_assoc, Nat.zero_add, Nat.add_zero, Nat.reduceSub, true_and, getV, List.getElem?_cons_zero, List.getElem?_cons_succ, List.set_cons_zero, List.set_cons_succ,
  o_add, o_addS, o_addT, o_addL, o_sub, o_mul, o_fdiv, o_mod, o_pow, o_neg, o_lt, o_le, o_gt, o_ge, o_eq, o_eqS, o_eqB, o_ne, o_neS, o_neB, o_is, o_isn, o_asB, o_asI, o_lenT, o_lenF, o_lenL, o_abs', o_int, o_intB, o_str, o_slT, o_slF, o_slL, o_listT, o_listF, o_listL, o_tupT, o_tupL, o_newL, o_seqF, o_seqL, o_tupW, o_rng1, o_rng2, fuelOf, fuelL, fuelR, wp_isi, tyN_int, tyN_bl, tyN_str, tyN_non, tyN_tup, tyN_fro, iS_NoneType, iS_bool, iS_int, iS_str, iS_tuple, iS_list, iS_dict, List.length_append, List.length_map, List.length_set,
  wp_lstE, setL_E, ex_lst, ex_n, at_off, at_off0, wp_withNew, o_keyI, o_keyS, wp_setE, set_off, set_off0, r_dict1, trn_nx, trn_ct, trn_bk, trn_rt, trn_er, List.append_assoc, List.getElem?_append_left, List.set_set, List.getElem?_set_self, wp_need, ix_ref, Mi.ix_tup, ix_fro, atD_0, atD_1, atD_2, decide_eq_true_eq, Bool.false_eq_true, false_implies, not_false_eq_true, true_implies, not_true_eq_false, Bool.true_eq_false, and_true, if_true, if_false, Int.cast_ofNat_Int, Int.reduceEq, Int.reduceLT, Int.reduceLE, decide_true, decide_false, Bool.not_true, Bool.not_false, reduceIte, eq_self, Nat.reduceLeDiff, *])
def k_FIGURES : D := (.str "0123456789")
def k_MOST_FIGURES : D := (.int 6)
def c_minus : CB := (bCons (sRet (cCall "plus" m_plus (aCons (cVar 0) (aCons (cTup (aCons (cNeg (cIx (cVar 1) (cInt 0))) (aCons (cIx (cVar 1) (cInt 1)) aNil))) aNil))))
  bNil)
def m_minus : List D → M D := mir 2 2 c_minus.run
def c_over : CB := (bCons (sIf (tCmpC .Eq eqD (cIx (cVar 1) (cInt 0)) (cInt 0)) (bCons sNever
  bNil) bNil)
  (bCons (sRet (cCall "times" m_times (aCons (cVar 0) (aCons (cIf (tCmpC .Gt gtD (cIx (cVar 1) (cInt 0)) (cInt 0)) (cTup (aCons (cIx (cVar 1) (cInt 1)) (aCons (cIx (cVar 1) (cInt 0)) aNil))) (cTup (aCons (cNeg (cIx (cVar 1) (cInt 1))) (aCons (cNeg (cIx (cVar 1) (cInt 0))) aNil)))) aNil))))
  bNil))
def m_over : List D → M D := mir 2 2 c_over.run
def c_less : CB := (bCons (sRet (cCmp .Lt ltD (cBin .Mult mulD (cIx (cVar 0) (cInt 0)) (cIx (cVar 1) (cInt 1))) (cBin .Mult mulD (cIx (cVar 1) (cInt 0)) (cIx (cVar 0) (cInt 1)))))
  bNil)
def m_less : List D → M D := mir 2 2 c_less.run
def c_fraction : CB := (bCons (sIf (tCmpC .Eq eqD (cVar 1) (cInt 0)) (bCons sNever
  bNil) bNil)
  (bCons (sAsg (gN 2) (cCall "shared_by" m_shared_by (aCons (cB "abs" absD (aCons (cVar 0) aNil)) (aCons (cB "abs" absD (aCons (cVar 1) aNil)) aNil))))
  (bCons (sIf (tCmpC .Lt ltD (cVar 1) (cInt 0)) (bCons (sPar 0 1 (cNeg (cVar 0)) (cNeg (cVar 1)))
  bNil) bNil)
  (bCons (sRet (cTup (aCons (cBin .FloorDiv fdivD (cVar 0) (cVar 2)) (aCons (cBin .FloorDiv fdivD (cVar 1) (cVar 2)) aNil))))
  bNil))))
def m_fraction : List D → M D := mir 3 2 c_fraction.run
def c_shown : CB := (bCons (sRet (cIf (tCmpC .Eq eqD (cIx (cVar 0) (cInt 1)) (cInt 1)) (cB "str" strD (aCons (cIx (cVar 0) (cInt 0)) aNil)) (cJ (jFmt (cIx (cVar 0) (cInt 0)) (jLit "/" (jFmt (cIx (cVar 0) (cInt 1)) jNil))))))
  bNil)
def m_shown : List D → M D := mir 1 1 c_shown.run
def c_number_of : CB := (bCons (sIf (wOr (tNotC (tChainC .LtE .LtE leD leD (cInt 1) (cB "len" lenD (aCons (cVar 0) aNil)) (cGlo "MOST_FIGURES" k_MOST_FIGURES))) (wOr1 (tNotC (tVal (cB "all" allD (aCons (cLc (iA (cVar 0)) (gN 1) fNil (cCmp .In (inD false) (cVar 1) (cGlo "FIGURES" k_FIGURES)) [("sign", 1)]) aNil)))))) (bCons (sRet cNon)
  bNil) bNil)
  (bCons (sRet (cB "int" intTx (aCons (cVar 0) aNil)))
  bNil))
def m_number_of : List D → M D := mir 2 1 c_number_of.run
def c_fraction_of : CB := (bCons (sIf (tNotC (tVal (cIsi "str" "str" (cVar 0)))) (bCons (sRet cNon)
  bNil) bNil)
  (bCons (sAsg (gT (gsCons (gN 2) (gsCons (gN 3) (gsCons (gN 4) gsNil))) 3) (cM "str" "partition" partD (cVar 0) (aCons (cStr "/") aNil)))
  (bCons (sPar 5 6 (cCall "number_of" m_number_of (aCons (cM "str" "lstrip" lsD (cVar 2) (aCons (cStr "-") aNil)) aNil)) (cIf (tCmpC .NotEq neD (cVar 3) (cStr "")) (cCall "number_of" m_number_of (aCons (cVar 4) aNil)) (cInt 1)))
  (bCons (sIf (wOr (tCmpC .Is isD (cVar 5) cNon) (wOr (tCmpC .Is isD (cVar 6) cNon) (wOr1 (tCmpC .Eq eqD (cVar 6) (cInt 0))))) (bCons (sRet cNon)
  bNil) bNil)
  (bCons (sAsg (gN 1) (cCall "fraction" m_fraction (aCons (cIf (tVal (cM "str" "startswith" swD (cVar 2) (aCons (cStr "-") aNil))) (cNeg (cVar 5)) (cVar 5)) (aCons (cVar 6) aNil))))
  (bCons (sRet (cIf (tCmpC .Eq eqD (cCall "shown" m_shown (aCons (cVar 1) aNil)) (cVar 0)) (cVar 1) cNon))
  bNil))))))
def m_fraction_of : List D → M D := mir 7 1 c_fraction_of.run
/-! ### minus, over, less, fraction -/
theorem fr_negq {q : Rat} : D.tup [.int (-q.num), .int q.den] = fr (-q) := rfl
theorem run_minus {A : Nat} {p q : Rat} {μ : List O} {E : Ex → List O → Prop} (hp : Sm A p) (hq : Sm A q) (h0 : 0 < A) (hA : A ≤ 9000) : Wp (m_minus [fr p, fr q]) μ (fun r μ' => r = fr (p - q) ∧ μ' = μ) E := by
  unfold m_minus c_minus
  have hs : sizeLine = 16777216 := sizeLine_eq
  have ix0 := @ix_fr0
  have ix1 := @ix_fr1
  walk_at "mi*"
  rw [fr_negq]
  refine (run_plus hp hq.neg h0 hA).mono ?_ fun _ _ z => z
  rintro _ _ ⟨rfl, rfl⟩
  exact ⟨by rw [Rat.sub_eq_add_neg], rfl⟩
theorem inv_pos {q : Rat} (h : 0 < q.num) : (q⁻¹).num = q.den ∧ (q⁻¹).den = q.num.natAbs := by
  have e : q⁻¹ = Rat.inv q := rfl
  rw [e]
  unfold Rat.inv
  rw [dif_neg (by omega), dif_pos h]
  exact ⟨rfl, rfl⟩
theorem inv_neg {q : Rat} (h : q.num < 0) : (q⁻¹).num = -q.den ∧ (q⁻¹).den = q.num.natAbs := by
  have e : q⁻¹ = Rat.inv q := rfl
  rw [e]
  unfold Rat.inv
  rw [dif_pos h]
  exact ⟨rfl, rfl⟩
theorem Sm.inv {A : Nat} {q : Rat} (h : Sm A q) (h0 : q ≠ 0) : Sm A (q⁻¹) := by
  have hn : q.num ≠ 0 := fun z => h0 (num0.mp z)
  rcases Int.lt_or_gt_of_ne hn with z | z
  · obtain ⟨e1, e2⟩ := inv_neg z
    exact ⟨by rw [e1, Int.natAbs_neg, Int.natAbs_natCast]; exact h.2, by rw [e2]; exact h.1⟩
  · obtain ⟨e1, e2⟩ := inv_pos z
    exact ⟨by rw [e1, Int.natAbs_natCast]; exact h.2, by rw [e2]; exact h.1⟩
theorem run_over {A : Nat} {p q : Rat} {μ : List O} {E : Ex → List O → Prop} (hp : Sm A p) (hq : Sm A q) (h0 : 0 < A) (hA : A ≤ 9000) (hne : q ≠ 0) : Wp (m_over [fr p, fr q]) μ (fun r μ' => r = fr (p / q) ∧ μ' = μ) E := by
  unfold m_over c_over
  have hs : sizeLine = 16777216 := sizeLine_eq
  have ix0 := @ix_fr0
  have ix1 := @ix_fr1
  have hn : ¬ q.num = 0 := fun z => hne (num0.mp z)
  have fin : Wp (m_times [fr p, fr (q⁻¹)]) μ (fun r μ' => r = fr (p / q) ∧ μ' = μ) E := by
    refine (run_times hp (hq.inv hne) h0 hA).mono ?_ fun _ _ z => z
    rintro _ _ ⟨rfl, rfl⟩
    exact ⟨by rw [Rat.div_def], rfl⟩
  by_cases hz : 0 < q.num
  · obtain ⟨e1, e2⟩ := inv_pos hz
    have e : D.tup [.int q.den, .int q.num] = fr (q⁻¹) := by
      unfold fr
      rw [e1, e2]
      have : ((q.num.natAbs : Nat) : Int) = q.num := by omega
      rw [this]
    walk_at "mi*"
  · have hz2 : q.num < 0 := by omega
    obtain ⟨e1, e2⟩ := inv_neg hz2
    have e : D.tup [.int (-q.den), .int (-q.num)] = fr (q⁻¹) := by
      unfold fr
      rw [e1, e2]
      have : ((q.num.natAbs : Nat) : Int) = -q.num := by omega
      rw [this]
    walk_at "mi*"
theorem lt_cross (p q : Rat) : (p.num * q.den < q.num * p.den) ↔ p < q := (Rat.lt_iff p q).symm
theorem run_less {A : Nat} {p q : Rat} {μ : List O} {E : Ex → List O → Prop} (hp : Sm A p) (hq : Sm A q) (h0 : 0 < A) (hA : A ≤ 9000) : Wp (m_less [fr p, fr q]) μ (fun r μ' => r = .bl (decide (p < q)) ∧ μ' = μ) E := by
  unfold m_less c_less
  have ix0 := @ix_fr0
  have ix1 := @ix_fr1
  have m1 : mulOk p.num q.den := mulOk_n (A := A) (B := A) hp.1 (by rw [Int.natAbs_natCast]; exact hq.2) h0 h0 (by omega)
  have m2 : mulOk q.num p.den := mulOk_n (A := A) (B := A) hq.1 (by rw [Int.natAbs_natCast]; exact hp.2) h0 h0 (by omega)
  have hl := lt_cross p q
  walk_at "mi*"
theorem run_fraction {A : Nat} {n d : Int} {μ : List O} {E : Ex → List O → Prop} (hd : d ≠ 0) (h1 : n.natAbs < 2 ^ A) (h2 : d.natAbs < 2 ^ A) (hA : A ≤ 9000) : Wp (m_fraction [.int n, .int d]) μ (fun r μ' => r = fr (Rat.divInt n d) ∧ μ' = μ) E := by
  unfold m_fraction c_fraction
  have hs : sizeLine = 16777216 := sizeLine_eq
  walk_at "mi*"
  refine Wp.go (run_shared _ _ _ _) ?_
  rintro _ _ ⟨rfl, rfl⟩
  have hg : 0 < Nat.gcd n.natAbs d.natAbs := Nat.gcd_pos_of_pos_right _ (by omega)
  have kd := divOk_n (d := Nat.gcd n.natAbs d.natAbs) (Nat.lt_of_le_of_lt (Nat.le_of_dvd (by omega) (Nat.gcd_dvd_right _ _)) h2) hg hA
  by_cases hn : d < 0
  · walk_at "mi*"
    have hm := made_of (t := n) (low := d) (s := -1) hd (by omega) (.inr rfl)
    rw [Int.neg_one_mul, Int.neg_one_mul] at hm
    exact made_fr hd hm
  · walk_at "mi*"
    have hm := made_of (t := n) (low := d) (s := 1) hd (by omega) (.inl rfl)
    rw [Int.one_mul, Int.one_mul] at hm
    exact made_fr hd hm
/-! ### texts by their signs -/
abbrev T (l : List Nat) : Str := SX.S l
def sgn (i : Int) : List Nat := if i < 0 then [45] else []
theorem txt_int (i : Int) : Str.ofString (toString i) = T (sgn i ++ TL.numL i.natAbs) := by
  cases i with
  | ofNat n =>
    have e : sgn (Int.ofNat n) = [] := by unfold sgn; rw [if_neg (by simp)]
    rw [e]
    exact SX.num_S n
  | negSucc m =>
    have e : sgn (Int.negSucc m) = [45] := by unfold sgn; rw [if_pos (Int.negSucc_lt_zero m)]
    rw [e]
    refine TL.ext_tl ?_
    rw [TL.tl_ofString]
    have h1 : toString (Int.negSucc m) = "-" ++ toString (m + 1) := rfl
    have h2 : TL.tl (Str.ofString (toString (((m + 1 : Nat) : Nat) : Int))) = TL.numL (m + 1) := TL.tl_num (m + 1)
    rw [TL.tl_ofString] at h2
    have h3 : toString (((m + 1 : Nat) : Nat) : Int) = toString (m + 1) := rfl
    rw [h3] at h2
    rw [h1, String.toList_append, List.map_append, h2]
    rfl
theorem minus_S : Str.ofString "-" = T [45] := by decide +kernel
theorem bar_S : Str.ofString "/" = T [47] := by decide +kernel
theorem empty_S : Str.ofString "" = T [] := by decide +kernel
theorem blank_S : Str.ofString " " = T [32] := by decide +kernel
theorem dropw {p : Nat → Bool} : ∀ l : List Nat, l.drop (l.takeWhile p).length = l.dropWhile p
  | [] => rfl
  | c :: r => by
    rw [List.takeWhile_cons, List.dropWhile_cons]
    split
    · rw [List.length_cons, List.drop_succ_cons, dropw r]
    · rfl
theorem lstrip_S (l : List Nat) : Txt.lstripChars (T l) (T [45]) = T (l.dropWhile (· == 45)) := by
  unfold Txt.lstripChars
  rw [PyProof.Rows.stripBy_eq]
  refine TL.ext_tl ?_
  have hlo : stripLo (T [45]).cps.contains true (T l) = (l.takeWhile (· == 45)).length := by
    unfold stripLo
    rw [if_pos rfl]
    have e : (T [45]).cps.contains = fun c => c == 45 := by
      funext c
      show (#[45] : Array Nat).contains c = _
      simp [Bool.beq_comm]
      rfl
    rw [e]
  have hhi : ∀ lo, stripHi (T [45]).cps.contains false (T l) lo = (T l).length := fun lo => by
    unfold stripHi
    rw [if_neg Bool.false_ne_true]
  rw [hlo, hhi, TL.tl_strSub_end]
  exact dropw l
theorem sw_S (c : Nat) (l : List Nat) : Txt.startswith (T (c :: l)) (T [45]) = (c == 45) := by
  unfold Txt.startswith Builtin.Str.subAt
  simp [Str.length]
def dig (c : Nat) : Bool := decide (48 ≤ c) && decide (c ≤ 57)
def numO (l : List Nat) : Option Nat := if 1 ≤ l.length ∧ l.length ≤ 6 ∧ l.all dig = true then some (NumText.digitsVal l) else none
def ofO : Option Nat → D
  | some n => .int n
  | none => .non
theorem figs : (Str.ofString "0123456789").cps.toList = [48, 49, 50, 51, 52, 53, 54, 55, 56, 57] := by decide +kernel
theorem in_figs (c : Nat) : inD false (.str ⟨#[c]⟩) (.str (Str.ofString "0123456789")) = M.ret (.bl (dig c)) := by
  show M.ret (D.bl (decide (c ∈ (Str.ofString "0123456789").cps.toList))) = _
  congr 2
  rw [figs]
  unfold dig
  by_cases h : 48 ≤ c ∧ c ≤ 57
  · rw [decide_eq_true (by simp only [List.mem_cons, List.not_mem_nil, or_false]; omega), decide_eq_true h.1, decide_eq_true h.2]
    rfl
  · rw [decide_eq_false (by simp only [List.mem_cons, List.not_mem_nil, or_false]; omega)]
    by_cases h1 : 48 ≤ c
    · have h2 : ¬ c ≤ 57 := fun z => h ⟨h1, z⟩
      simp [h1, h2]
    · simp [h1]
theorem bls_map : ∀ l : List Nat, blsOf (l.map fun c => D.bl (dig c)) = some (l.map dig)
  | [] => rfl
  | c :: r => by
    rw [List.map_cons]
    unfold blsOf
    rw [bls_map r]
    rfl
theorem all_id (l : List Nat) : (l.map dig).all id = l.all dig := by
  rw [List.all_map]
  rfl
theorem run_number {l : List Nat} {μ : List O} {E : Ex → List O → Prop} (hl : l.length ≤ 10000) : Wp (m_number_of [.str (T l)]) μ (fun r μ' => r = ofO (numO l) ∧ Gr0 μ μ') E := by
  unfold m_number_of c_number_of k_MOST_FIGURES k_FIGURES
  have hs : sizeLine = 16777216 := sizeLine_eq
  have lt := SX.S_len l
  have ol : lenD [.str (T l)] = M.ret (.int l.length) := by
    show (if (T l).length ≤ sizeLine then M.ret (D.int (T l).length) else M.stop) = _
    rw [lt, if_pos (by omega)]
  by_cases h1 : 1 ≤ (l.length : Int)
  · by_cases h6 : (l.length : Int) ≤ 6
    · walk_at "mi*"
      refine wp_lc_map (get := fun i => (T l).cps[i]?.map fun c => .str ⟨#[c]⟩) l.length (fun i => .bl (dig (l.getD i 0))) (by show _ ≤ (T l).cps.size; simp) (by omega) (fun i acc => rfl) (fun i hi => by simp [hi]) (by simp) ?_ ?_
      · intro i d acc hi hd
        have hd' : D.str ⟨#[l.getD i 0]⟩ = d := by
          simp [hi] at hd
          rw [← hd, List.getD_eq_getElem?_getD, List.getElem?_eq_getElem hi]
          rfl
        subst hd'
        refine ⟨_, rfl, wp_ret.mpr ⟨rfl, rfl⟩, ?_⟩
        dsimp only [wipeE, List.map_cons, List.map_nil, List.set_cons_succ, List.set_cons_zero]
        have hin := in_figs (l.getD i 0)
        walk_at "mi*"
      · have e : (List.range l.length).map (fun i => D.bl (dig (l.getD i 0))) = l.map fun c => D.bl (dig c) := by
          apply List.ext_getElem?
          intro i
          by_cases hi : i < l.length
          · rw [List.getElem?_map, List.getElem?_range hi, List.getElem?_map, List.getElem?_eq_getElem hi]
            show some (D.bl (dig (l.getD i 0))) = some (D.bl (dig l[i]))
            rw [List.getD_eq_getElem?_getD, List.getElem?_eq_getElem hi]
            rfl
          · rw [List.getElem?_eq_none (by simp; omega), List.getElem?_eq_none (by simp; omega)]
        rw [e]
        have hb := bls_map l
        have ha := all_id l
        walk_at "mi*"
        have hd : ∀ b, l.all dig = b → numO l = (if b = true then some (NumText.digitsVal l) else none) := by
          intro b hb
          unfold numO
          rw [hb]
          cases b
          · rw [if_neg (by simp), if_neg Bool.false_ne_true]
          · rw [if_pos (by refine ⟨by omega, by omega, rfl⟩), if_pos rfl]
        cases hq : l.all dig with
        | false =>
          rw [hd _ hq]
          exact ⟨fun _ => ⟨rfl, Gr0.app _ _⟩, fun z => (z rfl).elim⟩
        | true =>
          rw [hd _ hq]
          refine ⟨fun z => (nomatch z), fun _ => ?_⟩
          have hi : PySem.intText? (T l) = some ((NumText.digitsVal l : Nat) : Int) := SX.int_S hq (by intro z; subst z; simp at h1) (by omega)
          have e2 : intTx [.str (T l)] = M.ret (.int (NumText.digitsVal l : Nat)) := by
            show (match PySem.intText? (T l) with | some n => if (T l).length ≤ 640 then M.ret (D.int n) else M.stop | none => M.stop) = _
            rw [hi]
            show (if (T l).length ≤ 640 then _ else _) = _
            rw [lt, if_pos (by omega)]
          rw [e2, wp_ret]
          exact ⟨rfl, Gr0.app _ _⟩
    · have hn : numO l = none := by unfold numO; rw [if_neg (by omega)]
      walk_at "mi*"
      exact ⟨rfl, Gr0.refl _⟩
  · have hn : numO l = none := by unfold numO; rw [if_neg (by omega)]
    walk_at "mi*"
    exact ⟨rfl, Gr0.refl _⟩
def txt (q : Rat) : List Nat := (sgn q.num ++ TL.numL q.num.natAbs) ++ (if q.den = 1 then [] else 47 :: TL.numL q.den)
theorem numL_le {n A : Nat} (h : n < 2 ^ A) (h0 : 0 < A) : (TL.numL n).length ≤ A := TL.numL_len h0 (Nat.lt_of_lt_of_le h (Nat.pow_le_pow_left (by omega) _))
theorem sgn_len (i : Int) : (sgn i).length ≤ 1 := by
  unfold sgn
  split <;> simp
theorem run_shown {A : Nat} {q : Rat} {μ : List O} {E : Ex → List O → Prop} (hq : Sm A q) (h0 : 0 < A) (hA : A ≤ 1900) : Wp (m_shown [fr q]) μ (fun r μ' => r = .str (T (txt q)) ∧ μ' = μ) E := by
  unfold m_shown c_shown
  have hs : sizeLine = 16777216 := sizeLine_eq
  have ix0 := @ix_fr0
  have ix1 := @ix_fr1
  have l1 : q.num.natAbs.log2 < 1920 := Nat.lt_of_lt_of_le (log2_lt hq.1 h0) (by omega)
  have l2 : q.den.log2 < 1920 := Nat.lt_of_lt_of_le (log2_lt hq.2 h0) (by omega)
  have l2' : ((q.den : Nat) : Int).natAbs.log2 < 1920 := by rw [Int.natAbs_natCast]; exact l2
  have n1 := numL_le hq.1 h0
  have n2 := numL_le hq.2 h0
  have n3 := sgn_len q.num
  by_cases hd : q.den = 1
  · have hd' : ((q.den : Nat) : Int) = 1 := by omega
    have e : txt q = sgn q.num ++ TL.numL q.num.natAbs := by unfold txt; rw [if_pos hd, List.append_nil]
    have ti := txt_int q.num
    walk_at "mi*"
  · have hd' : ¬ ((q.den : Nat) : Int) = 1 := by omega
    have e : txt q = (sgn q.num ++ TL.numL q.num.natAbs) ++ (47 :: TL.numL q.den) := by unfold txt; rw [if_neg hd]
    have ti := txt_int q.num
    have td := SX.num_S q.den
    have hb := bar_S
    have c1 : ∀ a b : List Nat, T a ++ T b = T (a ++ b) := SX.S_cat
    have c0 : Str.empty = T [] := rfl
    have lT : ∀ a : List Nat, (T a).length = a.length := SX.S_len
    walk_at "mi*"
    exact ⟨by omega, by omega, by omega⟩
theorem dv_lt : ∀ (n : Nat) (l : List Nat), l.length = n → l.all dig = true → NumText.digitsVal l < 10 ^ n
  | 0, l, h, _ => by
    have : l = [] := List.length_eq_zero_iff.mp h
    subst this
    decide
  | n + 1, l, h, ha => by
    rcases List.eq_nil_or_concat l with z | ⟨r, c, z⟩
    · subst z; simp at h
    · have z : l = r ++ [c] := by rw [z]; simp
      subst z
      rw [NumText.digitsVal_snoc]
      rw [List.all_append, Bool.and_eq_true] at ha
      have hr := dv_lt n r (by simpa using h) ha.1
      have hc : dig c = true := by simpa using ha.2
      unfold dig at hc
      simp only [Bool.and_eq_true, decide_eq_true_eq] at hc
      rw [Nat.pow_succ]
      omega
theorem numO_lt {l : List Nat} {n : Nat} (h : numO l = some n) : n < 1000000 := by
  unfold numO at h
  split at h
  · rename_i z
    cases h
    have h1 := dv_lt l.length l rfl z.2.2
    have h2 : 10 ^ l.length ≤ 10 ^ 6 := Nat.pow_le_pow_right (by omega) z.2.1
    omega
  · cases h
/-- a text read as a fraction -/
def readO (neg : Bool) (l : List Nat) : Option Nat → Option Nat → Option Rat
  | some a, some b => if b = 0 then none else
    if txt (Rat.divInt (if neg then -(a : Int) else a) b) = l then some (Rat.divInt (if neg then -(a : Int) else a) b) else none
  | _, _ => none
def fracO (l : List Nat) : Option Rat := match TL.par [47] [] l with
  | some (p, r) => readO (p.head? == some 45) l (numO (p.dropWhile (· == 45))) (numO r)
  | none => readO (l.head? == some 45) l (numO (l.dropWhile (· == 45))) (some 1)
def ofQ : Option Rat → D
  | some q => fr q
  | none => .non
theorem sw_head (l : List Nat) : Txt.startswith (T l) (T [45]) = (l.head? == some 45) := by
  cases l with
  | nil => decide
  | cons c r =>
    rw [sw_S]
    show (c == 45) = (some c == some 45)
    rfl
theorem readO_1 {neg : Bool} {l : List Nat} {a b : Nat} (h : b ≠ 0) : readO neg l (some a) (some b) = if txt (Rat.divInt (if neg then -(a : Int) else a) b) = l then some (Rat.divInt (if neg then -(a : Int) else a) b) else none := by
  show (if b = 0 then none else _) = _
  rw [if_neg h]
theorem readO_0 {neg : Bool} {l : List Nat} {a : Nat} : readO neg l (some a) (some 0) = none := rfl
theorem par_len : ∀ (l acc p r : List Nat), TL.par [47] acc l = some (p, r) → p.length + r.length ≤ acc.length + l.length
  | [], acc, p, r, h => by simp [TL.par] at h
  | c :: t, acc, p, r, h => by
    cases hp : TL.pre [47] (c :: t) with
    | true =>
      rw [TL.par_hit hp] at h
      cases h
      simp
    | false =>
      rw [TL.par_miss hp] at h
      have := par_len t (acc ++ [c]) p r h
      simp at this ⊢
      omega
theorem T_inj {a b : List Nat} : (T a = T b) ↔ a = b := ⟨SX.S_inj, fun h => by rw [h]⟩
theorem run_fraction_of {l : List Nat} {μ : List O} {E : Ex → List O → Prop} (hl : l.length ≤ 5000) : Wp (m_fraction_of [.str (T l)]) μ (fun r μ' => r = ofQ (fracO l) ∧ Gr0 μ μ') E := by
  unfold m_fraction_of c_fraction_of
  have hs : sizeLine = 16777216 := sizeLine_eq
  have lt : ∀ a : List Nat, (T a).length = a.length := SX.S_len
  have hm := minus_S
  have hb := bar_S
  have he := empty_S
  have ls := lstrip_S
  have sw := sw_head
  have lb : ((T [47]).length == 0) = false := rfl
  have nn : ¬ (T [47] = T []) := fun z => by have := SX.S_inj z; cases this
  -- what comes behind the two numbers
  have fin : ∀ (n : Int) (b : Nat) (μ1 : List O) (X : D), b ≠ 0 → n.natAbs < 2 ^ 20 → b < 2 ^ 20 → Gr0 μ μ1 → X = ofQ (if txt (Rat.divInt n b) = l then some (Rat.divInt n b) else none) →
      Wp (m_fraction [.int n, .int b]) μ1 (fun d μ' => Wp (m_shown [d]) μ' (fun d_1 μ' => Wp (eqD d_1 (.str (T l))) μ' (fun d_2 μ' => Wp (asB d_2) μ' (fun d3 μ' => (d3 = true → d = X ∧ Gr0 μ μ') ∧ (¬ d3 = true → D.non = X ∧ Gr0 μ μ')) fun x μ' => E x μ') fun x μ' => E x μ') fun x μ' => E x μ') fun x μ' => E x μ' := by
    intro n b μ1 X hb0 h1 h2 g hX
    have hd : (b : Int) ≠ 0 := by omega
    refine Wp.go (run_fraction (A := 20) hd h1 (by rw [Int.natAbs_natCast]; exact h2) (by omega)) ?_
    rintro _ _ ⟨rfl, rfl⟩
    have sm : Sm 20 (Rat.divInt n b) := Sm.of hd rfl h1 (by rw [Int.natAbs_natCast]; exact h2)
    refine Wp.go (run_shown sm (by omega) (by omega)) ?_
    rintro _ _ ⟨rfl, rfl⟩
    by_cases ht : txt (Rat.divInt n b) = l
    · rw [if_pos ht] at hX
      rw [ht, o_eqS, wp_ret, o_asB, wp_ret]
      rw [decide_eq_true rfl]
      exact ⟨fun _ => ⟨hX.symm, g⟩, fun z => (z rfl).elim⟩
    · rw [if_neg ht] at hX
      have hT : ¬ (T (txt (Rat.divInt n b)) = T l) := fun z => ht (SX.S_inj z)
      rw [o_eqS, wp_ret, o_asB, wp_ret, decide_eq_false hT]
      exact ⟨fun z => (nomatch z), fun _ => ⟨hX.symm, g⟩⟩
  have e20 : (1000000 : Nat) ≤ 2 ^ 20 := by decide
  have dl : ∀ a : List Nat, (a.dropWhile (· == 45)).length ≤ a.length := fun a => (List.dropWhile_sublist _).length_le
  cases hp : TL.par [47] [] l with
  | none =>
    have hpt : Txt.partition (T l) (T [47]) = (T l, T [], T []) := SX.partition_none (by simp) hp
    have hF : fracO l = readO (l.head? == some 45) l (numO (l.dropWhile (· == 45))) (some 1) := by unfold fracO; rw [hp]
    walk_at "mi*"
    refine ⟨⟨rfl, by omega⟩, by omega, Wp.go (run_number (Nat.le_trans (dl l) (by omega))) ?_⟩
    rintro _ μ1 ⟨rfl, g1⟩
    cases hn : numO (l.dropWhile (· == 45)) with
    | none =>
      refine ⟨fun _ => ⟨rfl, g1⟩, fun z => (z rfl).elim⟩
    | some a =>
      have ha := numO_lt hn
      refine ⟨fun z => (nomatch z), fun _ => ⟨fun z => (nomatch z), fun _ => ?_⟩⟩
      cases hh : (l.head? == some 45) with
      | true =>
        refine ⟨fun _ => ?_, fun z => (z rfl).elim⟩
        show Wp (negD (.int a)) μ1 _ _
        rw [o_neg, wp_ret]
        refine fin (-(a : Int)) 1 μ1 _ (by omega) (by rw [Int.natAbs_neg, Int.natAbs_natCast]; omega) (by omega) g1 ?_
        rw [readO_1 (by omega)]
        rfl
      | false =>
        refine ⟨fun z => (nomatch z), fun _ => ?_⟩
        refine fin (a : Int) 1 μ1 _ (by omega) (by rw [Int.natAbs_natCast]; omega) (by omega) g1 ?_
        rw [readO_1 (by omega)]
        rfl
  | some pr =>
    obtain ⟨p, r⟩ := pr
    have hpt : Txt.partition (T l) (T [47]) = (T p, T [47], T r) := SX.partition_some (by simp) hp
    have hF : fracO l = readO (p.head? == some 45) l (numO (p.dropWhile (· == 45))) (numO r) := by unfold fracO; rw [hp]
    have hlen : p.length ≤ 5000 ∧ r.length ≤ 5000 := by
      have := par_len l [] p r hp
      simp at this
      omega
    walk_at "mi*"
    refine ⟨⟨rfl, by omega⟩, by omega, Wp.go (run_number (Nat.le_trans (dl p) (by omega))) ?_⟩
    rintro _ μ1 ⟨rfl, g1⟩
    refine Wp.go (run_number (by omega)) ?_
    rintro _ μ2 ⟨rfl, g2⟩
    have g12 := g1.trans g2
    cases hn : numO (p.dropWhile (· == 45)) with
    | none => exact ⟨fun _ => ⟨rfl, g12⟩, fun z => (z rfl).elim⟩
    | some a =>
      have ha := numO_lt hn
      refine ⟨fun z => (nomatch z), fun _ => ?_⟩
      cases hm2 : numO r with
      | none => exact ⟨fun _ => ⟨rfl, g12⟩, fun z => (z rfl).elim⟩
      | some b =>
        have hb2 := numO_lt hm2
        refine ⟨fun z => (nomatch z), fun _ => ?_⟩
        show Wp (eqD (.int b) (.int 0)) μ2 _ _
        rw [o_eq, wp_ret, o_asB, wp_ret]
        by_cases hb0 : b = 0
        · subst hb0
          exact ⟨fun _ => ⟨rfl, g12⟩, fun z => (z rfl).elim⟩
        · rw [decide_eq_false (show ¬ ((b : Int) = 0) by omega)]
          refine ⟨fun z => (nomatch z), fun _ => ?_⟩
          cases hh : (p.head? == some 45) with
          | true =>
            refine ⟨fun _ => ?_, fun z => (z rfl).elim⟩
            show Wp (negD (.int a)) μ2 _ _
            rw [o_neg, wp_ret]
            refine fin (-(a : Int)) b μ2 _ hb0 (by rw [Int.natAbs_neg, Int.natAbs_natCast]; omega) (by omega) g12 ?_
            rw [readO_1 hb0]
            rfl
          | false =>
            refine ⟨fun z => (nomatch z), fun _ => ?_⟩
            refine fin (a : Int) b μ2 _ hb0 (by rw [Int.natAbs_natCast]; omega) (by omega) g12 ?_
            rw [readO_1 hb0]
            rfl
theorem dig_num (n : Nat) : (TL.numL n).all dig = true := by
  rw [List.all_eq_true]
  intro c hc
  have h := TL.numL_digits n
  have := h c hc
  unfold dig
  simp only [Bool.and_eq_true, decide_eq_true_eq]
  omega
theorem numO_num (n : Nat) : numO (TL.numL n) = if n < 1000000 then some n else none := by
  have hd := dig_num n
  have h1 : 1 ≤ (TL.numL n).length := by
    have := TL.numL_ne n
    cases h : TL.numL n with
    | nil => exact (this h).elim
    | cons a b => simp
  unfold numO
  by_cases h : n < 1000000
  · rw [if_pos ⟨h1, TL.numL_len (by omega) h, hd⟩, if_pos h, TL.numL_val]
  · rw [if_neg h, if_neg]
    rintro ⟨_, h6, _⟩
    have h2 := dv_lt _ _ rfl hd
    rw [TL.numL_val] at h2
    have h3 : 10 ^ (TL.numL n).length ≤ 10 ^ 6 := Nat.pow_le_pow_right (by omega) h6
    omega
theorem numO_bad {l : List Nat} {c : Nat} (hc : c ∈ l) (h : dig c = false) : numO l = none := by
  unfold numO
  rw [if_neg]
  rintro ⟨_, _, ha⟩
  have := List.all_eq_true.mp ha c hc
  rw [h] at this
  cases this
theorem num_head (n : Nat) : ∃ c r, TL.numL n = c :: r ∧ c ≠ 45 := by
  cases h : TL.numL n with
  | nil => exact (TL.numL_ne n h).elim
  | cons c r =>
    refine ⟨c, r, rfl, fun z => ?_⟩
    have := TL.numL_free (n := n) (s := 45) (by omega)
    rw [h, z] at this
    exact this List.mem_cons_self
theorem drop_sgn (i : Int) (n : Nat) (r : List Nat) : ((sgn i ++ TL.numL n) ++ r).dropWhile (· == 45) = TL.numL n ++ r := by
  obtain ⟨c, t, e, hc⟩ := num_head n
  have h2 : (c :: t ++ r).dropWhile (· == 45) = c :: t ++ r := by
    rw [List.cons_append, List.dropWhile_cons, if_neg (by simpa using hc)]
  unfold sgn
  split
  · rw [e, List.append_assoc, List.singleton_append, List.dropWhile_cons, if_pos (by simp)]
    exact h2
  · rw [e, List.nil_append]
    exact h2
theorem head_sgn (i : Int) (n : Nat) (r : List Nat) : (((sgn i ++ TL.numL n) ++ r).head? == some 45) = decide (i < 0) := by
  obtain ⟨c, t, e, hc⟩ := num_head n
  unfold sgn
  split
  · rename_i h
    rw [decide_eq_true h]
    rfl
  · rename_i h
    rw [decide_eq_false h, e]
    show (some c == some 45) = false
    simpa using hc
theorem sgn_num_free (i : Int) (n : Nat) : 47 ∉ sgn i ++ TL.numL n := by
  intro h
  rcases List.mem_append.mp h with h | h
  · unfold sgn at h
    split at h
    · simp at h
    · cases h
  · exact TL.numL_free (n := n) (s := 47) (by omega) h
theorem signed (q : Rat) : (if decide (q.num < 0) = true then -(q.num.natAbs : Int) else q.num.natAbs) = q.num := by
  by_cases h : q.num < 0
  · rw [decide_eq_true h, if_pos rfl]; omega
  · rw [decide_eq_false h, if_neg Bool.false_ne_true]; omega
def few (q : Rat) : Bool := decide (q.num.natAbs < 1000000) && decide (q.den < 1000000)
theorem fracO_txt (q : Rat) : fracO (txt q) = if few q = true then some q else none := by
  by_cases hd : q.den = 1
  · have e : txt q = (sgn q.num ++ TL.numL q.num.natAbs) ++ [] := by unfold txt; rw [if_pos hd]
    have hp : TL.par [47] [] (txt q) = none := by
      rw [e, List.append_nil]
      exact TL.par_none1 (sgn_num_free _ _)
    unfold fracO
    rw [hp]
    dsimp only
    have hh : ((txt q).head? == some 45) = decide (q.num < 0) := by rw [e]; exact head_sgn _ _ _
    have hw : (txt q).dropWhile (· == 45) = TL.numL q.num.natAbs := by rw [e, drop_sgn, List.append_nil]
    rw [hh, hw, numO_num]
    have hq : Rat.divInt q.num ((1 : Nat) : Int) = q := by
      have := Rat.num_divInt_den q
      rw [hd] at this
      exact this
    unfold few
    by_cases h : q.num.natAbs < 1000000
    · rw [if_pos h, readO_1 (by omega), signed, hq, if_pos rfl, if_pos (by simp [h, hd])]
    · rw [if_neg h, if_neg (by simp [h])]
      rfl
  · have e : txt q = (sgn q.num ++ TL.numL q.num.natAbs) ++ (47 :: TL.numL q.den) := by unfold txt; rw [if_neg hd]
    have hp : TL.par [47] [] (txt q) = some (sgn q.num ++ TL.numL q.num.natAbs, TL.numL q.den) := by
      rw [e]
      exact SX.par_head (c := 47) (sep := []) _ (sgn_num_free _ _)
    unfold fracO
    rw [hp]
    dsimp only
    have hh : ((sgn q.num ++ TL.numL q.num.natAbs).head? == some 45) = decide (q.num < 0) := by
      have := head_sgn q.num q.num.natAbs []
      rwa [List.append_nil] at this
    have hw : (sgn q.num ++ TL.numL q.num.natAbs).dropWhile (· == 45) = TL.numL q.num.natAbs := by
      have := drop_sgn q.num q.num.natAbs []
      rwa [List.append_nil, List.append_nil] at this
    rw [hh, hw, numO_num, numO_num]
    unfold few
    by_cases h : q.num.natAbs < 1000000
    · by_cases h2 : q.den < 1000000
      · rw [if_pos h, if_pos h2, readO_1 q.den_nz, signed, Rat.num_divInt_den, if_pos rfl, if_pos (by simp [h, h2])]
      · rw [if_pos h, if_neg h2, if_neg (by simp [h2])]
        rfl
    · have hf : (decide (q.num.natAbs < 1000000) && decide (q.den < 1000000)) = false := by simp [h]
      rw [hf, if_neg h, if_neg Bool.false_ne_true]
      rfl
theorem fracO_blank (q : Rat) : fracO (txt q ++ [32]) = none := by
  by_cases hd : q.den = 1
  · have e : txt q ++ [32] = (sgn q.num ++ TL.numL q.num.natAbs) ++ [32] := by unfold txt; rw [if_pos hd, List.append_nil]
    have hp : TL.par [47] [] (txt q ++ [32]) = none := by
      rw [e]
      refine TL.par_none1 fun h => ?_
      rcases List.mem_append.mp h with h | h
      · exact sgn_num_free _ _ h
      · simp at h
    unfold fracO
    rw [hp]
    dsimp only
    have hw : (txt q ++ [32]).dropWhile (· == 45) = TL.numL q.num.natAbs ++ [32] := by rw [e, drop_sgn]
    rw [hw, numO_bad (c := 32) (by simp) rfl]
    rfl
  · have e : txt q ++ [32] = (sgn q.num ++ TL.numL q.num.natAbs) ++ (47 :: (TL.numL q.den ++ [32])) := by unfold txt; rw [if_neg hd]; simp
    have hp : TL.par [47] [] (txt q ++ [32]) = some (sgn q.num ++ TL.numL q.num.natAbs, TL.numL q.den ++ [32]) := by
      rw [e]
      exact SX.par_head (c := 47) (sep := []) _ (sgn_num_free _ _)
    unfold fracO
    rw [hp]
    dsimp only
    rw [numO_bad (l := TL.numL q.den ++ [32]) (c := 32) (by simp) rfl]
    cases numO ((sgn q.num ++ TL.numL q.num.natAbs).dropWhile (· == 45)) <;> rfl
theorem sgn_inj {i j : Int} (h : sgn i ++ TL.numL i.natAbs = sgn j ++ TL.numL j.natAbs) : i = j := by
  have h1 := head_sgn i i.natAbs []
  have h2 := head_sgn j j.natAbs []
  have d1 := drop_sgn i i.natAbs []
  have d2 := drop_sgn j j.natAbs []
  rw [List.append_nil] at h1 h2 d1 d2
  rw [h] at h1 d1
  rw [h2] at h1
  rw [d2, List.append_nil, List.append_nil] at d1
  have e := TL.numL_inj d1
  by_cases hi : i < 0
  · rw [decide_eq_true hi] at h1
    have := of_decide_eq_true h1
    omega
  · rw [decide_eq_false hi] at h1
    have := of_decide_eq_false h1
    omega
theorem txt_par (q : Rat) : (q.den = 1 ∧ TL.par [47] [] (txt q) = none ∧ txt q = sgn q.num ++ TL.numL q.num.natAbs) ∨ (q.den ≠ 1 ∧ TL.par [47] [] (txt q) = some (sgn q.num ++ TL.numL q.num.natAbs, TL.numL q.den)) := by
  by_cases hd : q.den = 1
  · have e : txt q = sgn q.num ++ TL.numL q.num.natAbs := by unfold txt; rw [if_pos hd, List.append_nil]
    exact .inl ⟨hd, by rw [e]; exact TL.par_none1 (sgn_num_free _ _), e⟩
  · have e : txt q = (sgn q.num ++ TL.numL q.num.natAbs) ++ (47 :: TL.numL q.den) := by unfold txt; rw [if_neg hd]
    exact .inr ⟨hd, by rw [e]; exact SX.par_head (c := 47) (sep := []) _ (sgn_num_free _ _)⟩
theorem txt_inj {p q : Rat} (h : txt p = txt q) : p = q := by
  rcases txt_par p with ⟨a1, a2, a3⟩ | ⟨a1, a2⟩ <;> rcases txt_par q with ⟨b1, b2, b3⟩ | ⟨b1, b2⟩
  · rw [a3, b3] at h
    exact Rat.ext (sgn_inj h) (by omega)
  · rw [h, b2] at a2
    cases a2
  · rw [h, b2] at a2
    cases a2
  · rw [h, b2] at a2
    simp only [Option.some.injEq, Prod.mk.injEq] at a2
    exact Rat.ext (sgn_inj a2.1.symm) (TL.numL_inj a2.2.symm)
theorem nev_fr (p q : Rat) : neD (fr p) (fr q) = M.ret (.bl (!decide (p = q))) := by
  funext μ
  have h1 : see μ 65 (fr p) = some (.tuple [.int p.num, .int p.den]) := rfl
  have h2 : see μ 65 (fr q) = some (.tuple [.int q.num, .int q.den]) := rfl
  show eqvD true (fr p) (fr q) μ = _
  have e := congrFun (eqv_fr p q) μ
  have e0 : eqvD false (fr p) (fr q) μ = some (.ok (.bl (decide (p = q))), μ) := e
  unfold eqvD at e0 ⊢
  rw [h1, h2] at e0 ⊢
  have s1 : ∀ a b : Int, SeqAt.shaped (.tuple [.int a, .int b]) = true := fun a b => rfl
  simp only [s1, and_self, if_true, Bool.false_eq_true, if_false, Option.some.injEq, Prod.mk.injEq, Except.ok.injEq, D.bl.injEq, and_true] at e0 ⊢
  rw [e0]
  rfl
theorem eq_ofQ (o : Option Rat) (q : Rat) : eqD (ofQ o) (fr q) = M.ret (.bl (decide (o = some q))) := by
  cases o with
  | some p =>
    show eqD (fr p) (fr q) = _
    rw [eqv_fr]
    congr 2
    simp
  | none =>
    funext μ
    have h2 : see μ 65 (fr q) = some (.tuple [.int q.num, .int q.den]) := rfl
    have h1 : see μ 65 .non = some .none := rfl
    show eqvD false .non (fr q) μ = _
    unfold eqvD
    rw [h1, h2]
    have s1 : ∀ a b : Int, SeqAt.shaped (.tuple [.int a, .int b]) = true := fun a b => rfl
    have s2 : SeqAt.shaped .none = true := rfl
    simp only [s1, s2, and_self, if_true, Bool.false_eq_true, if_false]
    have e : PyData.eqv .none (.tuple [.int q.num, .int q.den]) = false := by simp [PyData.eqv]
    rw [e]
    rfl
end Std
namespace Law
open PySem L2 PyProof.Rows Mi Std
/-! ### the text by its places, the codes of its defs (written by gen.py) -/
def top (i : Nat) : Stmt := PySem.Challenge.pw_wirereckon_k03_fractions_shown_and_read.main.body.getD i (.Pass ⟨0, 0, 0, 0⟩)
-- FIGURES: of Std
-- MOST_FIGURES: of Std
abbrev s_shared_by : Stmt := top 6
-- shared_by: of Std
abbrev s_fraction : Stmt := top 7
-- fraction: of Std
abbrev s_shown : Stmt := top 8
-- shown: of Std
abbrev s_number_of : Stmt := top 9
-- number_of: of Std
abbrev s_fraction_of : Stmt := top 10
-- fraction_of: of Std
abbrev s_l_begin : Stmt := top 12
-- l_begin: of Std
abbrev s_l_draw : Stmt := top 13
-- l_draw: of Std
abbrev s_l_shared : Stmt := top 14
-- l_shared: of Std
abbrev s_l_made : Stmt := top 15
-- l_made: of Std
abbrev s_l_whole : Stmt := top 16
-- l_whole: of Std
abbrev s_l_some : Stmt := top 17
-- l_some: of Std
abbrev s_l_number : Stmt := top 18
def c_l_number : CB := (bCons (sIf (wOr (tNotC (tChainC .Lt .Lt ltD ltD (cInt 0) (cB "len" lenD (aCons (cVar 0) aNil)) (cInt 7))) (wOr1 (tNotC (tVal (cB "all" allD (aCons (cLc (iA (cVar 0)) (gN 1) fNil (cCmp .In (inD false) (cVar 1) (cStr "0123456789")) [("_law_sign", 1)]) aNil)))))) (bCons (sRet cNon)
  bNil) bNil)
  (bCons (sRet (cIf (tCmpC .Eq eqD (cVar 0) (cB "str" strD (aCons (cB "int" intTx (aCons (cVar 0) aNil)) aNil))) (cB "int" intTx (aCons (cVar 0) aNil)) cNon))
  bNil))
def m_l_number : List D → M D := mir 2 1 c_l_number.run
abbrev s_l_read : Stmt := top 19
def c_l_read : CB := (bCons (sIf (tNotC (tVal (cIsi "str" "str" (cVar 0)))) (bCons (sRet cNon)
  bNil) bNil)
  (bCons (sAsg (gT (gsCons (gN 2) (gsCons (gN 3) (gsCons (gN 4) gsNil))) 3) (cM "str" "partition" partD (cVar 0) (aCons (cStr "/") aNil)))
  (bCons (sAsg (gN 1) (cIf (tCmpC .Eq eqD (cSlice (cVar 2) oNo (oYes (cInt 1))) (cStr "-")) (cNeg (cInt 1)) (cInt 1)))
  (bCons (sPar 5 6 (cCall "_law_number" m_l_number (aCons (cSlice (cVar 2) (oYes (cB "int" intTx (aCons (cCmp .Lt ltD (cVar 1) (cInt 0)) aNil))) oNo) aNil)) (cIf (tCmpC .NotEq neD (cVar 3) (cStr "")) (cCall "_law_number" m_l_number (aCons (cVar 4) aNil)) (cInt 1)))
  (bCons (sIf (wOr (tCmpC .Is isD (cVar 5) cNon) (wOr (tCmpC .Is isD (cVar 6) cNon) (wOr (wAnd (tCmpC .NotEq neD (cVar 3) (cStr "")) (wAnd1 (tCmpC .Lt ltD (cVar 6) (cInt 2)))) (wOr1 (wAnd (tCmpC .Lt ltD (cVar 1) (cInt 0)) (wAnd1 (tCmpC .Eq eqD (cVar 5) (cInt 0)))))))) (bCons (sRet cNon)
  bNil) bNil)
  (bCons (sRet (cIf (tCmpC .Eq eqD (cCall "_law_shared" m_l_shared (aCons (cVar 5) (aCons (cVar 6) aNil))) (cInt 1)) (cTup (aCons (cBin .Mult mulD (cVar 1) (cVar 5)) (aCons (cVar 6) aNil))) cNon))
  bNil))))))
def m_l_read : List D → M D := mir 7 1 c_l_read.run
abbrev s_l_bent : Stmt := top 20
def c_l_bent : CB := (bCons (sPar 3 4 (cCall "_law_draw" m_l_draw (aCons (cVar 0) (aCons (cBin .Add addD (cB "len" lenD (aCons (cVar 1) aNil)) (cInt 1)) aNil))) (cIx (cStr "0123456789/-+ .a\n") (cCall "_law_draw" m_l_draw (aCons (cVar 0) (aCons (cInt 17) aNil)))))
  (bCons (sAsg (gN 2) (cLst (aCons (cBin .Add addD (cBin .Add addD (cSlice (cVar 1) oNo (oYes (cVar 3))) (cVar 4)) (cSlice (cVar 1) (oYes (cVar 3)) oNo)) (aCons (cBin .Add addD (cSlice (cVar 1) oNo (oYes (cVar 3))) (cSlice (cVar 1) (oYes (cBin .Add addD (cVar 3) (cInt 1))) oNo)) (aCons (cBin .Add addD (cBin .Add addD (cSlice (cVar 1) oNo (oYes (cVar 3))) (cVar 4)) (cSlice (cVar 1) (oYes (cBin .Add addD (cVar 3) (cInt 1))) oNo)) (aCons (cBin .Add addD (cStr "-") (cVar 1)) aNil))))))
  (bCons (sAsg (gN 2) (cBin .Add addD (cVar 2) (cLst (aCons (cBin .Add addD (cStr "0") (cVar 1)) (aCons (cBin .Add addD (cVar 1) (cStr "/1")) (aCons (cBin .Add addD (cVar 1) (cStr "/0")) (aCons (cBin .Add addD (cVar 1) (cStr "/2")) (aCons (cStr "-0") (aCons (cStr "0/3") (aCons (cStr "2/4") (aCons (cStr "1/1") (aCons (cBin .Add addD (cStr "+") (cVar 1)) (aCons (cStr "1/-2") aNil)))))))))))))
  (bCons (sRet (cIx (cBin .Add addD (cVar 2) (cLst (aCons (cBin .Add addD (cVar 1) (cBin .Mult mulD (cStr "9") (cInt 1900))) (aCons (cBin .Add addD (cStr "1/") (cBin .Mult mulD (cStr "7") (cInt 1900))) (aCons (cBin .Mult mulD (cVar 1) (cInt 2)) (aCons (cStr "") (aCons (cStr "-") (aCons (cStr "/") aNil)))))))) (cCall "_law_draw" m_l_draw (aCons (cVar 0) (aCons (cInt 20) aNil)))))
  bNil))))
def m_l_bent : List D → M D := mir 5 2 c_l_bent.run
abbrev s_law : Stmt := top 21
def c_law : CB := (bCons (sFor (gN 1) (iR1 (cBin .Add addD (cInt 1) (cB "len" lenD (aCons (cSlice (cVar 0) oNo (oYes (cInt 6))) aNil)))) (bCons (sAsg (gN 2) (cCall "_law_begin" m_l_begin (aCons (cVar 0) (aCons (cVar 1) aNil))))
  (bCons (sFor (gN 3) (iR1 (cInt 20)) (bCons (sAsg (gN 4) (cCall "_law_some" m_l_some (aCons (cVar 2) aNil)))
  (bCons (sIf (tCmpC .Gt gtD (cVar 3) (cInt 9)) (bCons (sAsg (gN 4) (cCall "_law_made" m_l_made (aCons (cBin .Sub subD (cCall "_law_draw" m_l_draw (aCons (cVar 2) (aCons (cBin .Mult mulD (cInt 2) (cBin .Pow powD (cInt 10) (cInt 6))) aNil))) (cBin .Pow powD (cInt 10) (cInt 6))) (aCons (cBin .Add addD (cInt 1) (cCall "_law_draw" m_l_draw (aCons (cVar 2) (aCons (cBin .Pow powD (cInt 10) (cInt 6)) aNil)))) aNil))))
  bNil) bNil)
  (bCons (sAsg (gN 5) (cBin .Add addD (cBin .Add addD (cB "str" strD (aCons (cIx (cVar 4) (cInt 0)) aNil)) (cBin .Mult mulD (cStr "/") (cB "int" intTx (aCons (cCmp .Gt gtD (cIx (cVar 4) (cInt 1)) (cInt 1)) aNil)))) (cBin .Mult mulD (cB "str" strD (aCons (cIx (cVar 4) (cInt 1)) aNil)) (cB "int" intTx (aCons (cCmp .Gt gtD (cIx (cVar 4) (cInt 1)) (cInt 1)) aNil)))))
  (bCons (sIf (wOr (tCmpC .NotEq neD (cCall "shown" m_shown (aCons (cVar 4) aNil)) (cVar 5)) (wOr1 (tCmpC .NotEq neD (cCallK "shown" ["a"] [0] m_shown (kCons (cVar 4) kNil)) (cVar 5)))) (bCons (sRet (cBl false))
  bNil) bNil)
  (bCons (sAsg (gN 6) (cCall "_law_bent" m_l_bent (aCons (cVar 2) (aCons (cVar 5) aNil))))
  (bCons (sAsg (gN 7) (cIx (cLst (aCons cNon (aCons (cVar 4) (aCons (cInt 7) (aCons (cBl true) (aCons (cLst (aCons (cVar 5) aNil)) (aCons (cTup (aCons (cVar 5) aNil)) (aCons (cDict1 (cVar 5) (cInt 1)) (aCons (cIx (cVar 4) (cInt 0)) aNil))))))))) (cCall "_law_draw" m_l_draw (aCons (cVar 2) (aCons (cInt 8) aNil)))))
  (bCons (sFor (gN 8) (iA (cTup (aCons (cVar 5) (aCons (cVar 6) (aCons (cCall "_law_bent" m_l_bent (aCons (cVar 2) (aCons (cSlice (cVar 6) oNo (oYes (cInt 60))) aNil))) (aCons (cVar 7) aNil)))))) (bCons (sAsg (gN 10) (cCall "_law_read" m_l_read (aCons (cVar 8) aNil)))
  (bCons (sIf (wOr (tCmpC .NotEq neD (cB "repr" reprD (aCons (cCall "fraction_of" m_fraction_of (aCons (cVar 8) aNil)) aNil)) (cB "repr" reprD (aCons (cVar 10) aNil))) (wOr1 (tCmpC .NotEq neD (cB "repr" reprD (aCons (cCallK "fraction_of" ["text"] [0] m_fraction_of (kCons (cVar 8) kNil)) aNil)) (cB "repr" reprD (aCons (cVar 10) aNil))))) (bCons (sRet (cBl false))
  bNil) bNil)
  bNil)))
  (bCons (sAsg (gN 9) (vAnd (cCmp .Lt ltD (cB "abs" absD (aCons (cIx (cVar 4) (cInt 0)) aNil)) (cBin .Pow powD (cInt 10) (cInt 6))) (vOne .And (cCmp .Lt ltD (cIx (cVar 4) (cInt 1)) (cBin .Pow powD (cInt 10) (cInt 6))))))
  (bCons (sIf (wOr (tCmpC .NotEq neD (cCmp .Eq eqD (cCall "fraction_of" m_fraction_of (aCons (cVar 5) aNil)) (cVar 4)) (cVar 9)) (wOr1 (tCmpC .NotEq neD (cCall "_law_read" m_l_read (aCons (cVar 5) aNil)) (cIf (tVal (cVar 9)) (cVar 4) cNon)))) (bCons (sRet (cBl false))
  bNil) bNil)
  bNil))))))))))
  bNil)))
  (bCons (sRet (cBl true))
  bNil))
def m_law : List D → M D := mir 11 1 c_law.run
end Law
namespace Law
open PySem L2 PyProof.Rows Mi Std
structure Tx (K : PySem.W.Frag) (mg : Str → Option Value) : Prop where
  b_abs : mg "abs" = none
  b_all : mg "all" = none
  b_int : mg "int" = none
  b_isinstance : mg "isinstance" = none
  b_len : mg "len" = none
  b_range : mg "range" = none
  b_repr : mg "repr" = none
  b_str : mg "str" = none
  c_FIGURES : ∃ u, mg "FIGURES" = some u ∧ CR K k_FIGURES u
  c_MOST_FIGURES : ∃ u, mg "MOST_FIGURES" = some u ∧ CR K k_MOST_FIGURES u
  d_shared_by : ∃ f fd, Fun K "shared_by" "shared_by" s_shared_by f fd ∧ mg "shared_by" = some (.ref f)
  d_fraction : ∃ f fd, Fun K "fraction" "fraction" s_fraction f fd ∧ mg "fraction" = some (.ref f)
  d_shown : ∃ f fd, Fun K "shown" "shown" s_shown f fd ∧ mg "shown" = some (.ref f)
  d_number_of : ∃ f fd, Fun K "number_of" "number_of" s_number_of f fd ∧ mg "number_of" = some (.ref f)
  d_fraction_of : ∃ f fd, Fun K "fraction_of" "fraction_of" s_fraction_of f fd ∧ mg "fraction_of" = some (.ref f)
  d_l_begin : ∃ f fd, Fun K "_law_begin" "_law_begin" s_l_begin f fd ∧ mg "_law_begin" = some (.ref f)
  d_l_draw : ∃ f fd, Fun K "_law_draw" "_law_draw" s_l_draw f fd ∧ mg "_law_draw" = some (.ref f)
  d_l_shared : ∃ f fd, Fun K "_law_shared" "_law_shared" s_l_shared f fd ∧ mg "_law_shared" = some (.ref f)
  d_l_made : ∃ f fd, Fun K "_law_made" "_law_made" s_l_made f fd ∧ mg "_law_made" = some (.ref f)
  d_l_whole : ∃ f fd, Fun K "_law_whole" "_law_whole" s_l_whole f fd ∧ mg "_law_whole" = some (.ref f)
  d_l_some : ∃ f fd, Fun K "_law_some" "_law_some" s_l_some f fd ∧ mg "_law_some" = some (.ref f)
  d_l_number : ∃ f fd, Fun K "_law_number" "_law_number" s_l_number f fd ∧ mg "_law_number" = some (.ref f)
  d_l_read : ∃ f fd, Fun K "_law_read" "_law_read" s_l_read f fd ∧ mg "_law_read" = some (.ref f)
  d_l_bent : ∃ f fd, Fun K "_law_bent" "_law_bent" s_l_bent f fd ∧ mg "_law_bent" = some (.ref f)
  d_law : ∃ f fd, Fun K "law" "law" s_law f fd ∧ mg "law" = some (.ref f)
abbrev Kn : Kno := fun _ _ K mg base => Tx K mg ∧ ∃ o, base.get? sysModules = some o
theorem ig_FIGURES : IsGlo Kn "FIGURES" k_FIGURES := isGlo fun _ _ _ _ _ h => h.1.c_FIGURES
theorem ig_MOST_FIGURES : IsGlo Kn "MOST_FIGURES" k_MOST_FIGURES := isGlo fun _ _ _ _ _ h => h.1.c_MOST_FIGURES
theorem sc_shared_by : FnScope ["one", "other"] ["one", "other"] (defScope s_shared_by) := ⟨rfl, rfl, rfl, by decide +kernel, rfl, by decide +kernel, by decide +kernel⟩
theorem ok_shared_by : GB Kn 0 c_shared_by := (g_bCons (g_sWhile (g_tcmp ok_ne g_var g_int) (g_bCons (g_sPar g_var (g_bin ok_mod g_var g_var)) g_bNil)) (g_bCons (g_sRet g_var) g_bNil))
theorem ck_shared_by : c_shared_by.chk ⟨["one", "other"], defScope s_shared_by, fun _ => true⟩ (defBody s_shared_by) = true := by decide +kernel
theorem kn_shared_by : Knw Kn "shared_by" ["one", "other"] m_shared_by 1 := fun P w K mg base h => by
  obtain ⟨f, fd, F, hm⟩ := h.1.d_shared_by
  exact ⟨f, fd, fnG (Kn := Kn) F sc_shared_by h h.2 ok_shared_by ck_shared_by, hm, F.kp, F.binds fun _ _ _ _ _ _ us hl => match us, hl with | [_, _], _ => rfl⟩
theorem sc_fraction : FnScope ["p", "q", "shared"] ["p", "q"] (defScope s_fraction) := ⟨rfl, rfl, rfl, by decide +kernel, rfl, by decide +kernel, by decide +kernel⟩
theorem ok_fraction : GB Kn 1 c_fraction := (g_bCons (g_sIf (g_tcmp ok_eq g_var g_int) (g_bCons g_sNever g_bNil) g_bNil) (g_bCons (g_sAsg g_gN (g_call (kn_shared_by.up (by decide)) (g_cons (g_B ok_abs (fun _ _ _ _ _ h => h.1.b_abs) (by decide +kernel) (by decide) (by decide) (g_cons g_var g_nil)) (g_cons (g_B ok_abs (fun _ _ _ _ _ h => h.1.b_abs) (by decide +kernel) (by decide) (by decide) (g_cons g_var g_nil)) g_nil)))) (g_bCons (g_sIf (g_tcmp ok_lt g_var g_int) (g_bCons (g_sPar (g_neg g_var) (g_neg g_var)) g_bNil) g_bNil) (g_bCons (g_sRet (g_tup (g_cons (g_bin ok_fdiv g_var g_var) (g_cons (g_bin ok_fdiv g_var g_var) g_nil)))) g_bNil))))
theorem ck_fraction : c_fraction.chk ⟨["p", "q", "shared"], defScope s_fraction, fun _ => true⟩ (defBody s_fraction) = true := by decide +kernel
theorem kn_fraction : Knw Kn "fraction" ["p", "q"] m_fraction 2 := fun P w K mg base h => by
  obtain ⟨f, fd, F, hm⟩ := h.1.d_fraction
  exact ⟨f, fd, fnG (Kn := Kn) F sc_fraction h h.2 ok_fraction ck_fraction, hm, F.kp, F.binds fun _ _ _ _ _ _ us hl => match us, hl with | [_, _], _ => rfl⟩
theorem sc_shown : FnScope ["a"] ["a"] (defScope s_shown) := ⟨rfl, rfl, rfl, by decide +kernel, rfl, by decide +kernel, by decide +kernel⟩
theorem ok_shown : GB Kn 0 c_shown := (g_bCons (g_sRet (g_if (g_tcmp ok_eq (g_ix g_var g_int) g_int) (g_Ty ok_str (fun _ _ _ _ _ h => h.1.b_str) (by decide +kernel) (by decide) (by decide) (g_cons (g_ix g_var g_int) g_nil)) (g_J (g_jFmt (g_ix g_var g_int) (g_jLit (g_jFmt (g_ix g_var g_int) g_jNil)))))) g_bNil)
theorem ck_shown : c_shown.chk ⟨["a"], defScope s_shown, fun _ => true⟩ (defBody s_shown) = true := by decide +kernel
theorem kn_shown : Knw Kn "shown" ["a"] m_shown 1 := fun P w K mg base h => by
  obtain ⟨f, fd, F, hm⟩ := h.1.d_shown
  exact ⟨f, fd, fnG (Kn := Kn) F sc_shown h h.2 ok_shown ck_shown, hm, F.kp, F.binds fun _ _ _ _ _ _ us hl => match us, hl with | [_], _ => rfl⟩
theorem kk_shown_a : Knk Kn "shown" ["a"] ["a"] 0 [0] m_shown 1 := fun P w K mg base h => by
  obtain ⟨f, fd, F, hm⟩ := h.1.d_shown
  exact ⟨f, fd, fnG (Kn := Kn) F sc_shown h h.2 ok_shown ck_shown, hm, F.kp, F.kw fun _ _ _ _ _ _ us ws h1 h2 => match us, ws, h1, h2 with | [], [_], _, _ => rfl⟩
theorem sc_number_of : FnScope ["text", "sign"] ["text"] (defScope s_number_of) := ⟨rfl, rfl, rfl, by decide +kernel, rfl, by decide +kernel, by decide +kernel⟩
theorem ok_number_of : GB Kn 0 c_number_of := (g_bCons (g_sIf (GW.t (g_or (g_tnot (g_tchain ok_le ok_le g_int (g_B ok_len (fun _ _ _ _ _ h => h.1.b_len) (by decide +kernel) (by decide) (by decide) (g_cons g_var g_nil)) (g_glo ig_MOST_FIGURES))) (g_or1 (g_tnot (g_tval (g_B ok_all (fun _ _ _ _ _ h => h.1.b_all) (by decide +kernel) (by decide) (by decide) (g_cons (g_lc (g_iA g_var) (c_gN (by decide)) g_fNil (g_cmp ok_in g_var (g_glo ig_FIGURES))) g_nil))))))) (g_bCons (g_sRet g_non) g_bNil) g_bNil) (g_bCons (g_sRet (g_Ty ok_intTx (fun _ _ _ _ _ h => h.1.b_int) (by decide +kernel) (by decide) (by decide) (g_cons g_var g_nil))) g_bNil))
theorem ck_number_of : c_number_of.chk ⟨["text", "sign"], defScope s_number_of, fun _ => true⟩ (defBody s_number_of) = true := by decide +kernel
theorem kn_number_of : Knw Kn "number_of" ["text"] m_number_of 1 := fun P w K mg base h => by
  obtain ⟨f, fd, F, hm⟩ := h.1.d_number_of
  exact ⟨f, fd, fnG (Kn := Kn) F sc_number_of h h.2 ok_number_of ck_number_of, hm, F.kp, F.binds fun _ _ _ _ _ _ us hl => match us, hl with | [_], _ => rfl⟩
theorem sc_fraction_of : FnScope ["text", "found", "top", "slash", "low", "upper", "lower"] ["text"] (defScope s_fraction_of) := ⟨rfl, rfl, rfl, by decide +kernel, rfl, by decide +kernel, by decide +kernel⟩
theorem ok_fraction_of : GB Kn 2 c_fraction_of := (g_bCons (g_sIf (g_tnot (g_tval (g_isi (fun _ _ _ _ _ h => h.1.b_isinstance) (fun _ _ _ _ _ h => h.1.b_str) (by decide +kernel) (by decide) (by decide) (by decide +kernel) g_var))) (g_bCons (g_sRet g_non) g_bNil) g_bNil) (g_bCons (g_sAsg (g_gT (g_gsCons g_gN (g_gsCons g_gN (g_gsCons g_gN g_gsNil)))) (g_m k_part ok_part g_var (g_cons g_str g_nil))) (g_bCons (g_sPar (g_call (kn_number_of.up (by decide)) (g_cons (g_m k_ls ok_ls g_var (g_cons g_str g_nil)) g_nil)) (g_if (g_tcmp ok_ne g_var g_str) (g_call (kn_number_of.up (by decide)) (g_cons g_var g_nil)) g_int)) (g_bCons (g_sIf (GW.t (g_or (g_tcmp ok_is g_var g_non) (g_or (g_tcmp ok_is g_var g_non) (g_or1 (g_tcmp ok_eq g_var g_int))))) (g_bCons (g_sRet g_non) g_bNil) g_bNil) (g_bCons (g_sAsg g_gN (g_call (kn_fraction.up (by decide)) (g_cons (g_if (g_tval (g_m k_sw ok_sw g_var (g_cons g_str g_nil))) (g_neg g_var) g_var) (g_cons g_var g_nil)))) (g_bCons (g_sRet (g_if (g_tcmp ok_eq (g_call (kn_shown.up (by decide)) (g_cons g_var g_nil)) g_var) g_var g_non)) g_bNil))))))
theorem ck_fraction_of : c_fraction_of.chk ⟨["text", "found", "top", "slash", "low", "upper", "lower"], defScope s_fraction_of, fun _ => true⟩ (defBody s_fraction_of) = true := by decide +kernel
theorem kn_fraction_of : Knw Kn "fraction_of" ["text"] m_fraction_of 3 := fun P w K mg base h => by
  obtain ⟨f, fd, F, hm⟩ := h.1.d_fraction_of
  exact ⟨f, fd, fnG (Kn := Kn) F sc_fraction_of h h.2 ok_fraction_of ck_fraction_of, hm, F.kp, F.binds fun _ _ _ _ _ _ us hl => match us, hl with | [_], _ => rfl⟩
theorem kk_fraction_of_text : Knk Kn "fraction_of" ["text"] ["text"] 0 [0] m_fraction_of 3 := fun P w K mg base h => by
  obtain ⟨f, fd, F, hm⟩ := h.1.d_fraction_of
  exact ⟨f, fd, fnG (Kn := Kn) F sc_fraction_of h h.2 ok_fraction_of ck_fraction_of, hm, F.kp, F.kw fun _ _ _ _ _ _ us ws h1 h2 => match us, ws, h1, h2 with | [], [_], _, _ => rfl⟩
theorem sc_l_begin : FnScope ["_law_script", "_law_k", "_law_one", "_law_cell", "_law_seed"] ["_law_script", "_law_k"] (defScope s_l_begin) := ⟨rfl, rfl, rfl, by decide +kernel, rfl, by decide +kernel, by decide +kernel⟩
theorem ok_l_begin : GB Kn 0 c_l_begin := (g_bCons (g_sPar (g_if (g_tcmp ok_lt g_var (g_B ok_len (fun _ _ _ _ _ h => h.1.b_len) (by decide +kernel) (by decide) (by decide) (g_cons g_var g_nil))) (g_ix g_var g_var) g_int) (g_bin ok_add (g_bin ok_mul g_int g_var) g_int)) (g_bCons (g_sFor g_gN (g_iA (g_bin ok_add (g_lst (g_cons g_var g_nil)) (g_slice g_var g_ono (g_oyes g_int)))) (g_bCons (g_sAsg g_gN (g_bin ok_mod (g_bin ok_add (g_bin ok_add (g_bin ok_mul g_var g_int) (g_bin ok_mul g_int (g_B ok_abs (fun _ _ _ _ _ h => h.1.b_abs) (by decide +kernel) (by decide) (by decide) (g_cons g_var g_nil)))) (g_Ty ok_intTx (fun _ _ _ _ _ h => h.1.b_int) (by decide +kernel) (by decide) (by decide) (g_cons (g_cmp ok_lt g_var g_int) g_nil))) g_int)) g_bNil)) (g_bCons (g_sRet (g_lst (g_cons (g_if (g_tcmp ok_ge (g_B ok_abs (fun _ _ _ _ _ h => h.1.b_abs) (by decide +kernel) (by decide) (by decide) (g_cons g_var g_nil)) (g_bin ok_pow g_int g_int)) (g_B ok_abs (fun _ _ _ _ _ h => h.1.b_abs) (by decide +kernel) (by decide) (by decide) (g_cons g_var g_nil)) g_int) (g_cons g_var (g_cons g_int g_nil))))) g_bNil)))
theorem ck_l_begin : c_l_begin.chk ⟨["_law_script", "_law_k", "_law_one", "_law_cell", "_law_seed"], defScope s_l_begin, fun _ => true⟩ (defBody s_l_begin) = true := by decide +kernel
theorem kn_l_begin : Knw Kn "_law_begin" ["_law_script", "_law_k"] m_l_begin 1 := fun P w K mg base h => by
  obtain ⟨f, fd, F, hm⟩ := h.1.d_l_begin
  exact ⟨f, fd, fnG (Kn := Kn) F sc_l_begin h h.2 ok_l_begin ck_l_begin, hm, F.kp, F.binds fun _ _ _ _ _ _ us hl => match us, hl with | [_, _], _ => rfl⟩
theorem sc_l_draw : FnScope ["_law_pot", "_law_many", "_law_go", "_law_mixed", "_law_digit"] ["_law_pot", "_law_many"] (defScope s_l_draw) := ⟨rfl, rfl, rfl, by decide +kernel, rfl, by decide +kernel, by decide +kernel⟩
theorem ok_l_draw : GB Kn 0 c_l_draw := (g_bCons (g_sIf (g_tcmp ok_gt (g_ix g_var g_int) g_int) (g_bCons (g_sAsg g_gN (g_bin ok_mod (g_ix g_var g_int) g_var)) (g_bCons (g_sAsg (g_gS g_var g_int) (g_bin ok_fdiv (g_ix g_var g_int) g_var)) (g_bCons (g_sRet g_var) g_bNil))) g_bNil) (g_bCons (g_sAsg (g_gS g_var g_int) (g_bin ok_add (g_ix g_var g_int) g_int)) (g_bCons (g_sAsg g_gN (g_ix g_var g_int)) (g_bCons (g_sAsg g_gN (g_bin ok_mod (g_bin ok_mul (g_bin ok_add (g_ix g_var g_int) (g_bin ok_mul g_int g_var)) (g_bin ok_add (g_bin ok_mul (g_bin ok_mul g_var g_var) g_int) g_int)) g_int)) (g_bCons (g_sAsg g_gN (g_bin ok_mod (g_bin ok_mul g_var (g_bin ok_add (g_bin ok_mod g_var g_int) g_var)) g_int)) (g_bCons (g_sRet (g_bin ok_mod (g_bin ok_fdiv g_var g_int) g_var)) g_bNil))))))
theorem ck_l_draw : c_l_draw.chk ⟨["_law_pot", "_law_many", "_law_go", "_law_mixed", "_law_digit"], defScope s_l_draw, fun _ => true⟩ (defBody s_l_draw) = true := by decide +kernel
theorem kn_l_draw : Knw Kn "_law_draw" ["_law_pot", "_law_many"] m_l_draw 1 := fun P w K mg base h => by
  obtain ⟨f, fd, F, hm⟩ := h.1.d_l_draw
  exact ⟨f, fd, fnG (Kn := Kn) F sc_l_draw h h.2 ok_l_draw ck_l_draw, hm, F.kp, F.binds fun _ _ _ _ _ _ us hl => match us, hl with | [_, _], _ => rfl⟩
theorem sc_l_shared : FnScope ["_law_one", "_law_other"] ["_law_one", "_law_other"] (defScope s_l_shared) := ⟨rfl, rfl, rfl, by decide +kernel, rfl, by decide +kernel, by decide +kernel⟩
theorem ok_l_shared : GB Kn 0 c_l_shared := (g_bCons (g_sWhile (g_tcmp ok_ne g_var g_int) (g_bCons (g_sPar g_var (g_bin ok_mod g_var g_var)) g_bNil)) (g_bCons (g_sRet g_var) g_bNil))
theorem ck_l_shared : c_l_shared.chk ⟨["_law_one", "_law_other"], defScope s_l_shared, fun _ => true⟩ (defBody s_l_shared) = true := by decide +kernel
theorem kn_l_shared : Knw Kn "_law_shared" ["_law_one", "_law_other"] m_l_shared 1 := fun P w K mg base h => by
  obtain ⟨f, fd, F, hm⟩ := h.1.d_l_shared
  exact ⟨f, fd, fnG (Kn := Kn) F sc_l_shared h h.2 ok_l_shared ck_l_shared, hm, F.kp, F.binds fun _ _ _ _ _ _ us hl => match us, hl with | [_, _], _ => rfl⟩
theorem sc_l_made : FnScope ["_law_top", "_law_low", "_law_shared_here", "_law_flip"] ["_law_top", "_law_low"] (defScope s_l_made) := ⟨rfl, rfl, rfl, by decide +kernel, rfl, by decide +kernel, by decide +kernel⟩
theorem ok_l_made : GB Kn 1 c_l_made := (g_bCons (g_sPar (g_call (kn_l_shared.up (by decide)) (g_cons (g_B ok_abs (fun _ _ _ _ _ h => h.1.b_abs) (by decide +kernel) (by decide) (by decide) (g_cons g_var g_nil)) (g_cons (g_B ok_abs (fun _ _ _ _ _ h => h.1.b_abs) (by decide +kernel) (by decide) (by decide) (g_cons g_var g_nil)) g_nil))) (g_bin ok_sub g_int (g_bin ok_mul g_int (g_Ty ok_intTx (fun _ _ _ _ _ h => h.1.b_int) (by decide +kernel) (by decide) (by decide) (g_cons (g_cmp ok_lt g_var g_int) g_nil))))) (g_bCons (g_sRet (g_tup (g_cons (g_bin ok_fdiv (g_bin ok_mul g_var g_var) g_var) (g_cons (g_bin ok_fdiv (g_bin ok_mul g_var g_var) g_var) g_nil)))) g_bNil))
theorem ck_l_made : c_l_made.chk ⟨["_law_top", "_law_low", "_law_shared_here", "_law_flip"], defScope s_l_made, fun _ => true⟩ (defBody s_l_made) = true := by decide +kernel
theorem kn_l_made : Knw Kn "_law_made" ["_law_top", "_law_low"] m_l_made 2 := fun P w K mg base h => by
  obtain ⟨f, fd, F, hm⟩ := h.1.d_l_made
  exact ⟨f, fd, fnG (Kn := Kn) F sc_l_made h h.2 ok_l_made ck_l_made, hm, F.kp, F.binds fun _ _ _ _ _ _ us hl => match us, hl with | [_, _], _ => rfl⟩
theorem sc_l_whole : FnScope ["_law_pot", "_law_some_here"] ["_law_pot"] (defScope s_l_whole) := ⟨rfl, rfl, rfl, by decide +kernel, rfl, by decide +kernel, by decide +kernel⟩
theorem ok_l_whole : GB Kn 1 c_l_whole := (g_bCons (g_sAsg g_gN (g_lst (g_cons g_int (g_cons g_int (g_cons (g_neg g_int) (g_cons (g_bin ok_sub (g_call (kn_l_draw.up (by decide)) (g_cons g_var (g_cons g_int g_nil))) g_int) (g_cons (g_call (kn_l_draw.up (by decide)) (g_cons g_var (g_cons (g_bin ok_pow g_int g_int) g_nil))) (g_cons (g_bin ok_sub (g_call (kn_l_draw.up (by decide)) (g_cons g_var (g_cons (g_bin ok_mul g_int (g_bin ok_pow g_int g_int)) g_nil))) (g_bin ok_pow g_int g_int)) g_nil)))))))) (g_bCons (g_sRet (g_ix g_var (g_call (kn_l_draw.up (by decide)) (g_cons g_var (g_cons g_int g_nil))))) g_bNil))
theorem ck_l_whole : c_l_whole.chk ⟨["_law_pot", "_law_some_here"], defScope s_l_whole, fun _ => true⟩ (defBody s_l_whole) = true := by decide +kernel
theorem kn_l_whole : Knw Kn "_law_whole" ["_law_pot"] m_l_whole 2 := fun P w K mg base h => by
  obtain ⟨f, fd, F, hm⟩ := h.1.d_l_whole
  exact ⟨f, fd, fnG (Kn := Kn) F sc_l_whole h h.2 ok_l_whole ck_l_whole, hm, F.kp, F.binds fun _ _ _ _ _ _ us hl => match us, hl with | [_], _ => rfl⟩
theorem sc_l_some : FnScope ["_law_pot", "_law_low"] ["_law_pot"] (defScope s_l_some) := ⟨rfl, rfl, rfl, by decide +kernel, rfl, by decide +kernel, by decide +kernel⟩
theorem ok_l_some : GB Kn 2 c_l_some := (g_bCons (g_sAsg g_gN (g_ix (g_lst (g_cons g_int (g_cons (g_bin ok_add g_int (g_call (kn_l_draw.up (by decide)) (g_cons g_var (g_cons g_int g_nil)))) (g_cons (g_bin ok_add g_int (g_call (kn_l_draw.up (by decide)) (g_cons g_var (g_cons (g_bin ok_pow g_int g_int) g_nil)))) (g_cons (g_bin ok_add g_int (g_call (kn_l_draw.up (by decide)) (g_cons g_var (g_cons (g_bin ok_pow g_int g_int) g_nil)))) g_nil))))) (g_call (kn_l_draw.up (by decide)) (g_cons g_var (g_cons g_int g_nil))))) (g_bCons (g_sRet (g_call (kn_l_made.up (by decide)) (g_cons (g_call (kn_l_whole.up (by decide)) (g_cons g_var g_nil)) (g_cons g_var g_nil)))) g_bNil))
theorem ck_l_some : c_l_some.chk ⟨["_law_pot", "_law_low"], defScope s_l_some, fun _ => true⟩ (defBody s_l_some) = true := by decide +kernel
theorem kn_l_some : Knw Kn "_law_some" ["_law_pot"] m_l_some 3 := fun P w K mg base h => by
  obtain ⟨f, fd, F, hm⟩ := h.1.d_l_some
  exact ⟨f, fd, fnG (Kn := Kn) F sc_l_some h h.2 ok_l_some ck_l_some, hm, F.kp, F.binds fun _ _ _ _ _ _ us hl => match us, hl with | [_], _ => rfl⟩
theorem sc_l_number : FnScope ["_law_word", "_law_sign"] ["_law_word"] (defScope s_l_number) := ⟨rfl, rfl, rfl, by decide +kernel, rfl, by decide +kernel, by decide +kernel⟩
theorem ok_l_number : GB Kn 0 c_l_number := (g_bCons (g_sIf (GW.t (g_or (g_tnot (g_tchain ok_lt ok_lt g_int (g_B ok_len (fun _ _ _ _ _ h => h.1.b_len) (by decide +kernel) (by decide) (by decide) (g_cons g_var g_nil)) g_int)) (g_or1 (g_tnot (g_tval (g_B ok_all (fun _ _ _ _ _ h => h.1.b_all) (by decide +kernel) (by decide) (by decide) (g_cons (g_lc (g_iA g_var) (c_gN (by decide)) g_fNil (g_cmp ok_in g_var g_str)) g_nil))))))) (g_bCons (g_sRet g_non) g_bNil) g_bNil) (g_bCons (g_sRet (g_if (g_tcmp ok_eq g_var (g_Ty ok_str (fun _ _ _ _ _ h => h.1.b_str) (by decide +kernel) (by decide) (by decide) (g_cons (g_Ty ok_intTx (fun _ _ _ _ _ h => h.1.b_int) (by decide +kernel) (by decide) (by decide) (g_cons g_var g_nil)) g_nil))) (g_Ty ok_intTx (fun _ _ _ _ _ h => h.1.b_int) (by decide +kernel) (by decide) (by decide) (g_cons g_var g_nil)) g_non)) g_bNil))
theorem ck_l_number : c_l_number.chk ⟨["_law_word", "_law_sign"], defScope s_l_number, fun _ => true⟩ (defBody s_l_number) = true := by decide +kernel
theorem kn_l_number : Knw Kn "_law_number" ["_law_word"] m_l_number 1 := fun P w K mg base h => by
  obtain ⟨f, fd, F, hm⟩ := h.1.d_l_number
  exact ⟨f, fd, fnG (Kn := Kn) F sc_l_number h h.2 ok_l_number ck_l_number, hm, F.kp, F.binds fun _ _ _ _ _ _ us hl => match us, hl with | [_], _ => rfl⟩
theorem sc_l_read : FnScope ["_law_line", "_law_flip", "_law_head", "_law_bar", "_law_tail", "_law_top", "_law_low"] ["_law_line"] (defScope s_l_read) := ⟨rfl, rfl, rfl, by decide +kernel, rfl, by decide +kernel, by decide +kernel⟩
theorem ok_l_read : GB Kn 1 c_l_read := (g_bCons (g_sIf (g_tnot (g_tval (g_isi (fun _ _ _ _ _ h => h.1.b_isinstance) (fun _ _ _ _ _ h => h.1.b_str) (by decide +kernel) (by decide) (by decide) (by decide +kernel) g_var))) (g_bCons (g_sRet g_non) g_bNil) g_bNil) (g_bCons (g_sAsg (g_gT (g_gsCons g_gN (g_gsCons g_gN (g_gsCons g_gN g_gsNil)))) (g_m k_part ok_part g_var (g_cons g_str g_nil))) (g_bCons (g_sAsg g_gN (g_if (g_tcmp ok_eq (g_slice g_var g_ono (g_oyes g_int)) g_str) (g_neg g_int) g_int)) (g_bCons (g_sPar (g_call (kn_l_number.up (by decide)) (g_cons (g_slice g_var (g_oyes (g_Ty ok_intTx (fun _ _ _ _ _ h => h.1.b_int) (by decide +kernel) (by decide) (by decide) (g_cons (g_cmp ok_lt g_var g_int) g_nil))) g_ono) g_nil)) (g_if (g_tcmp ok_ne g_var g_str) (g_call (kn_l_number.up (by decide)) (g_cons g_var g_nil)) g_int)) (g_bCons (g_sIf (GW.t (g_or (g_tcmp ok_is g_var g_non) (g_or (g_tcmp ok_is g_var g_non) (g_or (GW.t (g_and (g_tcmp ok_ne g_var g_str) (g_and1 (g_tcmp ok_lt g_var g_int)))) (g_or1 (GW.t (g_and (g_tcmp ok_lt g_var g_int) (g_and1 (g_tcmp ok_eq g_var g_int))))))))) (g_bCons (g_sRet g_non) g_bNil) g_bNil) (g_bCons (g_sRet (g_if (g_tcmp ok_eq (g_call (kn_l_shared.up (by decide)) (g_cons g_var (g_cons g_var g_nil))) g_int) (g_tup (g_cons (g_bin ok_mul g_var g_var) (g_cons g_var g_nil))) g_non)) g_bNil))))))
theorem ck_l_read : c_l_read.chk ⟨["_law_line", "_law_flip", "_law_head", "_law_bar", "_law_tail", "_law_top", "_law_low"], defScope s_l_read, fun _ => true⟩ (defBody s_l_read) = true := by decide +kernel
theorem kn_l_read : Knw Kn "_law_read" ["_law_line"] m_l_read 2 := fun P w K mg base h => by
  obtain ⟨f, fd, F, hm⟩ := h.1.d_l_read
  exact ⟨f, fd, fnG (Kn := Kn) F sc_l_read h h.2 ok_l_read ck_l_read, hm, F.kp, F.binds fun _ _ _ _ _ _ us hl => match us, hl with | [_], _ => rfl⟩
theorem sc_l_bent : FnScope ["_law_pot", "_law_line", "_law_some_here", "_law_at", "_law_sign"] ["_law_pot", "_law_line"] (defScope s_l_bent) := ⟨rfl, rfl, rfl, by decide +kernel, rfl, by decide +kernel, by decide +kernel⟩
theorem ok_l_bent : GB Kn 1 c_l_bent := (g_bCons (g_sPar (g_call (kn_l_draw.up (by decide)) (g_cons g_var (g_cons (g_bin ok_add (g_B ok_len (fun _ _ _ _ _ h => h.1.b_len) (by decide +kernel) (by decide) (by decide) (g_cons g_var g_nil)) g_int) g_nil))) (g_ix g_str (g_call (kn_l_draw.up (by decide)) (g_cons g_var (g_cons g_int g_nil))))) (g_bCons (g_sAsg g_gN (g_lst (g_cons (g_bin ok_add (g_bin ok_add (g_slice g_var g_ono (g_oyes g_var)) g_var) (g_slice g_var (g_oyes g_var) g_ono)) (g_cons (g_bin ok_add (g_slice g_var g_ono (g_oyes g_var)) (g_slice g_var (g_oyes (g_bin ok_add g_var g_int)) g_ono)) (g_cons (g_bin ok_add (g_bin ok_add (g_slice g_var g_ono (g_oyes g_var)) g_var) (g_slice g_var (g_oyes (g_bin ok_add g_var g_int)) g_ono)) (g_cons (g_bin ok_add g_str g_var) g_nil)))))) (g_bCons (g_sAsg g_gN (g_bin ok_add g_var (g_lst (g_cons (g_bin ok_add g_str g_var) (g_cons (g_bin ok_add g_var g_str) (g_cons (g_bin ok_add g_var g_str) (g_cons (g_bin ok_add g_var g_str) (g_cons g_str (g_cons g_str (g_cons g_str (g_cons g_str (g_cons (g_bin ok_add g_str g_var) (g_cons g_str g_nil))))))))))))) (g_bCons (g_sRet (g_ix (g_bin ok_add g_var (g_lst (g_cons (g_bin ok_add g_var (g_bin ok_mul g_str g_int)) (g_cons (g_bin ok_add g_str (g_bin ok_mul g_str g_int)) (g_cons (g_bin ok_mul g_var g_int) (g_cons g_str (g_cons g_str (g_cons g_str g_nil)))))))) (g_call (kn_l_draw.up (by decide)) (g_cons g_var (g_cons g_int g_nil))))) g_bNil))))
theorem ck_l_bent : c_l_bent.chk ⟨["_law_pot", "_law_line", "_law_some_here", "_law_at", "_law_sign"], defScope s_l_bent, fun _ => true⟩ (defBody s_l_bent) = true := by decide +kernel
theorem kn_l_bent : Knw Kn "_law_bent" ["_law_pot", "_law_line"] m_l_bent 2 := fun P w K mg base h => by
  obtain ⟨f, fd, F, hm⟩ := h.1.d_l_bent
  exact ⟨f, fd, fnG (Kn := Kn) F sc_l_bent h h.2 ok_l_bent ck_l_bent, hm, F.kp, F.binds fun _ _ _ _ _ _ us hl => match us, hl with | [_, _], _ => rfl⟩
theorem sc_law : FnScope ["_law_script", "_law_k", "_law_pot", "_law_turn", "_law_one", "_law_line", "_law_bent_here", "_law_odd", "_law_thing", "_law_few", "_law_due"] ["_law_script"] (defScope s_law) := ⟨rfl, rfl, rfl, by decide +kernel, rfl, by decide +kernel, by decide +kernel⟩
theorem ok_law : GB Kn 3 c_law := (g_bCons (g_sFor g_gN (g_iR1 (fun _ _ _ _ _ h => h.1.b_range) (g_bin ok_add g_int (g_B ok_len (fun _ _ _ _ _ h => h.1.b_len) (by decide +kernel) (by decide) (by decide) (g_cons (g_slice g_var g_ono (g_oyes g_int)) g_nil)))) (g_bCons (g_sAsg g_gN (g_call (kn_l_begin.up (by decide)) (g_cons g_var (g_cons g_var g_nil)))) (g_bCons (g_sFor g_gN (g_iR1 (fun _ _ _ _ _ h => h.1.b_range) g_int) (g_bCons (g_sAsg g_gN (g_call (kn_l_some.up (by decide)) (g_cons g_var g_nil))) (g_bCons (g_sIf (g_tcmp ok_gt g_var g_int) (g_bCons (g_sAsg g_gN (g_call (kn_l_made.up (by decide)) (g_cons (g_bin ok_sub (g_call (kn_l_draw.up (by decide)) (g_cons g_var (g_cons (g_bin ok_mul g_int (g_bin ok_pow g_int g_int)) g_nil))) (g_bin ok_pow g_int g_int)) (g_cons (g_bin ok_add g_int (g_call (kn_l_draw.up (by decide)) (g_cons g_var (g_cons (g_bin ok_pow g_int g_int) g_nil)))) g_nil)))) g_bNil) g_bNil) (g_bCons (g_sAsg g_gN (g_bin ok_add (g_bin ok_add (g_Ty ok_str (fun _ _ _ _ _ h => h.1.b_str) (by decide +kernel) (by decide) (by decide) (g_cons (g_ix g_var g_int) g_nil)) (g_bin ok_mul g_str (g_Ty ok_intTx (fun _ _ _ _ _ h => h.1.b_int) (by decide +kernel) (by decide) (by decide) (g_cons (g_cmp ok_gt (g_ix g_var g_int) g_int) g_nil)))) (g_bin ok_mul (g_Ty ok_str (fun _ _ _ _ _ h => h.1.b_str) (by decide +kernel) (by decide) (by decide) (g_cons (g_ix g_var g_int) g_nil)) (g_Ty ok_intTx (fun _ _ _ _ _ h => h.1.b_int) (by decide +kernel) (by decide) (by decide) (g_cons (g_cmp ok_gt (g_ix g_var g_int) g_int) g_nil))))) (g_bCons (g_sIf (GW.t (g_or (g_tcmp ok_ne (g_call (kn_shown.up (by decide)) (g_cons g_var g_nil)) g_var) (g_or1 (g_tcmp ok_ne (g_callK (kk_shown_a.up (by decide)) (g_kCons g_var g_kNil)) g_var)))) (g_bCons (g_sRet g_bl) g_bNil) g_bNil) (g_bCons (g_sAsg g_gN (g_call (kn_l_bent.up (by decide)) (g_cons g_var (g_cons g_var g_nil)))) (g_bCons (g_sAsg g_gN (g_ix (g_lst (g_cons g_non (g_cons g_var (g_cons g_int (g_cons g_bl (g_cons (g_lst (g_cons g_var g_nil)) (g_cons (g_tup (g_cons g_var g_nil)) (g_cons (g_dict1 g_var g_int) (g_cons (g_ix g_var g_int) g_nil))))))))) (g_call (kn_l_draw.up (by decide)) (g_cons g_var (g_cons g_int g_nil))))) (g_bCons (g_sFor g_gN (g_iA (g_tup (g_cons g_var (g_cons g_var (g_cons (g_call (kn_l_bent.up (by decide)) (g_cons g_var (g_cons (g_slice g_var g_ono (g_oyes g_int)) g_nil))) (g_cons g_var g_nil)))))) (g_bCons (g_sAsg g_gN (g_call (kn_l_read.up (by decide)) (g_cons g_var g_nil))) (g_bCons (g_sIf (GW.t (g_or (g_tcmp ok_ne (g_B ok_repr (fun _ _ _ _ _ h => h.1.b_repr) (by decide +kernel) (by decide) (by decide) (g_cons (g_call (kn_fraction_of.up (by decide)) (g_cons g_var g_nil)) g_nil)) (g_B ok_repr (fun _ _ _ _ _ h => h.1.b_repr) (by decide +kernel) (by decide) (by decide) (g_cons g_var g_nil))) (g_or1 (g_tcmp ok_ne (g_B ok_repr (fun _ _ _ _ _ h => h.1.b_repr) (by decide +kernel) (by decide) (by decide) (g_cons (g_callK (kk_fraction_of_text.up (by decide)) (g_kCons g_var g_kNil)) g_nil)) (g_B ok_repr (fun _ _ _ _ _ h => h.1.b_repr) (by decide +kernel) (by decide) (by decide) (g_cons g_var g_nil)))))) (g_bCons (g_sRet g_bl) g_bNil) g_bNil) g_bNil))) (g_bCons (g_sAsg g_gN (g_vand (g_cmp ok_lt (g_B ok_abs (fun _ _ _ _ _ h => h.1.b_abs) (by decide +kernel) (by decide) (by decide) (g_cons (g_ix g_var g_int) g_nil)) (g_bin ok_pow g_int g_int)) (g_vone (g_cmp ok_lt (g_ix g_var g_int) (g_bin ok_pow g_int g_int))))) (g_bCons (g_sIf (GW.t (g_or (g_tcmp ok_ne (g_cmp ok_eq (g_call (kn_fraction_of.up (by decide)) (g_cons g_var g_nil)) g_var) g_var) (g_or1 (g_tcmp ok_ne (g_call (kn_l_read.up (by decide)) (g_cons g_var g_nil)) (g_if (g_tval g_var) g_var g_non))))) (g_bCons (g_sRet g_bl) g_bNil) g_bNil) g_bNil)))))))))) g_bNil))) (g_bCons (g_sRet g_bl) g_bNil))
theorem ck_law : c_law.chk ⟨["_law_script", "_law_k", "_law_pot", "_law_turn", "_law_one", "_law_line", "_law_bent_here", "_law_odd", "_law_thing", "_law_few", "_law_due"], defScope s_law, fun _ => true⟩ (defBody s_law) = true := by decide +kernel
theorem kn_law : Knw Kn "law" ["_law_script"] m_law 4 := fun P w K mg base h => by
  obtain ⟨f, fd, F, hm⟩ := h.1.d_law
  exact ⟨f, fd, fnG (Kn := Kn) F sc_law h h.2 ok_law ck_law, hm, F.kp, F.binds fun _ _ _ _ _ _ us hl => match us, hl with | [_], _ => rfl⟩
end Law
namespace Law
open PySem L2 PyProof.Rows Mi Std
local macro_rules | `(tactic| walk_at "mi") => `(tactic| simp only [wp_mir, ws_cons, ws_nil, nx_nx, nx_rt, nx_bk, nx_ct, nx_er, fn_nx, fn_rt, fn_er, ws_asgN, ws_asgT, gs_cons, gs_nil, ex_tup, ex_pr, ws_asgS, ws_of, ws_some, wp_bnd, wp_ret, wp_new, ws_ite, wp_iteB, wp_stop,
  r_var, r_int, r_bl, r_str, r_non, r_glo, r_nil, r_cons, r_tup, r_lst, r_bin, r_cmp, r_tcmp, r_tval, r_tnot, r_and1, r_or1, r_and, r_or, r_if, r_vone, r_vand, r_vor, r_not, r_neg, r_chain, r_tchain,
  r_ix, r_slice, r_ono, r_oyes, r_B, r_call, r_call0, r_isi, s_expr, s_ret, s_if, s_par, s_while, s_for, s_brk, s_cont, s_pass, s_retN, i_T, i_L, i_A, i_En, i_Zp, r_rev, r_J, j_nil, j_lit, j_fmt, s_par3, o_isBt, o_isBn, o_fmtI, o_fmtS, o_put, o_sw, o_ls, o_part, r_callK, r_kNil, r_kCons, r_m0, r_m, f_nil, f_one, s_asg2, s_setLc, r_lc, o_revT, o_revL, o_max, o_min, o_all, o_any, o_aT, o_aF, o_aL, o_aS, o_enT, o_enL, o_zipT, o_zipL, fuelE, fuelZ, fuelS, o_mulL, o_mulS, o_isTL, o_isTS, wp_app, wp_pop, i_R1, i_R2,
  List.map_cons, List.map_nil, List.replicate_succ, List.replicate_zero, List.nil_append, List.cons_append, List.length_cons, List.length_nil, Nat.reduceAdd, Nat.add_assoc, Nat.zero_add, Nat.add_zero, Nat.reduceSub, true_and, getV, List.getElem?_cons_zero, List.getElem?_cons_succ, List.set_cons_zero, List.set_cons_succ,
  o_add, o_addS, o_addT, o_addL, o_sub, o_mul, o_fdiv, o_mod, o_pow, o_neg, o_lt, o_le, o_gt, o_ge, o_eq, o_eqS, o_eqB, o_ne, o_neS, o_neB, o_is, o_isn, o_asB, o_asI, o_lenT, o_lenF, o_lenL, o_abs', o_int, o_intB, o_str, o_slT, o_slF, o_slL, o_listT, o_listF, o_listL, o_tupT, o_tupL, o_newL, o_seqF, o_seqL, o_tupW, o_rng1, o_rng2, fuelOf, fuelL, fuelR, wp_isi, tyN_int, tyN_bl, tyN_str, tyN_non, tyN_tup, tyN_fro, iS_NoneType, iS_bool, iS_int, iS_str, iS_tuple, iS_list, iS_dict, List.length_append, List.length_map, List.length_set,
  wp_lstE, setL_E, ex_lst, ex_n, at_off, at_off0, wp_withNew, o_keyI, o_keyS, wp_setE, set_off, set_off0, r_dict1, trn_nx, trn_ct, trn_bk, trn_rt, trn_er, List.append_assoc, List.getElem?_append_left, List.set_set, List.getElem?_set_self, wp_need, ix_ref, Mi.ix_tup, ix_fro, atD_0, atD_1, atD_2, decide_eq_true_eq, Bool.false_eq_true, false_implies, not_false_eq_true, true_implies, not_true_eq_false, Bool.true_eq_false, and_true, if_true, if_false, Int.cast_ofNat_Int, Int.reduceEq, Int.reduceLT, Int.reduceLE, decide_true, decide_false, Bool.not_true, Bool.not_false, reduceIte, eq_self, Nat.reduceLeDiff])
local macro_rules | `(tactic| walk_at "mi*") => `(tactic| simp only [wp_mir, ws_cons, ws_nil, nx_nx, nx_rt, nx_bk, nx_ct, nx_er, fn_nx, fn_rt, fn_er, ws_asgN, ws_asgT, gs_cons, gs_nil, ex_tup, ex_pr, ws_asgS, ws_of, ws_some, wp_bnd, wp_ret, wp_new, ws_ite, wp_iteB, wp_stop,
  r_var, r_int, r_bl, r_str, r_non, r_glo, r_nil, r_cons, r_tup, r_lst, r_bin, r_cmp, r_tcmp, r_tval, r_tnot, r_and1, r_or1, r_and, r_or, r_if, r_vone, r_vand, r_vor, r_not, r_neg, r_chain, r_tchain,
  r_ix, r_slice, r_ono, r_oyes, r_B, r_call, r_call0, r_isi, s_expr, s_ret, s_if, s_par, s_while, s_for, s_brk, s_cont, s_pass, s_retN, i_T, i_L, i_A, i_En, i_Zp, r_rev, r_J, j_nil, j_lit, j_fmt, s_par3, o_isBt, o_isBn, o_fmtI, o_fmtS, o_put, o_sw, o_ls, o_part, r_callK, r_kNil, r_kCons, r_m0, r_m, f_nil, f_one, s_asg2, s_setLc, r_lc, o_revT, o_revL, o_max, o_min, o_all, o_any, o_aT, o_aF, o_aL, o_aS, o_enT, o_enL, o_zipT, o_zipL, fuelE, fuelZ, fuelS, o_mulL, o_mulS, o_isTL, o_isTS, wp_app, wp_pop, i_R1, i_R2,
  List.map_cons, List.map_nil, List.replicate_succ, List.replicate_zero, List.nil_append, List.cons_append, List.length_cons, List.length_nil, Nat.reduceAdd, Nat.add_assoc, Nat.zero_add, Nat.add_zero, Nat.reduceSub, true_and, getV, List.getElem?_cons_zero, List.getElem?_cons_succ, List.set_cons_zero, List.set_cons_succ,
  o_add, o_addS, o_addT, o_addL, o_sub, o_mul, o_fdiv, o_mod, o_pow, o_neg, o_lt, o_le, o_gt, o_ge, o_eq, o_eqS, o_eqB, o_ne, o_neS, o_neB, o_is, o_isn, o_asB, o_asI, o_lenT, o_lenF, o_lenL, o_abs', o_int, o_intB, o_str, o_slT, o_slF, o_slL, o_listT, o_listF, o_listL, o_tupT, o_tupL, o_newL, o_seqF, o_seqL, o_tupW, o_rng1, o_rng2, fuelOf, fuelL, fuelR, wp_isi, tyN_int, tyN_bl, tyN_str, tyN_non, tyN_tup, tyN_fro, iS_NoneType, iS_bool, iS_int, iS_str, iS_tuple, iS_list, iS_dict, List.length_append, List.length_map, List.length_set,
  wp_lstE, setL_E, ex_lst, ex_n, at_off, at_off0, wp_withNew, o_keyI, o_keyS, wp_setE, set_off, set_off0, r_dict1, trn_nx, trn_ct, trn_bk, trn_rt, trn_er, List.append_assoc, List.getElem?_append_left, List.set_set, List.getElem?_set_self, wp_need, ix_ref, Mi.ix_tup, ix_fro, atD_0, atD_1, atD_2, decide_eq_true_eq, Bool.false_eq_true, false_implies, not_false_eq_true, true_implies, not_true_eq_false, Bool.true_eq_false, and_true, if_true, if_false, Int.cast_ofNat_Int, Int.reduceEq, Int.reduceLT, Int.reduceLE, decide_true, decide_false, Bool.not_true, Bool.not_false, reduceIte, eq_self, Nat.reduceLeDiff, *])
/-! ### texts read by the law -/
def numP (l : List Nat) : Option Nat := if 1 ≤ l.length ∧ l.length ≤ 6 ∧ l.all dig = true ∧ TL.numL (NumText.digitsVal l) = l then some (NumText.digitsVal l) else none
theorem numP_some {l : List Nat} {n : Nat} : numP l = some n ↔ l = TL.numL n ∧ n < 1000000 := by
  constructor
  · intro h
    unfold numP at h
    split at h
    · rename_i g
      obtain ⟨g1, g2, g3, g4⟩ := g
      cases h
      refine ⟨g4.symm, ?_⟩
      have h2 := dv_lt _ _ rfl g3
      have h3 : 10 ^ l.length ≤ 10 ^ 6 := Nat.pow_le_pow_right (by omega) g2
      omega
    · cases h
  · rintro ⟨rfl, h⟩
    have h1 : 1 ≤ (TL.numL n).length := by
      have := TL.numL_ne n
      cases h : TL.numL n with
      | nil => exact (this h).elim
      | cons a b => simp
    unfold numP
    rw [TL.numL_val, if_pos ⟨h1, TL.numL_len (by omega) h, dig_num n, rfl⟩]
theorem run_lnumber {l : List Nat} {μ : List O} {E : Ex → List O → Prop} (hl : l.length ≤ 10000) : Wp (m_l_number [.str (T l)]) μ (fun r μ' => r = ofO (numP l) ∧ Gr0 μ μ') E := by
  unfold m_l_number c_l_number
  have hs : sizeLine = 16777216 := sizeLine_eq
  have lt := SX.S_len l
  have ol : lenD [.str (T l)] = M.ret (.int l.length) := by
    show (if (T l).length ≤ sizeLine then M.ret (D.int (T l).length) else M.stop) = _
    rw [lt, if_pos (by omega)]
  by_cases h1 : 0 < (l.length : Int)
  · by_cases h6 : (l.length : Int) < 7
    · walk_at "mi*"
      refine wp_lc_map (get := fun i => (T l).cps[i]?.map fun c => .str ⟨#[c]⟩) l.length (fun i => .bl (dig (l.getD i 0))) (by show _ ≤ (T l).cps.size; simp) (by omega) (fun i acc => rfl) (fun i hi => by simp [hi]) (by simp) ?_ ?_
      · intro i d acc hi hd
        have hd' : D.str ⟨#[l.getD i 0]⟩ = d := by
          simp [hi] at hd
          rw [← hd, List.getD_eq_getElem?_getD, List.getElem?_eq_getElem hi]
          rfl
        subst hd'
        refine ⟨_, rfl, wp_ret.mpr ⟨rfl, rfl⟩, ?_⟩
        dsimp only [wipeE, List.map_cons, List.map_nil, List.set_cons_succ, List.set_cons_zero]
        have hin := in_figs (l.getD i 0)
        walk_at "mi*"
      · have e : (List.range l.length).map (fun i => D.bl (dig (l.getD i 0))) = l.map fun c => D.bl (dig c) := by
          apply List.ext_getElem?
          intro i
          by_cases hi : i < l.length
          · rw [List.getElem?_map, List.getElem?_range hi, List.getElem?_map, List.getElem?_eq_getElem hi]
            show some (D.bl (dig (l.getD i 0))) = some (D.bl (dig l[i]))
            rw [List.getD_eq_getElem?_getD, List.getElem?_eq_getElem hi]
            rfl
          · rw [List.getElem?_eq_none (by simp; omega), List.getElem?_eq_none (by simp; omega)]
        rw [e]
        have hb := bls_map l
        have ha := all_id l
        walk_at "mi*"
        cases hq : l.all dig with
        | false =>
          have hn : numP l = none := by unfold numP; rw [if_neg (by rw [hq]; simp)]
          rw [hn]
          exact ⟨fun _ => ⟨rfl, Gr0.app _ _⟩, fun z => (z rfl).elim⟩
        | true =>
          refine ⟨fun z => (nomatch z), fun _ => ?_⟩
          have hi : PySem.intText? (T l) = some ((NumText.digitsVal l : Nat) : Int) := SX.int_S hq (by intro z; subst z; simp at h1) (by omega)
          have e2 : intTx [.str (T l)] = M.ret (.int (NumText.digitsVal l : Nat)) := by
            show (match PySem.intText? (T l) with | some n => if (T l).length ≤ 640 then M.ret (D.int n) else M.stop | none => M.stop) = _
            rw [hi]
            show (if (T l).length ≤ 640 then _ else _) = _
            rw [lt, if_pos (by omega)]
          have h2 := dv_lt _ _ rfl hq
          have h3 : 10 ^ l.length ≤ 10 ^ 6 := Nat.pow_le_pow_right (by omega) (by omega)
          have h4 : ((NumText.digitsVal l : Nat) : Int).natAbs.log2 < 1920 := by
            rw [Int.natAbs_natCast]
            exact Nat.lt_of_le_of_lt (log2_mono (show NumText.digitsVal l ≤ 1000000 by omega)) (by decide)
          have e3 : (toString ((NumText.digitsVal l : Nat) : Int) : Str) = T (TL.numL (NumText.digitsVal l)) := SX.num_S _
          rw [e2, wp_ret, o_str, if_pos h4, wp_ret]
          have e4 : Str.ofString (toString ((NumText.digitsVal l : Nat) : Int)) = T (TL.numL (NumText.digitsVal l)) := e3
          rw [e4, o_eqS, wp_ret, o_asB, wp_ret]
          by_cases hT : TL.numL (NumText.digitsVal l) = l
          · have hn : numP l = some (NumText.digitsVal l) := by unfold numP; rw [if_pos ⟨by omega, by omega, hq, hT⟩]
            rw [hn, hT, decide_eq_true rfl]
            exact ⟨fun _ => wp_ret.mpr ⟨rfl, Gr0.app _ _⟩, fun z => (z rfl).elim⟩
          · have hn : numP l = none := by unfold numP; rw [if_neg (by rintro ⟨_, _, _, z⟩; exact hT z)]
            rw [hn, decide_eq_false (fun z => hT (SX.S_inj z).symm)]
            exact ⟨fun z => (nomatch z), fun _ => ⟨rfl, Gr0.app _ _⟩⟩
    · have hn : numP l = none := by unfold numP; rw [if_neg (by omega)]
      walk_at "mi*"
      exact ⟨rfl, Gr0.refl _⟩
  · have hn : numP l = none := by unfold numP; rw [if_neg (by omega)]
    walk_at "mi*"
    exact ⟨rfl, Gr0.refl _⟩
theorem par_some : ∀ (l acc p r : List Nat), TL.par [47] acc l = some (p, r) → ∃ p', p = acc ++ p' ∧ l = p' ++ 47 :: r ∧ 47 ∉ p'
  | [], acc, p, r, h => by cases h
  | c :: l, acc, p, r, h => by
    by_cases hc : c = 47
    · subst hc
      rw [TL.par_hit rfl] at h
      cases h
      exact ⟨[], by simp, rfl, by simp⟩
    · rw [TL.par_miss (TL.pre_of_head _ _ hc)] at h
      obtain ⟨p', h1, h2, h3⟩ := par_some l _ p r h
      refine ⟨c :: p', by rw [h1]; simp, by rw [h2]; rfl, ?_⟩
      intro z
      rcases List.mem_cons.mp z with z | z
      · exact hc z.symm
      · exact h3 z
theorem fracO_some {l : List Nat} {q : Rat} : fracO l = some q ↔ txt q = l ∧ few q = true := by
  constructor
  · intro h
    have e : txt q = l := by
      unfold fracO at h
      have key : ∀ {neg : Bool} {x y : Option Nat}, readO neg l x y = some q → txt q = l := by
        intro neg x y h
        cases x with
        | none => cases h
        | some a =>
          cases y with
          | none => cases h
          | some b =>
            by_cases hb : b = 0
            · subst hb; cases h
            · rw [readO_1 hb] at h
              generalize hv : Rat.divInt (if neg = true then -(a : Int) else a) b = v at h
              by_cases ht : txt v = l
              · rw [if_pos ht] at h
                cases h
                exact ht
              · rw [if_neg ht] at h
                cases h
      split at h <;> exact key h
    subst e
    rw [fracO_txt] at h
    split at h
    · exact ⟨rfl, by assumption⟩
    · cases h
  · rintro ⟨rfl, h⟩
    rw [fracO_txt, if_pos h]
/-- what the law's reading tells of the two numbers -/
def lawN (neg : Bool) (low2 : Bool) : Option Nat → Option Nat → Option Rat
  | some a, some b => if (low2 = true ∧ b < 2) ∨ (neg = true ∧ a = 0) then none else if Nat.gcd a b = 1 then some (Rat.divInt ((if neg then -1 else 1) * (a : Int)) b) else none
  | _, _ => none
def cutN (p : List Nat) : List Nat := if p.take 1 = [45] then p.drop 1 else p
def lawO (l : List Nat) : Option Rat := match TL.par [47] [] l with
  | some (p, r) => lawN (decide (p.take 1 = [45])) true (numP (cutN p)) (numP r)
  | none => lawN (decide (l.take 1 = [45])) false (numP (cutN l)) (some 1)
theorem div_of {n : Int} {b : Nat} (hb : 0 < b) (hg : Nat.gcd n.natAbs b = 1) : (Rat.divInt n b).num = n ∧ (Rat.divInt n b).den = b := by
  have e : (⟨n, b, by omega, hg⟩ : Rat) = Rat.divInt n b := Rat.mk_eq_divInt
  rw [← e]
  exact ⟨rfl, rfl⟩
theorem cut_take {p : List Nat} (h : p.take 1 = [45]) : p = 45 :: cutN p := by
  unfold cutN
  rw [if_pos h]
  have := List.take_append_drop 1 p
  rw [h] at this
  exact this.symm
theorem head_take {p : List Nat} : (p.take 1 = [45]) ↔ p.head? = some 45 := by
  cases p <;> simp
theorem lawN_to {l p r : List Nat} {neg low2 : Bool} {b : Option Nat} {q : Rat} (hn : neg = decide (p.take 1 = [45])) (h : lawN neg low2 (numP (cutN p)) b = some q) (hb : ∀ n, b = some n → 0 < n ∧ n < 1000000 ∧ (low2 = true → 2 ≤ n → l = p ++ 47 :: TL.numL n) ∧ (low2 = false → n = 1 ∧ l = p)) : txt q = l ∧ few q = true := by
  unfold lawN at h
  split at h
  · rename_i a n ha
    split at h
    · cases h
    · rename_i g1
      split at h
      · rename_i g2
        cases h
        obtain ⟨ea, la⟩ := numP_some.mp ha
        obtain ⟨hb0, hb1, hb2, hb3⟩ := hb n rfl
        have hg : Nat.gcd ((if neg then -1 else 1) * (a : Int)).natAbs n = 1 := by
          cases neg <;> simpa using g2
        obtain ⟨dn, dd⟩ := div_of hb0 hg
        have an : ((if neg then -1 else 1) * (a : Int)).natAbs = a := by cases neg <;> simp
        have hp : sgn (((if neg then -1 else 1) * (a : Int))) ++ TL.numL a = p := by
          cases neg with
          | true =>
            have ht := of_decide_eq_true hn.symm
            have : ¬ a = 0 := fun z => g1 (.inr ⟨rfl, z⟩)
            rw [cut_take ht, ea]
            unfold sgn
            rw [if_pos (by simp <;> omega)]
            rfl
          | false =>
            have ht := of_decide_eq_false hn.symm
            unfold cutN at ea
            rw [if_neg ht] at ea
            rw [ea]
            unfold sgn
            rw [if_neg (by simp <;> omega)]
            rfl
        refine ⟨?_, ?_⟩
        · unfold txt
          rw [dn, dd, an, hp]
          cases low2 with
          | false =>
            obtain ⟨h1, h2⟩ := hb3 rfl
            rw [if_pos h1, h2, List.append_nil]
          | true =>
            have : 2 ≤ n := by
              by_cases z : n < 2
              · exact (g1 (.inl ⟨rfl, z⟩)).elim
              · omega
            rw [if_neg (by omega), hb2 rfl this]
        · unfold few
          rw [dn, dd, an, decide_eq_true la, decide_eq_true hb1]
          rfl
      · cases h
  · cases h
theorem lawO_some {l : List Nat} {q : Rat} : lawO l = some q ↔ txt q = l ∧ few q = true := by
  constructor
  · intro h
    unfold lawO at h
    split at h
    · rename_i p r hp
      obtain ⟨p', e1, e2, e3⟩ := par_some _ _ _ _ hp
      rw [List.nil_append] at e1
      subst e1
      refine lawN_to (l := l) (r := r) rfl h fun n hn => ?_
      obtain ⟨er, lr⟩ := numP_some.mp hn
      refine ⟨?_, lr, fun _ _ => by rw [e2, er], fun z => (nomatch z)⟩
      by_cases z : n = 0
      · subst z
        rw [hn] at h
        unfold lawN at h
        split at h
        · rename_i heq
          cases heq
          rw [if_pos (.inl ⟨rfl, by omega⟩)] at h
          cases h
        · cases h
      · omega
    · refine lawN_to (l := l) (r := []) rfl h fun n hn => ?_
      cases hn
      exact ⟨by omega, by omega, fun z => (nomatch z), fun _ => ⟨rfl, rfl⟩⟩
  · rintro ⟨rfl, hf⟩
    unfold few at hf
    rw [Bool.and_eq_true, decide_eq_true_eq, decide_eq_true_eq] at hf
    obtain ⟨f1, f2⟩ := hf
    have hc : cutN (sgn q.num ++ TL.numL q.num.natAbs) = TL.numL q.num.natAbs ∧ decide ((sgn q.num ++ TL.numL q.num.natAbs).take 1 = [45]) = decide (q.num < 0) := by
      obtain ⟨c, t, e, hc⟩ := num_head q.num.natAbs
      unfold cutN sgn
      by_cases h : q.num < 0
      · rw [if_pos h, decide_eq_true h]
        simp
      · rw [if_neg h, decide_eq_false h, List.nil_append, e]
        simp [hc]
    have fin : ∀ low2 : Bool, (low2 = true → 2 ≤ q.den) → lawN (decide (q.num < 0)) low2 (some q.num.natAbs) (some q.den) = some q := by
      intro low2 h2
      have hr : Nat.gcd q.num.natAbs q.den = 1 := q.reduced
      show (if (low2 = true ∧ q.den < 2) ∨ (decide (q.num < 0) = true ∧ q.num.natAbs = 0) then none else if Nat.gcd q.num.natAbs q.den = 1 then some (Rat.divInt ((if decide (q.num < 0) = true then -1 else 1) * (q.num.natAbs : Int)) q.den) else none) = some q
      rw [if_neg, if_pos hr]
      · congr 1
        have : ((if decide (q.num < 0) = true then (-1 : Int) else 1) * (q.num.natAbs : Int)) = q.num := by
          by_cases h : q.num < 0
          · rw [decide_eq_true h, if_pos rfl]; omega
          · rw [decide_eq_false h, if_neg Bool.false_ne_true]; omega
        rw [this, Rat.num_divInt_den]
      · rintro (⟨z1, z2⟩ | ⟨z1, z2⟩)
        · have := h2 z1
          omega
        · have := of_decide_eq_true z1
          omega
    unfold lawO
    rcases txt_par q with ⟨a1, a2, a3⟩ | ⟨a1, a2⟩
    · rw [a2]
      dsimp only
      rw [a3, hc.1, hc.2, numP_some.mpr ⟨rfl, f1⟩]
      have := fin false (fun z => (nomatch z))
      rw [a1] at this
      exact this
    · rw [a2]
      dsimp only
      rw [hc.1, hc.2, numP_some.mpr ⟨rfl, f1⟩, numP_some.mpr ⟨rfl, f2⟩]
      have := q.den_nz
      exact fin true fun _ => by omega
theorem lawO_eq (l : List Nat) : lawO l = fracO l := by
  apply Option.ext
  intro q
  rw [lawO_some, fracO_some]
theorem cutS_to {l : List Nat} {i : Nat} : cutS (T l) none (some (i : Int)) = T (l.take i) := by
  rw [C8.cutS_slice, SX.slice_to (by omega)]
  simp
theorem cutS_from {l : List Nat} {i : Nat} : cutS (T l) (some (i : Int)) none = T (l.drop i) := by
  rw [C8.cutS_slice, SX.slice_from (by omega)]
  simp
theorem run_lread {l : List Nat} {μ : List O} {E : Ex → List O → Prop} (hl : l.length ≤ 5000) : Wp (m_l_read [.str (T l)]) μ (fun r μ' => r = ofQ (fracO l) ∧ Gr0 μ μ') E := by
  rw [← lawO_eq]
  unfold m_l_read c_l_read
  have hs : sizeLine = 16777216 := sizeLine_eq
  have lt : ∀ a : List Nat, (T a).length = a.length := SX.S_len
  have hm := minus_S
  have hb := bar_S
  have he := empty_S
  have lb : ((T [47]).length == 0) = false := rfl
  have nn : ¬ (T [47] = T []) := fun z => by have := SX.S_inj z; cases this
  have sl1 : ∀ p : List Nat, slD (.str (T p)) none (some 1) = if p.length ≤ sizeLine then M.ret (.str (T (p.take 1))) else M.stop := fun p => by
    show (if (T p).length ≤ sizeLine then M.ret (D.str (cutS (T p) none (some ((1 : Nat) : Int)))) else M.stop) = _
    rw [cutS_to, lt]
  have sl2 : ∀ (p : List Nat) (b : Bool), slD (.str (T p)) (some (if b = true then 1 else 0)) none = if p.length ≤ sizeLine then M.ret (.str (T (if b = true then p.drop 1 else p))) else M.stop := fun p b => by
    cases b with
    | true =>
      show (if (T p).length ≤ sizeLine then M.ret (D.str (cutS (T p) (some ((1 : Nat) : Int)) none)) else M.stop) = _
      rw [cutS_from, lt]
      rfl
    | false =>
      show (if (T p).length ≤ sizeLine then M.ret (D.str (cutS (T p) (some ((0 : Nat) : Int)) none)) else M.stop) = _
      rw [cutS_from, lt]
      rfl
  have e1 : ∀ p : List Nat, (T (p.take 1) = T [45]) ↔ p.take 1 = [45] := fun p => ⟨SX.S_inj, fun h => by rw [h]⟩
  have fin : ∀ (s : Int) (a b : Nat) (μ1 : List O) (X : D), s.natAbs = 1 → 0 < b → a < 1000000 → Gr0 μ μ1 → X = ofQ (if Nat.gcd a b = 1 then some (Rat.divInt (s * a) b) else none) →
      Wp (m_l_shared [.int a, .int b]) μ1 (fun d_3 μ' => Wp (eqD d_3 (.int 1)) μ' (fun d_4 μ' => Wp (asB d_4) μ' (fun d_5 μ' => (d_5 = true → Wp (mulD (.int s) (.int a)) μ' (fun d μ' => D.tup [d, .int b] = X ∧ Gr0 μ μ') fun x μ' => E x μ') ∧ (¬ d_5 = true → D.non = X ∧ Gr0 μ μ')) fun x μ' => E x μ') fun x μ' => E x μ') fun x μ' => E x μ' := by
    intro s a b μ1 X hs1 hb0 ha g hX
    refine Wp.go (run_lshared a b _ _) ?_
    rintro _ _ ⟨rfl, rfl⟩
    rw [o_eq, wp_ret, o_asB, wp_ret]
    by_cases hg : Nat.gcd a b = 1
    · rw [hg, decide_eq_true (show ((1 : Nat) : Int) = 1 from rfl)]
      refine ⟨fun _ => ?_, fun z => (z rfl).elim⟩
      rw [o_mul, if_pos (mulOk_l (by omega) (by omega)), wp_ret, hX, if_pos hg]
      have hg2 : Nat.gcd (s * a).natAbs b = 1 := by rw [Int.natAbs_mul, hs1, Nat.one_mul]; exact hg
      obtain ⟨d1, d2⟩ := div_of hb0 hg2
      refine ⟨?_, g⟩
      show _ = D.tup [.int (Rat.divInt (s * a) b).num, .int (Rat.divInt (s * a) b).den]
      rw [d1, d2]
    · rw [decide_eq_false (show ¬ ((Nat.gcd a b : Nat) : Int) = 1 by omega)]
      refine ⟨fun z => (nomatch z), fun _ => ?_⟩
      rw [hX, if_neg hg]
      exact ⟨rfl, g⟩
  cases hp : TL.par [47] [] l with
  | none =>
    have hpt : Txt.partition (T l) (T [47]) = (T l, T [], T []) := SX.partition_none (by simp) hp
    have hF : lawO l = lawN (decide (l.take 1 = [45])) false (numP (cutN l)) (some 1) := by unfold lawO; rw [hp]
    walk_at "mi*"
    refine ⟨⟨rfl, by omega⟩, by omega, fun h1 => ?_, fun h1 => ?_⟩
    · have ec : cutN l = l.drop 1 := by unfold cutN; rw [if_pos h1]
      have := sl2 l true
      rw [if_pos rfl, if_pos rfl, if_pos (by omega), ← ec] at this
      rw [this, wp_ret, decide_eq_true h1]
      refine Wp.go (run_lnumber (by rw [ec, List.length_drop]; omega)) ?_
      rintro _ μ1 ⟨rfl, g⟩
      cases hn : numP (cutN l) with
      | none => exact ⟨fun _ => ⟨rfl, g⟩, fun z => (z rfl).elim⟩
      | some a =>
        have la := (numP_some.mp hn).2
        refine ⟨fun z => (nomatch z), fun _ => ⟨fun z => (nomatch z), fun _ => ?_⟩⟩
        show Wp (eqD (.int a) (.int 0)) μ1 _ _
        rw [o_eq, wp_ret, o_asB, wp_ret]
        by_cases h0 : a = 0
        · subst h0
          exact ⟨fun _ => ⟨rfl, g⟩, fun z => (z rfl).elim⟩
        · rw [decide_eq_false (show ¬ ((a : Nat) : Int) = 0 by omega)]
          refine ⟨fun z => (nomatch z), fun _ => ?_⟩
          refine fin (-1) a 1 μ1 _ (by omega) (by omega) la g ?_
          show ofQ (if (false = true ∧ 1 < 2) ∨ (true = true ∧ a = 0) then none else if Nat.gcd a 1 = 1 then some (Rat.divInt ((if true then -1 else 1) * (a : Int)) ((1 : Nat) : Int)) else none) = _
          rw [if_neg (by rintro (⟨z, _⟩ | ⟨_, z⟩); exact (nomatch z); exact h0 z)]
          rfl
    · have ec : cutN l = l := by unfold cutN; rw [if_neg h1]
      have := sl2 l false
      rw [if_neg Bool.false_ne_true, if_neg Bool.false_ne_true, if_pos (by omega)] at this
      rw [this, wp_ret, decide_eq_false h1, ec]
      refine Wp.go (run_lnumber (by omega)) ?_
      rintro _ μ1 ⟨rfl, g⟩
      cases hn : numP l with
      | none => exact ⟨fun _ => ⟨rfl, g⟩, fun z => (z rfl).elim⟩
      | some a =>
        have la := (numP_some.mp hn).2
        refine ⟨fun z => (nomatch z), fun _ => ⟨fun z => (nomatch z), fun _ => ?_⟩⟩
        refine fin 1 a 1 μ1 _ (by omega) (by omega) la g ?_
        show ofQ (if (false = true ∧ 1 < 2) ∨ (false = true ∧ a = 0) then none else if Nat.gcd a 1 = 1 then some (Rat.divInt ((if false then -1 else 1) * (a : Int)) ((1 : Nat) : Int)) else none) = _
        rw [if_neg (by rintro (⟨z, _⟩ | ⟨z, _⟩) <;> exact (nomatch z))]
        rfl
  | some pr =>
    obtain ⟨p, r⟩ := pr
    have hpt : Txt.partition (T l) (T [47]) = (T p, T [47], T r) := SX.partition_some (by simp) hp
    have hF : lawO l = lawN (decide (p.take 1 = [45])) true (numP (cutN p)) (numP r) := by unfold lawO; rw [hp]
    have hlen : p.length ≤ 5000 ∧ r.length ≤ 5000 := by
      have := par_len l [] p r hp
      simp at this
      omega
    walk_at "mi*"
    refine ⟨⟨rfl, by omega⟩, by omega, fun h1 => ?_, fun h1 => ?_⟩
    · have ec : cutN p = p.drop 1 := by unfold cutN; rw [if_pos h1]
      have := sl2 p true
      rw [if_pos rfl, if_pos rfl, if_pos (by omega), ← ec] at this
      rw [this, wp_ret, decide_eq_true h1]
      refine Wp.go (run_lnumber (by rw [ec, List.length_drop]; omega)) ?_
      rintro _ μ1 ⟨rfl, g1⟩
      refine Wp.go (run_lnumber (by omega)) ?_
      rintro _ μ2 ⟨rfl, g2⟩
      have g := g1.trans g2
      cases hn : numP (cutN p) with
      | none => exact ⟨fun _ => ⟨rfl, g⟩, fun z => (z rfl).elim⟩
      | some a =>
        have la := (numP_some.mp hn).2
        refine ⟨fun z => (nomatch z), fun _ => ?_⟩
        cases hr : numP r with
        | none => exact ⟨fun _ => ⟨rfl, g⟩, fun z => (z rfl).elim⟩
        | some b =>
          refine ⟨fun z => (nomatch z), fun _ => ?_⟩
          show Wp (ltD (.int b) (.int 2)) μ2 _ _
          rw [o_lt, wp_ret, o_asB, wp_ret]
          have eL : ∀ x, x = lawN true true (some a) (some b) → x = (if (true = true ∧ b < 2) ∨ (true = true ∧ a = 0) then none else if Nat.gcd a b = 1 then some (Rat.divInt ((if true then -1 else 1) * (a : Int)) b) else none) := fun x h => h
          rw [eL _ rfl]
          by_cases hb2 : b < 2
          · rw [decide_eq_true (show ((b : Nat) : Int) < 2 by omega), if_pos (.inl ⟨rfl, hb2⟩)]
            exact ⟨fun _ => ⟨rfl, g⟩, fun z => (z rfl).elim⟩
          · rw [decide_eq_false (show ¬ ((b : Nat) : Int) < 2 by omega)]
            refine ⟨fun z => (nomatch z), fun _ => ?_⟩
            show Wp (eqD (.int a) (.int 0)) μ2 _ _
            rw [o_eq, wp_ret, o_asB, wp_ret]
            by_cases h0 : a = 0
            · rw [if_pos (.inr ⟨rfl, h0⟩)]
              subst h0
              exact ⟨fun _ => ⟨rfl, g⟩, fun z => (z rfl).elim⟩
            · rw [decide_eq_false (show ¬ ((a : Nat) : Int) = 0 by omega)]
              refine ⟨fun z => (nomatch z), fun _ => ?_⟩
              refine fin (-1) a b μ2 _ (by omega) (by omega) la g ?_
              rw [if_neg (by rintro (⟨_, z⟩ | ⟨_, z⟩); exact hb2 z; exact h0 z)]
              rfl
    · have ec : cutN p = p := by unfold cutN; rw [if_neg h1]
      have := sl2 p false
      rw [if_neg Bool.false_ne_true, if_neg Bool.false_ne_true, if_pos (by omega)] at this
      rw [this, wp_ret, decide_eq_false h1, ec]
      refine Wp.go (run_lnumber (by omega)) ?_
      rintro _ μ1 ⟨rfl, g1⟩
      refine Wp.go (run_lnumber (by omega)) ?_
      rintro _ μ2 ⟨rfl, g2⟩
      have g := g1.trans g2
      cases hn : numP p with
      | none => exact ⟨fun _ => ⟨rfl, g⟩, fun z => (z rfl).elim⟩
      | some a =>
        have la := (numP_some.mp hn).2
        refine ⟨fun z => (nomatch z), fun _ => ?_⟩
        cases hr : numP r with
        | none => exact ⟨fun _ => ⟨rfl, g⟩, fun z => (z rfl).elim⟩
        | some b =>
          refine ⟨fun z => (nomatch z), fun _ => ?_⟩
          show Wp (ltD (.int b) (.int 2)) μ2 _ _
          rw [o_lt, wp_ret, o_asB, wp_ret]
          have eL : ∀ x, x = lawN false true (some a) (some b) → x = (if (true = true ∧ b < 2) ∨ (false = true ∧ a = 0) then none else if Nat.gcd a b = 1 then some (Rat.divInt ((if false then -1 else 1) * (a : Int)) b) else none) := fun x h => h
          rw [eL _ rfl]
          by_cases hb2 : b < 2
          · rw [decide_eq_true (show ((b : Nat) : Int) < 2 by omega), if_pos (.inl ⟨rfl, hb2⟩)]
            exact ⟨fun _ => ⟨rfl, g⟩, fun z => (z rfl).elim⟩
          · rw [decide_eq_false (show ¬ ((b : Nat) : Int) < 2 by omega)]
            refine ⟨fun z => (nomatch z), fun _ => ?_⟩
            refine fin 1 a b μ2 _ (by omega) (by omega) la g ?_
            rw [if_neg (by rintro (⟨_, z⟩ | ⟨z, _⟩); exact hb2 z; exact (nomatch z))]
            rfl
theorem cat_len (x y : Str) : (x ++ y).length = x.length + y.length := by
  rw [TL.len_tl, TL.len_tl x, TL.len_tl y, TL.tl_append, List.length_append]
theorem repS_len (x : Str) (n : Nat) : (repS x n).length = x.length * n := by
  show (List.replicate n x.cps.toList).flatten.toArray.size = x.cps.size * n
  rw [List.size_toArray, List.length_flatten, List.map_replicate, List.sum_replicate_nat, Nat.mul_comm]
  simp
theorem o_slS {z : Str} {lo hi : Option Int} (h : z.length ≤ sizeLine) : slD (.str z) lo hi = M.ret (.str (cutS z lo hi)) := by
  show (if z.length ≤ sizeLine then M.ret (D.str (cutS z lo hi)) else M.stop) = _
  rw [if_pos h]
theorem wp_sign {z : Str} {i : Int} {μ : List O} {E : Ex → List O → Prop} (h : z.length ≤ sizeLine) (h0 : 0 ≤ i) (h1 : i < z.length) : Wp (ixD (.str z) (.int i)) μ (fun d μ' => (∃ c : Str, d = .str c ∧ c.length = 1) ∧ μ' = μ) E := by
  obtain ⟨j, rfl⟩ : ∃ j : Nat, i = j := ⟨i.toNat, by omega⟩
  have hj : j < z.cps.toList.length := by
    have : z.length = z.cps.toList.length := by simp [Str.length]
    omega
  show Wp (if z.length ≤ sizeLine then match L2.atI z.cps.toList (j : Int) with
      | some c => M.ret (D.str ⟨#[c]⟩)
      | none => M.stop
    else M.stop) _ _ _
  rw [if_pos h, atI_nat (List.getElem?_eq_getElem hj)]
  exact wp_ret.mpr ⟨⟨_, rfl, rfl⟩, rfl⟩
theorem run_bent {l n : Nat} {z : Str} {μ : List O} {E : Ex → List O → Prop} (h : Pot μ l n) (hn : n + 10 ≤ 1000000) (hz : z.length ≤ 3000) :
    Wp (m_l_bent [.ref l, .str z]) μ (fun r μ' => (∃ y : Str, r = .str y ∧ y.length ≤ 2 * z.length + 2000) ∧ Pot μ' l (n + 3) ∧ Gr l μ μ') E := by
  unfold m_l_bent c_l_bent
  have hs : sizeLine = 16777216 := sizeLine_eq
  have ol : lenD [.str z] = M.ret (.int z.length) := by
    show (if z.length ≤ sizeLine then M.ret (D.int z.length) else M.stop) = _
    rw [if_pos (by omega)]
  walk_at "mi*"
  have lg : ((z.length : Int) + 1).natAbs.log2 < 9000 := Nat.lt_of_le_of_lt (log2_mono (show ((z.length : Int) + 1).natAbs ≤ 10000 by omega)) (by decide)
  refine Wp.go (run_draw h (by omega) (by omega) lg) ?_
  rintro _ μ1 ⟨⟨d1, rfl, a1, b1⟩, p1, g1⟩
  walk_at "mi*"
  refine Wp.go (run_draw p1 (by omega) (by decide) (by decide)) ?_
  rintro _ μ2 ⟨⟨d2, rfl, a2, b2⟩, p2, g2⟩
  have k17 : (Str.ofString "0123456789/-+ .a\n").length = 17 := by decide +kernel
  refine Wp.go (wp_sign (by omega) a2 (by omega)) ?_
  rintro _ μq ⟨⟨c, rfl, hc⟩, hq⟩
  subst hq
  have sl : ∀ lo hi, slD (.str z) lo hi = M.ret (.str (cutS z lo hi)) := fun lo hi => o_slS (by omega)
  have cl := L2.cutS_length z
  have s1 : ∀ y ∈ ["-", "0", "+", "9", "7"], (Str.ofString y).length = 1 := by decide +kernel
  have s2 : ∀ y ∈ ["/1", "/0", "/2", "1/", "-0"], (Str.ofString y).length = 2 := by decide +kernel
  have c1 := cl none (some d1)
  have c2 := cl (some d1) none
  have c3 := cl (some (d1 + 1)) none
  have t1 := s1 "-" (by simp)
  have t2 := s1 "0" (by simp)
  have t3 := s1 "+" (by simp)
  have t4 := s1 "9" (by simp)
  have t5 := s1 "7" (by simp)
  have u1 := s2 "/1" (by simp)
  have u2 := s2 "/0" (by simp)
  have u3 := s2 "/2" (by simp)
  have u4 := s2 "1/" (by simp)
  walk_at "mi*"
  have zl : ∀ y : Str, y.cps.toList.length = y.length := fun y => by simp [Str.length]
  have k1 : Int.toNat 1900 = 1900 := rfl
  have k2 : Int.toNat 2 = 2 := rfl
  simp only [cat_len, repS_len, zl, t4, t5, k1, k2]
  refine ⟨by omega, by omega, by omega, by omega, by omega, by omega, by omega, by omega, by omega, by omega, by omega, ⟨by omega, by omega, by omega⟩, by omega, ⟨by omega, by omega, by omega⟩, by omega, ⟨by omega, by omega, by omega⟩, ?_⟩
  refine Wp.go (run_draw p2.app (by omega) (by decide) (by decide)) ?_
  rintro _ μ3 ⟨⟨d3, rfl, a3, b3⟩, p3, g3⟩
  have h3 := g3.at_ (μq.length + 4) _ (by have := p2.lt; omega) at_off
  rw [ix_ref, wp_bnd, wp_lst h3]
  have G : Gr l μ μ3 := (g1.trans g2).trans ((Gr0.app _ _).gr.trans g3)
  refine wp_at (by omega) (by simp; omega) fun d hd => ⟨?_, p3, G⟩
  have v1 : ∀ y ∈ ["0/3", "2/4", "1/1", "1/-2", "", "/"], (Str.ofString y).length ≤ 4 := by decide +kernel
  have w1 := v1 "0/3" (by simp)
  have w2 := v1 "2/4" (by simp)
  have w3 := v1 "1/1" (by simp)
  have w4 := v1 "1/-2" (by simp)
  have w5 := v1 "" (by simp)
  have w6 := v1 "/" (by simp)
  have u5 := s2 "-0" (by simp)
  clear h3 g3 p3 G
  simp only [List.mem_cons, List.not_mem_nil, or_false] at hd
  rcases hd with rfl | rfl | rfl | rfl | rfl | rfl | rfl | rfl | rfl | rfl | rfl | rfl | rfl | rfl | rfl | rfl | rfl | rfl | rfl | rfl
  all_goals exact ⟨_, rfl, by first | omega | (simp only [cat_len, repS_len, t4, t5]; omega)⟩
theorem repS_0 (x : Str) : repS x 0 = T [] := rfl
theorem repS_1 (x : Str) : repS x 1 = x := by
  obtain ⟨⟨cs⟩⟩ := x
  simp [repS]
theorem ws_then {s : CS} {r : CB} {ρ : Mi.Env} {μ : List O} {S : SR → List O → Prop} (P : Mi.Env → List O → Prop) (h : Ws (s.run ρ) μ (fun x μ' => ∃ ρ1, x = .nx ρ1 ∧ P ρ1 μ')) (k : ∀ ρ1 μ', P ρ1 μ' → Ws (r.run ρ1) μ' S) : Ws ((bCons s r).run ρ) μ S := by
  rw [ws_cons]
  refine h.mono ?_
  rintro _ μ' ⟨ρ1, rfl, q⟩
  exact k _ _ q
theorem line_txt (q : Rat) : (T (sgn q.num ++ TL.numL q.num.natAbs) ++ repS (T [47]) (if 1 < q.den then 1 else 0)) ++ repS (T (TL.numL q.den)) (if 1 < q.den then 1 else 0) = T (txt q) := by
  have := q.den_nz
  unfold txt
  by_cases h : 1 < q.den
  · rw [if_pos h, if_neg (by omega), repS_1, repS_1, SX.S_cat, SX.S_cat, List.append_assoc]
    rfl
  · rw [if_neg h, if_pos (by omega), repS_0, repS_0, SX.S_cat, SX.S_cat]
    simp
theorem ty_gr {l : Nat} {μ μ' : List O} {d : D} {n : String} (g : Gr l μ μ') (hd : d ≠ .ref l) (h : tyN μ d = some n) : tyN μ' d = some n := by
  cases d with
  | ref j =>
    have hj : j ≠ l := fun z => hd (by rw [z])
    dsimp only [tyN] at h ⊢
    cases e : μ[j]? with
    | none => rw [e] at h; cases h
    | some o =>
      rw [e] at h
      rw [g.at_ _ _ hj e]
      exact h
  | _ => exact h
def Odd (l : Nat) (μ : List O) (d : D) : Prop := d ≠ .ref l ∧ ∃ n, tyN μ d = some n ∧ isSub n "str" = false
theorem Odd.gr {l : Nat} {μ μ' : List O} {d : D} (h : Odd l μ d) (g : Gr l μ μ') : Odd l μ' d := ⟨h.1, let ⟨n, a, b⟩ := h.2; ⟨n, ty_gr g h.1 a, b⟩⟩
theorem few_sm {q : Rat} (h : few q = true) : Sm 20 q := by
  unfold few at h
  rw [Bool.and_eq_true, decide_eq_true_eq, decide_eq_true_eq] at h
  have : (1000000 : Nat) < 2 ^ 20 := by decide
  exact ⟨by omega, by omega⟩
theorem wp_reprQ {o : Option Rat} (h : ∀ q, o = some q → few q = true) : ∃ s : Str, ∀ (μ : List O) (P : D → List O → Prop) (E : Ex → List O → Prop), Wp (reprD [ofQ o]) μ P E ↔ P (.str s) μ := by
  cases o with
  | none =>
    exact ⟨PyData.none.shown, fun μ P E => wp_repr (show see μ 62 .non = some .none from rfl) (by decide +kernel)⟩
  | some q =>
    have hS : Sn 0 [] 60 1000 (fr q) := sn_fr (few_sm (h q rfl)) (by omega) (by omega) (by omega)
    obtain ⟨p, e, f⟩ := hS.see_out (Nat.zero_le _)
    exact ⟨p.shown, fun μ P E => wp_repr (show see μ 62 (fr q) = some p from see_mono (fun j o h => by simp at h) (by omega) e) (f.ok (by omega) (by omega))⟩
theorem neN {o : Option Rat} : neD (ofQ o) .non = M.ret (.bl o.isSome) := by
  cases o with
  | none => rfl
  | some q =>
    funext μ
    show eqvD true (fr q) .non μ = _
    have h1 : see μ 65 (fr q) = some (.tuple [.int q.num, .int q.den]) := rfl
    have h2 : see μ 65 .non = some .none := rfl
    unfold eqvD
    rw [h1, h2]
    rfl
theorem neF {o : Option Rat} {q : Rat} : neD (ofQ o) (fr q) = M.ret (.bl (!decide (o = some q))) := by
  cases o with
  | some p =>
    show neD (fr p) (fr q) = _
    rw [nev_fr]
    congr 2
    simp
  | none =>
    funext μ
    show eqvD true .non (fr q) μ = _
    have h1 : see μ 65 (fr q) = some (.tuple [.int q.num, .int q.den]) := rfl
    have h2 : see μ 65 .non = some .none := rfl
    unfold eqvD
    rw [h1, h2]
    rfl
/-- a thing that both readings tell the same of -/
def Rdg (l : Nat) (μ : List O) (d : D) : Prop := ∃ o, (∀ q, o = some q → few q = true) ∧ ∀ μ1, Gr l μ μ1 → ∀ E : Ex → List O → Prop, Wp (m_l_read [d]) μ1 (fun r μ' => r = ofQ o ∧ Gr0 μ1 μ') E ∧ Wp (m_fraction_of [d]) μ1 (fun r μ' => r = ofQ o ∧ Gr0 μ1 μ') E
theorem rdg_str {l : Nat} {μ : List O} {z : Str} (h : z.length ≤ 5000) : Rdg l μ (.str z) := by
  have e : z = T z.cps.toList := (TL.mk_tl z).symm
  have hl : z.cps.toList.length ≤ 5000 := by simpa [Str.length] using h
  rw [e]
  exact ⟨fracO z.cps.toList, fun q hq => (fracO_some.mp hq).2, fun μ1 _ E => ⟨run_lread hl, run_fraction_of hl⟩⟩
theorem rdg_odd {l : Nat} {μ : List O} {d : D} (h : Odd l μ d) : Rdg l μ d := by
  refine ⟨none, fun q hq => (nomatch hq), fun μ1 g E => ?_⟩
  obtain ⟨n, h1, h2⟩ := (h.gr g).2
  constructor
  · unfold m_l_read c_l_read
    try walk_at "mi*"
    exact ⟨rfl, Gr0.refl _⟩
  · unfold m_fraction_of c_fraction_of
    try walk_at "mi*"
    exact ⟨rfl, Gr0.refl _⟩
theorem run_law {ns : List Int} (hn : ns.length ≤ 63) : Wp (m_law [scr ns]) [] (fun r _ => r = .bl true) (fun _ _ => False) := by
  unfold m_law c_law
  have hs : sizeLine = 16777216 := sizeLine_eq
  have hsc : scr ns = .fro (ns.map .int) := rfl
  have hc : (Mi.cutD (List.map D.int ns) none (some 6)).length ≤ 6 := by
    simp [Mi.cutD, HT.sIx]
    omega
  have o10 : ok62 20 := by decide
  walk_at "mi*"
  refine ⟨⟨by omega, by omega⟩, ?_⟩
  refine ws_forR (fun i ρ _ => ∃ x1 x2 x3 x4 x5 x6 x7 x8 x9 x10, ρ = [some (scr ns), x1, x2, x3, x4, x5, x6, x7, x8, x9, x10]) ?_ ?_ ?_
  · exact ⟨_, _, _, _, _, _, _, _, _, _, rfl⟩
  · rintro k ρ μ hk ⟨x1, x2, x3, x4, x5, x6, x7, x8, x9, x10, rfl⟩
    refine ⟨_, _, rfl, ?_⟩
    have hk' : k ≤ 63 := by omega
    walk_at "mi"
    rw [show (0 : Int) + k = k by omega]
    refine Wp.go (run_begin hk') ?_
    rintro _ μ1 ⟨l, rfl, hl1, p1, _⟩
    walk_at "mi*"
    refine ws_forR (fun i ρ μ' => ∃ x3 x4 x5 x6 x7 x8 x9 x10, ρ = [some (scr ns), some (.int k), some (.ref l), x3, x4, x5, x6, x7, x8, x9, x10] ∧ Pot μ' l (100 * i)) ?_ ?_ ?_
    · exact ⟨_, _, _, _, _, _, _, _, rfl, p1⟩
    · rintro i ρ μ2 hi ⟨y3, y4, y5, y6, y7, y8, y9, y10, rfl, p2⟩
      refine ⟨_, _, rfl, ?_⟩
      have hi' : i < 20 := hi
      refine ws_then (fun ρ μ' => ∃ q, ρ = [some (scr ns), some (.int k), some (.ref l), some (.int (0 + i)), some (fr q), y5, y6, y7, y8, y9, y10] ∧ Sm 100 q ∧ Pot μ' l (100 * i + 8)) ?_ ?_
      · try walk_at "mi"
        refine Wp.go (run_some_q p2 (by omega)) ?_
        rintro _ μ3 ⟨⟨q1, rfl, h1⟩, p3, g3⟩
        exact ⟨_, rfl, q1, rfl, h1, p3⟩
      rintro _ μ3 ⟨q0, rfl, h0, p3⟩
      refine ws_then (fun ρ μ' => ∃ q, ρ = [some (scr ns), some (.int k), some (.ref l), some (.int (0 + i)), some (fr q), y5, y6, y7, y8, y9, y10] ∧ Sm 100 q ∧ Pot μ' l (100 * i + 10)) ?_ ?_
      · have e6 : (10 : Int) ^ Int.toNat 6 = 1000000 := rfl
        have k6 : powOk 10 6 := by decide
        have m6 : mulOk 2 1000000 := by decide
        try walk_at "mi"
        simp only [e6]
        refine ⟨fun _ => ⟨k6, m6, ?_⟩, fun _ => ⟨_, rfl, q0, rfl, h0, p3.up (by omega)⟩⟩
        refine Wp.go (run_draw p3 (by omega) (by decide) (by decide)) ?_
        rintro _ μ4 ⟨⟨d4, rfl, a4, b4⟩, p4, g4⟩
        try walk_at "mi*"
        refine Wp.go (run_draw p4 (by omega) (by decide) (by decide)) ?_
        rintro _ μ5 ⟨⟨d5, rfl, a5, b5⟩, p5, g5⟩
        try walk_at "mi*"
        have b5' : d5 < 1000000 := b5
        have b4' : d4 < 2000000 := b4
        have d0 : 1 + d5 ≠ 0 := by omega
        refine Wp.go (run_made d0 (Nat.lt_of_le_of_lt (log2_mono (show (1 + d5).natAbs ≤ 1000000 by omega)) (by decide))) ?_
        rintro _ _ ⟨⟨a, b, rfl, hm⟩, rfl⟩
        rw [made_fr d0 hm]
        have p100 : 2000000 < 2 ^ 100 := by decide
        exact ⟨_, rfl, _, rfl, Sm.of (B := 100) d0 rfl (by omega) (by omega), p5⟩
      rintro _ μ4 ⟨q1, rfl, h1, p4⟩
      have lT : ∀ a : List Nat, (T a).length = a.length := SX.S_len
      have hln : (txt q1).length ≤ 300 := by
        have n1 := numL_le (A := 100) h1.1 (by omega)
        have n2 := numL_le (A := 100) h1.2 (by omega)
        have n3 := sgn_len q1.num
        unfold txt
        rw [List.length_append, List.length_append]
        split
        · simp; omega
        · simp; omega
      refine ws_then (fun ρ μ' => ρ = [some (scr ns), some (.int k), some (.ref l), some (.int (0 + i)), some (fr q1), some (.str (T (txt q1))), y6, y7, y8, y9, y10] ∧ Pot μ' l (100 * i + 10)) ?_ ?_
      · have ix0 := @ix_fr0
        have ix1 := @ix_fr1
        have n1 := numL_le (A := 100) h1.1 (by omega)
        have n2 := numL_le (A := 100) h1.2 (by omega)
        have n3 := sgn_len q1.num
        have l1 : q1.num.natAbs.log2 < 1920 := Nat.lt_of_le_of_lt (log2_mono (Nat.le_of_lt h1.1)) (by decide)
        have l2 : (q1.den : Int).natAbs.log2 < 1920 := Nat.lt_of_le_of_lt (log2_mono (Nat.le_of_lt h1.2)) (by decide)
        have e1 := txt_int q1.num
        have e2 : Str.ofString (toString ((q1.den : Nat) : Int)) = T (TL.numL q1.den) := SX.num_S _
        have e3 := bar_S
        have e4 : ∀ b : Bool, Int.toNat (if b = true then 1 else 0) = if b = true then 1 else 0 := fun b => by cases b <;> rfl
        have e5 : decide ((1 : Int) < q1.den) = decide (1 < q1.den) := by rw [decide_eq_decide]; omega
        have e6 := line_txt q1
        try walk_at "mi*"
        have t1 : Int.toNat 1 = 1 := rfl
        have t0 : Int.toNat 0 = 0 := rfl
        by_cases hd : 1 < q1.den
        · simp only [hd, if_true, repS_1, SX.S_cat] at e6
          simp only [hd, if_true, t1, repS_1, SX.S_cat, List.length_append, List.length_cons, List.length_nil]
          refine ⟨⟨by omega, by omega, by omega⟩, by omega, ⟨by omega, by omega, by omega⟩, by omega, _, rfl, by rw [e6]⟩
        · simp only [hd, if_false, repS_0, SX.S_cat] at e6
          simp only [hd, if_false, t0, repS_0, SX.S_cat, List.length_append, List.length_cons, List.length_nil]
          refine ⟨⟨by omega, by omega, by omega⟩, by omega, ⟨by omega, by omega, by omega⟩, by omega, _, rfl, by rw [e6]⟩
      rintro _ μ5 ⟨rfl, p5⟩
      refine ws_then (fun ρ μ' => ρ = [some (scr ns), some (.int k), some (.ref l), some (.int (0 + i)), some (fr q1), some (.str (T (txt q1))), y6, y7, y8, y9, y10] ∧ Pot μ' l (100 * i + 10)) ?_ ?_
      · try walk_at "mi"
        refine Wp.go (run_shown h1 (by omega) (by omega)) ?_
        rintro _ _ ⟨rfl, rfl⟩
        try walk_at "mi"
        show Wp (m_shown [fr q1]) _ _ _
        refine Wp.go (run_shown h1 (by omega) (by omega)) ?_
        rintro _ _ ⟨rfl, rfl⟩
        try walk_at "mi"
        exact ⟨_, rfl, rfl, p5⟩
      rintro _ μ6 ⟨rfl, p6⟩
      refine ws_then (fun ρ μ' => ∃ y, ρ = [some (scr ns), some (.int k), some (.ref l), some (.int (0 + i)), some (fr q1), some (.str (T (txt q1))), some (.str y), y7, y8, y9, y10] ∧ y.length ≤ 2600 ∧ Pot μ' l (100 * i + 13)) ?_ ?_
      · try walk_at "mi"
        refine Wp.go (run_bent p6 (by omega) (by rw [lT]; omega)) ?_
        rintro _ μ7 ⟨⟨y, rfl, hy⟩, p7, _⟩
        have hl := lT (txt q1)
        exact ⟨_, rfl, y, rfl, by omega, p7⟩
      rintro _ μ7 ⟨y, rfl, hy, p7⟩
      refine ws_then (fun ρ μ' => ∃ d, ρ = [some (scr ns), some (.int k), some (.ref l), some (.int (0 + i)), some (fr q1), some (.str (T (txt q1))), some (.str y), some d, y8, y9, y10] ∧ Odd l μ' d ∧ Pot μ' l (100 * i + 14)) ?_ ?_
      · have ix0 := @ix_fr0
        try walk_at "mi*"
        have hl7 := p7.lt
        have G7 : ∀ ν : List O, Gr l μ7 (μ7 ++ ν) := fun ν => (Gr0.app _ _).gr
        refine Wp.go (run_draw p7.app (by omega) (by decide) (by decide)) ?_
        rintro _ μ8 ⟨⟨d8, rfl, a8, b8⟩, p8, g8⟩
        have h2 := g8.at_ (μ7.length + 2) _ (by omega) at_off
        have h1' := g8.at_ (μ7.length + 1) _ (by omega) at_off
        have h0' := g8.at_ μ7.length _ (by omega) at_off0
        rw [ix_ref, wp_bnd, wp_lst h2]
        refine wp_at (by omega) (by simp; omega) fun d hd => ?_
        clear h2 g8
        refine ⟨_, rfl, d, rfl, ?_, p8⟩
        simp only [List.mem_cons, List.not_mem_nil, or_false] at hd
        rcases hd with rfl | rfl | rfl | rfl | rfl | rfl | rfl | rfl
        · exact ⟨(nomatch ·), _, rfl, rfl⟩
        · exact ⟨(nomatch ·), _, rfl, rfl⟩
        · exact ⟨(nomatch ·), _, rfl, rfl⟩
        · exact ⟨(nomatch ·), _, rfl, rfl⟩
        · exact ⟨fun z => by cases z; omega, "list", by dsimp only [tyN]; rw [h0'], rfl⟩
        · exact ⟨(nomatch ·), _, rfl, rfl⟩
        · exact ⟨fun z => by cases z; omega, "dict", by dsimp only [tyN]; rw [h1'], rfl⟩
        · exact ⟨(nomatch ·), _, rfl, rfl⟩
      rintro _ μ8 ⟨d, rfl, hd, p8⟩
      refine ws_then (fun ρ μ' => ∃ x8 x10, ρ = [some (scr ns), some (.int k), some (.ref l), some (.int (0 + i)), some (fr q1), some (.str (T (txt q1))), some (.str y), some d, x8, y9, x10] ∧ Pot μ' l (100 * i + 17)) ?_ ?_
      · try walk_at "mi"
        rw [o_slS (by omega), wp_ret]
        have c60 : (cutS y none (some 60)).length ≤ 60 := by
          have e : y = T y.cps.toList := (TL.mk_tl y).symm
          rw [e]
          show (cutS (T y.cps.toList) none (some ((60 : Nat) : Int))).length ≤ 60
          rw [cutS_to, lT]
          simp
          omega
        refine Wp.go (run_bent p8 (by omega) (by omega)) ?_
        rintro _ μ9 ⟨⟨z, rfl, hz⟩, p9, g9⟩
        refine ⟨by omega, ?_⟩
        have rr : ∀ x ∈ [D.str (T (txt q1)), D.str y, D.str z, d], Rdg l μ9 x := by
          intro x hx
          simp only [List.mem_cons, List.not_mem_nil, or_false] at hx
          rcases hx with rfl | rfl | rfl | rfl
          · exact rdg_str (by rw [lT]; omega)
          · exact rdg_str (by omega)
          · exact rdg_str (by omega)
          · exact rdg_odd (hd.gr g9)
        refine ws_for (ds := [D.str (T (txt q1)), D.str y, D.str z, d]) (fun _ ρ μ' => ∃ x8 x10, ρ = [some (scr ns), some (.int k), some (.ref l), some (.int (0 + i)), some (fr q1), some (.str (T (txt q1))), some (.str y), some d, x8, y9, x10] ∧ Gr0 μ9 μ') ?_ ?_ ?_
        · exact ⟨_, _, rfl, Gr0.refl _⟩
        · rintro j x ρ μa hx ⟨x8, x10, rfl, ga⟩
          refine ⟨_, _, rfl, ?_⟩
          obtain ⟨o, ho, hr⟩ := rr x (List.mem_of_getElem? hx)
          obtain ⟨s, hs⟩ := wp_reprQ ho
          try walk_at "mi"
          refine Wp.go (hr μa ga.gr fun _ _ => False).1 ?_
          rintro _ μb ⟨rfl, gb⟩
          have gab := ga.trans gb
          try walk_at "mi"
          refine Wp.go (hr μb gab.gr fun _ _ => False).2 ?_
          rintro _ μc ⟨rfl, gc⟩
          have gabc := gab.trans gc
          rw [hs, hs, o_neS, wp_ret, o_asB, wp_ret, decide_eq_true rfl]
          refine ⟨fun z => (nomatch z), fun _ => ?_⟩
          show Wp (m_fraction_of [x]) _ _ _
          refine Wp.go (hr μc gabc.gr fun _ _ => False).2 ?_
          rintro _ μd ⟨rfl, gd⟩
          rw [hs, hs, o_neS, wp_ret, o_asB, wp_ret, decide_eq_true rfl]
          refine ⟨fun z => (nomatch z), fun _ => ?_⟩
          exact ⟨_, _, rfl, gabc.trans gd⟩
        · rintro ρ μa ⟨x8, x10, rfl, ga⟩
          exact ⟨_, rfl, _, _, rfl, (p9.gr ga).up (by omega)⟩
      rintro _ μ9 ⟨x8, x10, rfl, p9⟩
      refine ws_then (fun ρ μ' => ρ = [some (scr ns), some (.int k), some (.ref l), some (.int (0 + i)), some (fr q1), some (.str (T (txt q1))), some (.str y), some d, x8, some (.bl (few q1)), x10] ∧ μ' = μ9) ?_ ?_
      · have e6 : (10 : Int) ^ Int.toNat 6 = 1000000 := rfl
        have k6 : powOk 10 6 := by decide
        have ix0 := @ix_fr0
        have ix1 := @ix_fr1
        have d1 : decide (((q1.num.natAbs : Nat) : Int) < 1000000) = decide (q1.num.natAbs < 1000000) := by rw [decide_eq_decide]; omega
        have d2 : decide (((q1.den : Nat) : Int) < 1000000) = decide (q1.den < 1000000) := by rw [decide_eq_decide]; omega
        have hf : few q1 = (decide (q1.num.natAbs < 1000000) && decide (q1.den < 1000000)) := rfl
        try walk_at "mi"
        rw [ix0, wp_ret, o_abs', wp_ret]
        refine ⟨k6, ?_⟩
        rw [e6, o_lt, wp_ret, o_asB, wp_ret, d1]
        refine ⟨fun h => ?_, fun h => ?_⟩
        · rw [ix1, wp_ret]
          refine ⟨k6, ?_⟩
          rw [o_lt, wp_ret, d2, hf, h, Bool.true_and]
          exact ⟨_, rfl, rfl, rfl⟩
        · have h' : decide (q1.num.natAbs < 1000000) = false := by simpa using h
          rw [hf, h', Bool.false_and]
          exact ⟨_, rfl, rfl, rfl⟩
      rintro _ _ ⟨rfl, rfl⟩
      rename_i μ9
      have hfo : fracO (txt q1) = if few q1 = true then some q1 else none := fracO_txt q1
      try walk_at "mi"
      refine Wp.go (run_fraction_of (by omega)) ?_
      rintro _ μa ⟨rfl, ga⟩
      try walk_at "mi"
      rw [hfo]
      cases hb : few q1 with
      | true =>
        rw [if_pos rfl, eq_ofQ, wp_ret, decide_eq_true rfl, o_neB, wp_ret, o_asB, wp_ret, decide_eq_true rfl]
        refine ⟨fun z => (nomatch z), fun _ => ?_⟩
        refine Wp.go (run_lread (by omega)) ?_
        rintro _ μb ⟨rfl, gb⟩
        rw [hfo, hb, if_pos rfl]
        refine ⟨fun _ => ?_, fun z => (z rfl).elim⟩
        rw [neF, wp_ret, o_asB, wp_ret, decide_eq_true rfl]
        refine ⟨fun z => (nomatch z), fun _ => ?_⟩
        exact ⟨_, _, _, _, _, _, _, _, rfl, (p9.gr (ga.trans gb)).up (by omega)⟩
      | false =>
        rw [if_neg Bool.false_ne_true, eq_ofQ, wp_ret, decide_eq_false (fun z => nomatch z), o_neB, wp_ret, o_asB, wp_ret, decide_eq_true rfl]
        refine ⟨fun z => (nomatch z), fun _ => ?_⟩
        refine Wp.go (run_lread (by omega)) ?_
        rintro _ μb ⟨rfl, gb⟩
        rw [hfo, hb, if_neg Bool.false_ne_true]
        refine ⟨fun z => (nomatch z), fun _ => ?_⟩
        rw [neN, wp_ret, o_asB, wp_ret]
        refine ⟨fun z => (nomatch z), fun _ => ?_⟩
        exact ⟨_, _, _, _, _, _, _, _, rfl, (p9.gr (ga.trans gb)).up (by omega)⟩
    · rintro ρ μ2 ⟨y3, y4, y5, y6, y7, y8, y9, y10, rfl, _⟩
      try walk_at "mi"
      exact ⟨_, _, _, _, _, _, _, _, _, _, rfl⟩
  · rintro ρ μ ⟨x1, x2, x3, x4, x5, x6, x7, x8, x9, x10, rfl⟩
    walk_at "mi"
theorem law_true : ∀ ns : List Int, ns.length ≤ 63 → ∃ μ', m_law [scr ns] [] = some (.ok (.bl true), μ') := by
  intro ns h
  obtain ⟨r, μ', e, q⟩ := run_law h
  cases r with
  | error x => exact q.elim
  | ok d => exact ⟨μ', by rw [e, show d = .bl true from q]⟩
end Law
namespace Law
open PySem L2 PyProof.Rows Mi Std
theorem all_mk {l : PySem.W.OpenLaw} {w : World} {K : PySem.W.Frag} {h : Heap} {mg : Str → Option Value} {fa : Addr} (X : K.In h) (G : h.Ns mainGlobals mg) (hfa : mg "law" = some (.ref fa))
    {f0 : Addr} {od0 an0 : Option Addr} {sl0 : Array (Option Value)} {oc0 kV0 dc0 pm0 cd0 ct0 : Value}
    (a0 : PySem.W.nsIn K mainGlobals "shared_by" = some (some (.ref f0))) (l0 : K.lookup f0 = some ⟨oc0, od0, .func (PySem.W.fnOf "shared_by" "shared_by" (defArgs s_shared_by) (defBody s_shared_by) (defScope s_shared_by) .none kV0 dc0 pm0 an0 cd0 ct0), sl0⟩)
    (c0 : PySem.W.codeIn K cd0 "shared_by" = true) (k0 : PySem.W.keepIn K (.ref f0) = true)
    {f1 : Addr} {od1 an1 : Option Addr} {sl1 : Array (Option Value)} {oc1 kV1 dc1 pm1 cd1 ct1 : Value}
    (a1 : PySem.W.nsIn K mainGlobals "fraction" = some (some (.ref f1))) (l1 : K.lookup f1 = some ⟨oc1, od1, .func (PySem.W.fnOf "fraction" "fraction" (defArgs s_fraction) (defBody s_fraction) (defScope s_fraction) .none kV1 dc1 pm1 an1 cd1 ct1), sl1⟩)
    (c1 : PySem.W.codeIn K cd1 "fraction" = true) (k1 : PySem.W.keepIn K (.ref f1) = true)
    {f2 : Addr} {od2 an2 : Option Addr} {sl2 : Array (Option Value)} {oc2 kV2 dc2 pm2 cd2 ct2 : Value}
    (a2 : PySem.W.nsIn K mainGlobals "shown" = some (some (.ref f2))) (l2 : K.lookup f2 = some ⟨oc2, od2, .func (PySem.W.fnOf "shown" "shown" (defArgs s_shown) (defBody s_shown) (defScope s_shown) .none kV2 dc2 pm2 an2 cd2 ct2), sl2⟩)
    (c2 : PySem.W.codeIn K cd2 "shown" = true) (k2 : PySem.W.keepIn K (.ref f2) = true)
    {f3 : Addr} {od3 an3 : Option Addr} {sl3 : Array (Option Value)} {oc3 kV3 dc3 pm3 cd3 ct3 : Value}
    (a3 : PySem.W.nsIn K mainGlobals "number_of" = some (some (.ref f3))) (l3 : K.lookup f3 = some ⟨oc3, od3, .func (PySem.W.fnOf "number_of" "number_of" (defArgs s_number_of) (defBody s_number_of) (defScope s_number_of) .none kV3 dc3 pm3 an3 cd3 ct3), sl3⟩)
    (c3 : PySem.W.codeIn K cd3 "number_of" = true) (k3 : PySem.W.keepIn K (.ref f3) = true)
    {f4 : Addr} {od4 an4 : Option Addr} {sl4 : Array (Option Value)} {oc4 kV4 dc4 pm4 cd4 ct4 : Value}
    (a4 : PySem.W.nsIn K mainGlobals "fraction_of" = some (some (.ref f4))) (l4 : K.lookup f4 = some ⟨oc4, od4, .func (PySem.W.fnOf "fraction_of" "fraction_of" (defArgs s_fraction_of) (defBody s_fraction_of) (defScope s_fraction_of) .none kV4 dc4 pm4 an4 cd4 ct4), sl4⟩)
    (c4 : PySem.W.codeIn K cd4 "fraction_of" = true) (k4 : PySem.W.keepIn K (.ref f4) = true)
    {f5 : Addr} {od5 an5 : Option Addr} {sl5 : Array (Option Value)} {oc5 kV5 dc5 pm5 cd5 ct5 : Value}
    (a5 : PySem.W.nsIn K mainGlobals "_law_begin" = some (some (.ref f5))) (l5 : K.lookup f5 = some ⟨oc5, od5, .func (PySem.W.fnOf "_law_begin" "_law_begin" (defArgs s_l_begin) (defBody s_l_begin) (defScope s_l_begin) .none kV5 dc5 pm5 an5 cd5 ct5), sl5⟩)
    (c5 : PySem.W.codeIn K cd5 "_law_begin" = true) (k5 : PySem.W.keepIn K (.ref f5) = true)
    {f6 : Addr} {od6 an6 : Option Addr} {sl6 : Array (Option Value)} {oc6 kV6 dc6 pm6 cd6 ct6 : Value}
    (a6 : PySem.W.nsIn K mainGlobals "_law_draw" = some (some (.ref f6))) (l6 : K.lookup f6 = some ⟨oc6, od6, .func (PySem.W.fnOf "_law_draw" "_law_draw" (defArgs s_l_draw) (defBody s_l_draw) (defScope s_l_draw) .none kV6 dc6 pm6 an6 cd6 ct6), sl6⟩)
    (c6 : PySem.W.codeIn K cd6 "_law_draw" = true) (k6 : PySem.W.keepIn K (.ref f6) = true)
    {f7 : Addr} {od7 an7 : Option Addr} {sl7 : Array (Option Value)} {oc7 kV7 dc7 pm7 cd7 ct7 : Value}
    (a7 : PySem.W.nsIn K mainGlobals "_law_shared" = some (some (.ref f7))) (l7 : K.lookup f7 = some ⟨oc7, od7, .func (PySem.W.fnOf "_law_shared" "_law_shared" (defArgs s_l_shared) (defBody s_l_shared) (defScope s_l_shared) .none kV7 dc7 pm7 an7 cd7 ct7), sl7⟩)
    (c7 : PySem.W.codeIn K cd7 "_law_shared" = true) (k7 : PySem.W.keepIn K (.ref f7) = true)
    {f8 : Addr} {od8 an8 : Option Addr} {sl8 : Array (Option Value)} {oc8 kV8 dc8 pm8 cd8 ct8 : Value}
    (a8 : PySem.W.nsIn K mainGlobals "_law_made" = some (some (.ref f8))) (l8 : K.lookup f8 = some ⟨oc8, od8, .func (PySem.W.fnOf "_law_made" "_law_made" (defArgs s_l_made) (defBody s_l_made) (defScope s_l_made) .none kV8 dc8 pm8 an8 cd8 ct8), sl8⟩)
    (c8 : PySem.W.codeIn K cd8 "_law_made" = true) (k8 : PySem.W.keepIn K (.ref f8) = true)
    {f9 : Addr} {od9 an9 : Option Addr} {sl9 : Array (Option Value)} {oc9 kV9 dc9 pm9 cd9 ct9 : Value}
    (a9 : PySem.W.nsIn K mainGlobals "_law_whole" = some (some (.ref f9))) (l9 : K.lookup f9 = some ⟨oc9, od9, .func (PySem.W.fnOf "_law_whole" "_law_whole" (defArgs s_l_whole) (defBody s_l_whole) (defScope s_l_whole) .none kV9 dc9 pm9 an9 cd9 ct9), sl9⟩)
    (c9 : PySem.W.codeIn K cd9 "_law_whole" = true) (k9 : PySem.W.keepIn K (.ref f9) = true)
    {f10 : Addr} {od10 an10 : Option Addr} {sl10 : Array (Option Value)} {oc10 kV10 dc10 pm10 cd10 ct10 : Value}
    (a10 : PySem.W.nsIn K mainGlobals "_law_some" = some (some (.ref f10))) (l10 : K.lookup f10 = some ⟨oc10, od10, .func (PySem.W.fnOf "_law_some" "_law_some" (defArgs s_l_some) (defBody s_l_some) (defScope s_l_some) .none kV10 dc10 pm10 an10 cd10 ct10), sl10⟩)
    (c10 : PySem.W.codeIn K cd10 "_law_some" = true) (k10 : PySem.W.keepIn K (.ref f10) = true)
    {f11 : Addr} {od11 an11 : Option Addr} {sl11 : Array (Option Value)} {oc11 kV11 dc11 pm11 cd11 ct11 : Value}
    (a11 : PySem.W.nsIn K mainGlobals "_law_number" = some (some (.ref f11))) (l11 : K.lookup f11 = some ⟨oc11, od11, .func (PySem.W.fnOf "_law_number" "_law_number" (defArgs s_l_number) (defBody s_l_number) (defScope s_l_number) .none kV11 dc11 pm11 an11 cd11 ct11), sl11⟩)
    (c11 : PySem.W.codeIn K cd11 "_law_number" = true) (k11 : PySem.W.keepIn K (.ref f11) = true)
    {f12 : Addr} {od12 an12 : Option Addr} {sl12 : Array (Option Value)} {oc12 kV12 dc12 pm12 cd12 ct12 : Value}
    (a12 : PySem.W.nsIn K mainGlobals "_law_read" = some (some (.ref f12))) (l12 : K.lookup f12 = some ⟨oc12, od12, .func (PySem.W.fnOf "_law_read" "_law_read" (defArgs s_l_read) (defBody s_l_read) (defScope s_l_read) .none kV12 dc12 pm12 an12 cd12 ct12), sl12⟩)
    (c12 : PySem.W.codeIn K cd12 "_law_read" = true) (k12 : PySem.W.keepIn K (.ref f12) = true)
    {f13 : Addr} {od13 an13 : Option Addr} {sl13 : Array (Option Value)} {oc13 kV13 dc13 pm13 cd13 ct13 : Value}
    (a13 : PySem.W.nsIn K mainGlobals "_law_bent" = some (some (.ref f13))) (l13 : K.lookup f13 = some ⟨oc13, od13, .func (PySem.W.fnOf "_law_bent" "_law_bent" (defArgs s_l_bent) (defBody s_l_bent) (defScope s_l_bent) .none kV13 dc13 pm13 an13 cd13 ct13), sl13⟩)
    (c13 : PySem.W.codeIn K cd13 "_law_bent" = true) (k13 : PySem.W.keepIn K (.ref f13) = true)
    {f14 : Addr} {od14 an14 : Option Addr} {sl14 : Array (Option Value)} {oc14 kV14 dc14 pm14 cd14 ct14 : Value}
    (a14 : PySem.W.nsIn K mainGlobals "law" = some (some (.ref f14))) (l14 : K.lookup f14 = some ⟨oc14, od14, .func (PySem.W.fnOf "law" "law" (defArgs s_law) (defBody s_law) (defScope s_law) .none kV14 dc14 pm14 an14 cd14 ct14), sl14⟩)
    (c14 : PySem.W.codeIn K cd14 "law" = true) (k14 : PySem.W.keepIn K (.ref f14) = true)
    {tFIGURES_0 : Tok}
    (nFIGURES : PySem.W.nsIn K mainGlobals "FIGURES" = some (some (.str "0123456789" tFIGURES_0)))
    {tMOST_FIGURES_0 : Tok}
    (nMOST_FIGURES : PySem.W.nsIn K mainGlobals "MOST_FIGURES" = some (some (.int 6 tMOST_FIGURES_0)))
    (z_abs : PySem.W.nsIn K mainGlobals "abs" = some none)
    (z_all : PySem.W.nsIn K mainGlobals "all" = some none)
    (z_int : PySem.W.nsIn K mainGlobals "int" = some none)
    (z_isinstance : PySem.W.nsIn K mainGlobals "isinstance" = some none)
    (z_len : PySem.W.nsIn K mainGlobals "len" = some none)
    (z_range : PySem.W.nsIn K mainGlobals "range" = some none)
    (z_repr : PySem.W.nsIn K mainGlobals "repr" = some none)
    (z_str : PySem.W.nsIn K mainGlobals "str" = some none)
    : ∃ fd : FuncData, (∀ (s : Shared) (v : Value), BindsTo s fd ⟨[v], []⟩ [("_law_script", v)]) ∧ ∀ base : Heap, K.In base → base.Ns mainGlobals mg → (∃ o, base.get? sysModules = some o) → FnG l.prog w K mg base 4 fa fd ["_law_script"] (spOf K mg m_law) := by
  have e := hfa.symm.trans (PySem.W.mg_of X G a14)
  cases e
  have F0 := fun_mk (st := s_shared_by) l0 c0 k0
  have F1 := fun_mk (st := s_fraction) l1 c1 k1
  have F2 := fun_mk (st := s_shown) l2 c2 k2
  have F3 := fun_mk (st := s_number_of) l3 c3 k3
  have F4 := fun_mk (st := s_fraction_of) l4 c4 k4
  have F5 := fun_mk (st := s_l_begin) l5 c5 k5
  have F6 := fun_mk (st := s_l_draw) l6 c6 k6
  have F7 := fun_mk (st := s_l_shared) l7 c7 k7
  have F8 := fun_mk (st := s_l_made) l8 c8 k8
  have F9 := fun_mk (st := s_l_whole) l9 c9 k9
  have F10 := fun_mk (st := s_l_some) l10 c10 k10
  have F11 := fun_mk (st := s_l_number) l11 c11 k11
  have F12 := fun_mk (st := s_l_read) l12 c12 k12
  have F13 := fun_mk (st := s_l_bent) l13 c13 k13
  have F14 := fun_mk (st := s_law) l14 c14 k14
  have T : Tx K mg := ⟨PySem.W.mg_none_of X G z_abs, PySem.W.mg_none_of X G z_all, PySem.W.mg_none_of X G z_int, PySem.W.mg_none_of X G z_isinstance, PySem.W.mg_none_of X G z_len, PySem.W.mg_none_of X G z_range, PySem.W.mg_none_of X G z_repr, PySem.W.mg_none_of X G z_str, ⟨_, PySem.W.mg_of X G nFIGURES, cr_str⟩, ⟨_, PySem.W.mg_of X G nMOST_FIGURES, cr_int⟩, ⟨_, _, F0, PySem.W.mg_of X G a0⟩, ⟨_, _, F1, PySem.W.mg_of X G a1⟩, ⟨_, _, F2, PySem.W.mg_of X G a2⟩, ⟨_, _, F3, PySem.W.mg_of X G a3⟩, ⟨_, _, F4, PySem.W.mg_of X G a4⟩, ⟨_, _, F5, PySem.W.mg_of X G a5⟩, ⟨_, _, F6, PySem.W.mg_of X G a6⟩, ⟨_, _, F7, PySem.W.mg_of X G a7⟩, ⟨_, _, F8, PySem.W.mg_of X G a8⟩, ⟨_, _, F9, PySem.W.mg_of X G a9⟩, ⟨_, _, F10, PySem.W.mg_of X G a10⟩, ⟨_, _, F11, PySem.W.mg_of X G a11⟩, ⟨_, _, F12, PySem.W.mg_of X G a12⟩, ⟨_, _, F13, PySem.W.mg_of X G a13⟩, ⟨_, _, F14, PySem.W.mg_of X G a14⟩⟩
  exact ⟨_, fun s v => .of_eq rfl, fun base _ _ hs => fnG (Kn := Kn) F14 sc_law ⟨T, hs⟩ hs ok_law ck_law⟩
end Law
open PySem PySem.W PyProof.Rows in
set_option maxRecDepth 100000 in
set_option maxHeartbeats 0 in
theorem PySem.Challenge.cw_wirereckon_k03_fractions_shown_and_read_holds : PySem.Challenge.rw_wirereckon_k03_fractions_shown_and_read.Holds := by
  w_on; o_law; k_head; (case hw => w_witness2)
  k_fill
  refine Mi.walkG (l := PySem.Challenge.rw_wirereckon_k03_fractions_shown_and_read) (m := Law.m_law) (k := 4) (x := "_law_script") rfl (by decide) rfl ⟨rfl, by decide, by decide⟩ (by decide +kernel) (fun w h Y => PySem.W.kIn_of Y) ?F Law.law_true
  case F =>
    intro w mg fa h KX G hmg
    refine' Law.all_mk KX G hmg ?a0 ?l0 ?c0 ?k0 ?a1 ?l1 ?c1 ?k1 ?a2 ?l2 ?c2 ?k2 ?a3 ?l3 ?c3 ?k3 ?a4 ?l4 ?c4 ?k4 ?a5 ?l5 ?c5 ?k5 ?a6 ?l6 ?c6 ?k6 ?a7 ?l7 ?c7 ?k7 ?a8 ?l8 ?c8 ?k8 ?a9 ?l9 ?c9 ?k9 ?a10 ?l10 ?c10 ?k10 ?a11 ?l11 ?c11 ?k11 ?a12 ?l12 ?c12 ?k12 ?a13 ?l13 ?c13 ?k13 ?a14 ?l14 ?c14 ?k14 ?nFIGURES ?nMOST_FIGURES ?z_abs ?z_all ?z_int ?z_isinstance ?z_len ?z_range ?z_repr ?z_str
    (case a0 => k_is)
    (case l0 => k_is)
    (case c0 => k_is)
    (case k0 => k_is)
    (case a1 => k_is)
    (case l1 => k_is)
    (case c1 => k_is)
    (case k1 => k_is)
    (case a2 => k_is)
    (case l2 => k_is)
    (case c2 => k_is)
    (case k2 => k_is)
    (case a3 => k_is)
    (case l3 => k_is)
    (case c3 => k_is)
    (case k3 => k_is)
    (case a4 => k_is)
    (case l4 => k_is)
    (case c4 => k_is)
    (case k4 => k_is)
    (case a5 => k_is)
    (case l5 => k_is)
    (case c5 => k_is)
    (case k5 => k_is)
    (case a6 => k_is)
    (case l6 => k_is)
    (case c6 => k_is)
    (case k6 => k_is)
    (case a7 => k_is)
    (case l7 => k_is)
    (case c7 => k_is)
    (case k7 => k_is)
    (case a8 => k_is)
    (case l8 => k_is)
    (case c8 => k_is)
    (case k8 => k_is)
    (case a9 => k_is)
    (case l9 => k_is)
    (case c9 => k_is)
    (case k9 => k_is)
    (case a10 => k_is)
    (case l10 => k_is)
    (case c10 => k_is)
    (case k10 => k_is)
    (case a11 => k_is)
    (case l11 => k_is)
    (case c11 => k_is)
    (case k11 => k_is)
    (case a12 => k_is)
    (case l12 => k_is)
    (case c12 => k_is)
    (case k12 => k_is)
    (case a13 => k_is)
    (case l13 => k_is)
    (case c13 => k_is)
    (case k13 => k_is)
    (case a14 => k_is)
    (case l14 => k_is)
    (case c14 => k_is)
    (case k14 => k_is)
    (case nFIGURES => k_is)
    (case nMOST_FIGURES => k_is)
    (case z_abs => k_is)
    (case z_all => k_is)
    (case z_int => k_is)
    (case z_isinstance => k_is)
    (case z_len => k_is)
    (case z_range => k_is)
    (case z_repr => k_is)
    (case z_str => k_is)
