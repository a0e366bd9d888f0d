import PyProof.Rows.All
import Wide.All
import OpenK.AllK
import Wide.FinOn
import HandS.ForMost
import HandS.ForExc
import HandS.IsInst
import HandS.Lambda
import HandS.Wide
import HandS.TupAny
import HandS.RaiseMore
import HandS.Style
import HandS.EndOwn
import HandS.Comp
import HandS.Zip
import KE.GoesMore
import HandS.Deep
import HandS.SetFor
import HandS.Steps
import HandS.FStr
import HandS.StrMore
import HandS.Text
import HandS.SetKeys
import HandS.More
import KE.GoesZip
import HandS.ExcInit
import HandS.Codes
import PySem.Challenge.RW_wirereckon_k07_whole_polynomials_by_valu
set_option Elab.async false
set_option linter.all false
set_option maxRecDepth 100000
set_option maxHeartbeats 4000000
/-! Mi, part A: data, the store, what represents what. -/
namespace Mi
open PySem L2 PyProof.Rows
/-- the tables of code objects that lambdas are written into, each with the name that it tells -/
class Tb where
  T : List (Addr × Str)
instance (priority := low) tb0 : Tb := ⟨[]⟩

/-- plain data: what a slot of a def may hold; ref l: the l-th object of the store -/
inductive D where
  | non | bl (b : Bool) | int (i : Int) | str (x : Str) | tup (ds : List D) | fro (ds : List D) | ref (l : Nat)
/-- an object that changes -/
inductive O where
  | lst (ds : List D) | dct (kvs : List (Key × D))
/-- what is raised: the class by its name, its fields -/
structure Ex where
  cls : Str
  fs : Option (List (Str × D))
/-- a run: it stops (none: not served), or ends with a value or an exception -/
def M (α : Type) : Type := List O → Option (Except Ex α × List O)
def M.ret {α : Type} (a : α) : M α := fun μ => some (.ok a, μ)
def M.bnd {α β : Type} (m : M α) (f : α → M β) : M β := fun μ => match m μ with
  | none => none
  | some (.error x, μ1) => some (.error x, μ1)
  | some (.ok a, μ1) => f a μ1
def M.stop {α : Type} : M α := fun _ => none
instance : Monad M where
  pure := M.ret
  bind := M.bnd
theorem M.bind_eq {α β : Type} (m : M α) (f : α → M β) : (m >>= f) = M.bnd m f := rfl
theorem M.pure_eq {α : Type} (a : α) : (pure a : M α) = M.ret a := rfl
abbrev Env := List (Option D)

/-! ### what stands where -/
def Imm : HO → Prop
  | .tup _ => True
  | .frz _ _ => True
  | _ => False
def IsT (o : HO) : Prop := ∃ ps, o = .tbl ps
/-- the store's addresses stay, what never changes stays, what is none of the store's stays, but for tables; new addresses were free -/
structure Ext (α : List Addr) (H : Hp) (α' : List Addr) (H' : Hp) : Prop where
  pre : ∀ (l : Nat) p, α[l]? = some p → α'[l]? = some p
  keep : ∀ p o, H p = some o → (Imm o ∨ p ∉ α) → H' p = some o ∨ IsT o
  new : ∀ p, p ∈ α' → p ∈ α ∨ ∀ o, H p = some o → IsT o
theorem Ext.refl (α : List Addr) (H : Hp) : Ext α H α H := ⟨fun _ _ h => h, fun _ _ h _ => .inl h, fun _ h => .inl h⟩
theorem Ext.trans {α α1 α2 : List Addr} {H H1 H2 : Hp} (a : Ext α H α1 H1) (b : Ext α1 H1 α2 H2) : Ext α H α2 H2 where
  pre := fun l p h => b.pre l p (a.pre l p h)
  keep := fun p o h c => by
    rcases a.keep p o h c with z | z
    · by_cases ht : IsT o
      · exact .inr ht
      · exact b.keep p o z (c.imp id fun n hm => (a.new p hm).elim n fun q => ht (q o h))
    · exact .inr z
  new := fun p h => by
    rcases b.new p h with z | z
    · exact a.new p z
    · by_cases hm : p ∈ α
      · exact .inl hm
      · exact .inr fun o q => (a.keep p o q (.inr hm)).elim (fun w => z o w) id
theorem Ext.imm {α α' : List Addr} {H H' : Hp} (k : Ext α H α' H') {p : Addr} {o : HO} (h : H p = some o) (i : Imm o) : H' p = some o := (k.keep p o h (.inl i)).elim id fun ⟨ps, e⟩ => by
  subst e
  exact i.elim
theorem Ext.lay {α : List Addr} {H : Hp} {p : Addr} {o : HO} (h : H p = none) : Ext α H α (upd H p o) :=
  ⟨fun _ _ h => h, fun q u e _ => by rw [upd_ne (ne_of_none e h)]; exact .inl e, fun _ h => .inl h⟩
theorem Ext.push {α : List Addr} {H : Hp} {p : Addr} {o : HO} (h : H p = none) : Ext α H (α ++ [p]) (upd H p o) :=
  ⟨fun l q z => by rw [List.getElem?_append_left (List.getElem?_eq_some_iff.mp z).1]; exact z, fun q u e _ => by rw [upd_ne (ne_of_none e h)]; exact .inl e,
    fun q z => (List.mem_append.mp z).imp id fun w => by
      have e : q = p := by simpa using w
      rw [e]; exact fun o q => by rw [h] at q; cases q⟩
theorem Ext.put {α : List Addr} {H : Hp} {p : Addr} {o u : HO} {l : Nat} (hp : α[l]? = some p) (h : H p = some u) (ni : ¬ Imm u) : Ext α H α (upd H p o) :=
  ⟨fun _ _ h => h, fun q v e c => by
    have ne : q ≠ p := fun z => by
      subst z
      rcases c with c | c
      · rw [h] at e
        cases e
        exact ni c
      · exact c (List.mem_of_getElem? hp)
    rw [upd_ne ne]
    exact .inl e, fun _ h => .inl h⟩
theorem Ext.rdT {α α' : List Addr} {H H' : Hp} {p : Addr} {xs : List V} (k : Ext α H α' H') (h : Rd H p (.tup xs)) : Rd H' p (.tup xs) := by
  rcases h with h | ⟨o, h⟩
  · exact .inl (k.imm h trivial)
  · exact .inr ⟨o, k.imm h trivial⟩
theorem Ext.sqT {K : PySem.W.Frag} {α α' : List Addr} {H H' : Hp} {p : Addr} {xs : List V} (k : Ext α H α' H') (h : SqT K H p xs) : SqT K H' p xs := by
  rcases h with h | h
  · exact .inl (k.rdT h)
  · exact .inr h
/-- a list that nobody changes: the script, a module's own -/
def FqL (K : PySem.W.Frag) (H : Hp) (p : Addr) (xs : List V) : Prop := (∃ o, H p = some (.frz o (.lst xs))) ∨ SqL K (fun _ => none) p xs
theorem FqL.sq {K : PySem.W.Frag} {H : Hp} {p : Addr} {xs : List V} (h : FqL K H p xs) : SqL K H p xs := by
  rcases h with h | (h | ⟨o, h⟩) | h
  · exact .inl (.inr h)
  · cases h
  · cases h
  · exact .inr h
theorem Ext.fqL {K : PySem.W.Frag} {α α' : List Addr} {H H' : Hp} {p : Addr} {xs : List V} (k : Ext α H α' H') (h : FqL K H p xs) : FqL K H' p xs := by
  rcases h with ⟨o, h⟩ | h
  · exact .inl ⟨o, k.imm h trivial⟩
  · exact .inr h
theorem fqL_only {K : PySem.W.Frag} {H : Hp} {p : Addr} {xs : List V} (hO : Only H) (h : SqL K H p xs) : FqL K H p xs := by
  rcases h with (h | h) | h
  · rcases hO p with z | ⟨o, ys, z⟩
    · rw [h] at z; cases z
    · rw [h] at z; cases z
  · exact .inl h
  · exact .inr (.inr h)

mutual
/-- the value v stands for d -/
def Rep (K : PySem.W.Frag) (α : List Addr) (H : Hp) : D → V → Prop
  | .non, v => v = .non
  | .bl b, v => v = .bl b
  | .int i, v => v = .int i
  | .str x, v => v = .str x
  | .tup ds, v => ∃ p vs, v = .ref p ∧ SqT K H p vs ∧ Reps K α H ds vs
  | .fro ds, v => ∃ p vs, v = .ref p ∧ FqL K H p vs ∧ Reps K α H ds vs
  | .ref l, v => ∃ p, v = .ref p ∧ α[l]? = some p
def Reps (K : PySem.W.Frag) (α : List Addr) (H : Hp) : List D → List V → Prop
  | [], vs => vs = []
  | d :: ds, vs => ∃ v r, vs = v :: r ∧ Rep K α H d v ∧ Reps K α H ds r
end
mutual
theorem Rep.up {K : PySem.W.Frag} {α α' : List Addr} {H H' : Hp} (k : Ext α H α' H') : ∀ {d : D} {v : V}, Rep K α H d v → Rep K α' H' d v
  | .non, _, h => h
  | .bl _, _, h => h
  | .int _, _, h => h
  | .str _, _, h => h
  | .tup ds, _, ⟨p, vs, e, t, r⟩ => ⟨p, vs, e, k.sqT t, Reps.up k r⟩
  | .fro ds, _, ⟨p, vs, e, t, r⟩ => ⟨p, vs, e, k.fqL t, Reps.up k r⟩
  | .ref l, _, ⟨p, e, a⟩ => ⟨p, e, k.pre l p a⟩
theorem Reps.up {K : PySem.W.Frag} {α α' : List Addr} {H H' : Hp} (k : Ext α H α' H') : ∀ {ds : List D} {vs : List V}, Reps K α H ds vs → Reps K α' H' ds vs
  | [], _, h => h
  | _ :: _, _, ⟨v, r, e, a, b⟩ => ⟨v, r, e, Rep.up k a, Reps.up k b⟩
end
section
variable {K : PySem.W.Frag} {α : List Addr} {H : Hp}
theorem Reps.len : ∀ {ds : List D} {vs : List V}, Reps K α H ds vs → vs.length = ds.length
  | [], _, h => by
    have e : _ = ([] : List V) := h
    rw [e]; rfl
  | _ :: _, _, ⟨v, r, e, a, b⟩ => by rw [e, List.length_cons, List.length_cons, Reps.len b]
theorem Reps.get : ∀ {ds : List D} {vs : List V} {i : Nat} {d : D}, Reps K α H ds vs → ds[i]? = some d → ∃ v, vs[i]? = some v ∧ Rep K α H d v
  | [], _, i, d, _, h => by simp at h
  | d0 :: ds, _, 0, d, ⟨v, r, e, a, b⟩, h => by
    simp at h
    subst h e
    exact ⟨v, rfl, a⟩
  | d0 :: ds, _, i + 1, d, ⟨v, r, e, a, b⟩, h => by
    subst e
    obtain ⟨w, h1, h2⟩ := Reps.get (i := i) b (by simpa using h)
    exact ⟨w, by simpa using h1, h2⟩
theorem Reps.get' {ds : List D} {vs : List V} {i : Nat} {v : V} (r : Reps K α H ds vs) (h : vs[i]? = some v) : ∃ d, ds[i]? = some d ∧ Rep K α H d v := by
  obtain ⟨hi, _⟩ := List.getElem?_eq_some_iff.mp h
  rw [r.len] at hi
  obtain ⟨w, h1, h2⟩ := r.get (List.getElem?_eq_getElem hi)
  rw [h] at h1
  cases h1
  exact ⟨_, List.getElem?_eq_getElem hi, h2⟩
theorem Reps.nil : Reps K α H [] [] := rfl
theorem Reps.cons {d : D} {v : V} {ds : List D} {vs : List V} (a : Rep K α H d v) (b : Reps K α H ds vs) : Reps K α H (d :: ds) (v :: vs) := ⟨v, vs, rfl, a, b⟩
theorem Reps.app : ∀ {ds es : List D} {vs ws : List V}, Reps K α H ds vs → Reps K α H es ws → Reps K α H (ds ++ es) (vs ++ ws)
  | [], _, _, _, h, h2 => by
    have e : _ = ([] : List V) := h
    rw [e]; exact h2
  | _ :: _, _, _, _, ⟨v, r, e, a, b⟩, h2 => ⟨v, r ++ _, by rw [e]; rfl, a, Reps.app b h2⟩
theorem Reps.set : ∀ {ds : List D} {vs : List V} {d : D} {v : V} (i : Nat), Reps K α H ds vs → Rep K α H d v → Reps K α H (ds.set i d) (vs.set i v)
  | [], _, _, _, _, h, _ => by
    have e : _ = ([] : List V) := h
    rw [e]; exact rfl
  | _ :: _, _, _, _, 0, ⟨v, r, e, a, b⟩, h2 => by
    subst e
    exact ⟨_, r, rfl, h2, b⟩
  | _ :: _, _, _, _, i + 1, ⟨v, r, e, a, b⟩, h2 => by
    subst e
    exact ⟨v, _, rfl, a, Reps.set i b h2⟩
theorem Reps.take : ∀ {ds : List D} {vs : List V} (n : Nat), Reps K α H ds vs → Reps K α H (ds.take n) (vs.take n)
  | _, _, 0, _ => rfl
  | [], _, n + 1, h => by
    have e : _ = ([] : List V) := h
    rw [e]; exact rfl
  | _ :: _, _, n + 1, ⟨v, r, e, a, b⟩ => by
    subst e
    exact ⟨v, _, rfl, a, Reps.take n b⟩
theorem Reps.drop : ∀ {ds : List D} {vs : List V} (n : Nat), Reps K α H ds vs → Reps K α H (ds.drop n) (vs.drop n)
  | _, _, 0, h => h
  | [], _, n + 1, h => by
    have e : _ = ([] : List V) := h
    rw [e]; exact rfl
  | _ :: _, _, n + 1, ⟨v, r, e, a, b⟩ => by
    subst e
    exact Reps.drop n b
theorem Reps.one {ds : List D} {v : V} (h : Reps K α H ds [v]) : ∃ d, ds = [d] ∧ Rep K α H d v := by
  match ds, h with
  | [], h => cases (show [v] = [] from h)
  | [d], ⟨_, _, e, a, b⟩ => cases e; exact ⟨d, rfl, a⟩
  | _ :: _ :: _, ⟨_, _, e, a, _, _, e2, _⟩ => cases e; cases e2
end

/-- dict entries -/
def RepKv (K : PySem.W.Frag) (α : List Addr) (H : Hp) : List (Key × D) → List (Key × V) → Prop
  | [], ws => ws = []
  | (k, d) :: r, ws => ∃ v s, ws = (k, v) :: s ∧ Rep K α H d v ∧ RepKv K α H r s
theorem RepKv.up {K : PySem.W.Frag} {α α' : List Addr} {H H' : Hp} (k : Ext α H α' H') : ∀ {ds : List (Key × D)} {vs : List (Key × V)}, RepKv K α H ds vs → RepKv K α' H' ds vs
  | [], _, h => h
  | _ :: _, _, ⟨v, s, e, a, b⟩ => ⟨v, s, e, Rep.up k a, RepKv.up k b⟩
/-- the object at p stands for o -/
def RepO (K : PySem.W.Frag) (α : List Addr) (H : Hp) : O → Addr → Prop
  | .lst ds, p => ∃ vs, H p = some (.lst vs) ∧ Reps K α H ds vs
  | .dct kvs, p => ∃ ws, H p = some (.dK ws) ∧ RepKv K α H kvs ws
theorem RepO.up {K : PySem.W.Frag} {α α' : List Addr} {H H' : Hp} (k : Ext α H α' H') {o : O} {p : Addr} (e : H' p = H p) (h : RepO K α H o p) : RepO K α' H' o p := by
  cases o with
  | lst ds =>
    obtain ⟨vs, h1, h2⟩ := h
    exact ⟨vs, e.trans h1, h2.up k⟩
  | dct ds =>
    obtain ⟨vs, h1, h2⟩ := h
    exact ⟨vs, e.trans h1, h2.up k⟩
theorem RepO.some {K : PySem.W.Frag} {α : List Addr} {H : Hp} {o : O} {p : Addr} (h : RepO K α H o p) : ∃ u, H p = some u ∧ ¬ Imm u := by
  cases o with
  | lst ds =>
    obtain ⟨vs, h1, _⟩ := h
    exact ⟨_, h1, fun z => z⟩
  | dct ds =>
    obtain ⟨vs, h1, _⟩ := h
    exact ⟨_, h1, fun z => z⟩
theorem repO_shape {K : PySem.W.Frag} {α : List Addr} {H : Hp} {o : O} {p : Addr} (h : RepO K α H o p) : ∃ u, H p = some u ∧ (∀ ps, u ≠ .tbl ps) ∧ ∀ c q, u ≠ LamX.CodeO c q := by
  cases o with
  | lst ds =>
    obtain ⟨vs, h1, _⟩ := h
    exact ⟨_, h1, fun ps z => (by cases z), fun c q z => (by unfold LamX.CodeO at z; cases z)⟩
  | dct ds =>
    obtain ⟨vs, h1, _⟩ := h
    exact ⟨_, h1, fun ps z => (by cases z), fun c q z => (by unfold LamX.CodeO at z; cases z)⟩
variable [Tb]
/-- the store stands at α -/
structure RepS (K : PySem.W.Frag) (α : List Addr) (H : Hp) (μ : List O) : Prop where
  len : α.length = μ.length
  nd : α.Nodup
  at_ : ∀ (l : Nat) o p, μ[l]? = some o → α[l]? = some p → RepO K α H o p
  tb : LamX.Tabs Tb.T H
section
variable {K : PySem.W.Frag} {α : List Addr} {H : Hp} {μ : List O}
theorem RepS.addr (s : RepS K α H μ) {l : Nat} {o : O} (h : μ[l]? = some o) : ∃ p, α[l]? = some p ∧ RepO K α H o p := by
  obtain ⟨hl, _⟩ := List.getElem?_eq_some_iff.mp h
  have hl' : l < α.length := by rw [s.len]; exact hl
  exact ⟨_, List.getElem?_eq_getElem hl', s.at_ l o _ h (List.getElem?_eq_getElem hl')⟩
theorem RepS.there (s : RepS K α H μ) {l : Nat} {p : Addr} (h : α[l]? = some p) : ∃ o, μ[l]? = some o ∧ RepO K α H o p := by
  obtain ⟨hl, _⟩ := List.getElem?_eq_some_iff.mp h
  have hl' : l < μ.length := by rw [← s.len]; exact hl
  exact ⟨_, List.getElem?_eq_getElem hl', s.at_ l _ _ (List.getElem?_eq_getElem hl') h⟩
theorem RepS.fresh (s : RepS K α H μ) {p : Addr} (h : H p = none) : p ∉ α := fun hm => by
  obtain ⟨l, hl, e⟩ := List.getElem_of_mem hm
  obtain ⟨o, _, r⟩ := s.there (List.getElem?_eq_some_iff.mpr ⟨hl, e⟩)
  obtain ⟨u, hu, _⟩ := r.some
  rw [h] at hu
  cases hu
/-- a value laid that is no store object: a tuple -/
theorem RepS.lay (s : RepS K α H μ) {p : Addr} {u : HO} (hp : H p = none) : RepS K α (upd H p u) μ :=
  ⟨s.len, s.nd, fun l o q h1 h2 => by
    refine (s.at_ l o q h1 h2).up (Ext.lay hp) (upd_ne fun z => s.fresh hp ?_)
    rw [← z]
    exact List.mem_of_getElem? h2, s.tb.ext fun b o e => by rw [upd_ne (ne_of_none e hp)]; exact e⟩
/-- a new object of the store -/
theorem RepS.push (s : RepS K α H μ) {p : Addr} {u : HO} {o : O} (hp : H p = none) (ho : RepO K (α ++ [p]) (upd H p u) o p) : RepS K (α ++ [p]) (upd H p u) (μ ++ [o]) := by
  have np := s.fresh hp
  refine ⟨by simp [s.len], List.nodup_append.mpr ⟨s.nd, by simp, fun a ha b hb z => ?_⟩, fun l o' q h1 h2 => ?_, s.tb.ext fun b o e => by rw [upd_ne (ne_of_none e hp)]; exact e⟩
  · simp at hb
    exact np (by rw [← hb, ← z]; exact ha)
  · by_cases hl : l < μ.length
    · rw [List.getElem?_append_left hl] at h1
      rw [List.getElem?_append_left (by rw [s.len]; exact hl)] at h2
      refine (s.at_ l o' q h1 h2).up (Ext.push hp) (upd_ne fun z => np ?_)
      rw [← z]
      exact List.mem_of_getElem? h2
    · have e : l = μ.length := by
        have := (List.getElem?_eq_some_iff.mp h1).1
        simp at this
        omega
      subst e
      rw [List.getElem?_append_right (Nat.le_refl _)] at h1
      rw [List.getElem?_append_right (by rw [s.len]; exact Nat.le_refl _)] at h2
      simp [s.len] at h1 h2
      subst h1 h2
      exact ho
/-- an object of the store turned -/
theorem RepS.put (s : RepS K α H μ) {p : Addr} {u : HO} {o : O} {l : Nat} (hp : α[l]? = some p) (ho : RepO K α (upd H p u) o p) : RepS K α (upd H p u) (μ.set l o) := by
  obtain ⟨o0, h0, r0⟩ := s.there hp
  obtain ⟨u0, hu, ni⟩ := r0.some
  obtain ⟨u1, hu1, nt, nc⟩ := repO_shape r0
  rw [hu] at hu1
  cases hu1
  refine ⟨by simp [s.len], s.nd, fun j o' q h1 h2 => ?_, fun y hy => ?_⟩
  rotate_left
  · obtain ⟨ps, a1, a2, a3⟩ := s.tb y hy
    refine ⟨ps, by rw [upd_ne fun z => nt ps (Option.some.inj (hu.symm.trans (by rw [← z]; exact a1)))]; exact a1, a2, fun pos cv hc => ?_⟩
    obtain ⟨c, e1, e2⟩ := a3 pos cv hc
    exact ⟨c, e1, by rw [upd_ne fun z => nc c y.2 (Option.some.inj (hu.symm.trans (by rw [← z]; exact e2)))]; exact e2⟩
  by_cases hj : j = l
  · subst hj
    rw [hp] at h2
    cases h2
    rw [List.getElem?_set_self (List.getElem?_eq_some_iff.mp h0).1] at h1
    cases h1
    exact ho
  · rw [List.getElem?_set_ne (Ne.symm hj)] at h1
    have nq : q ≠ p := fun z => by
      subst z
      obtain ⟨b1, e1⟩ := List.getElem?_eq_some_iff.mp h2
      obtain ⟨b2, e2⟩ := List.getElem?_eq_some_iff.mp hp
      exact hj ((List.getElem_inj s.nd).mp (e1.trans e2.symm))
    exact (s.at_ j o' q h1 h2).up (Ext.put hp hu ni) (upd_ne nq)
end
/-- the slots -/
structure RepE (K : PySem.W.Frag) (α : List Addr) (H : Hp) (ρ : Env) (σ : L2.St) : Prop where
  len : ρ.length = σ.length
  at_ : ∀ (i : Nat) d, ρ[i]? = some (some d) → ∃ v, σ[i]? = some (some v) ∧ Rep K α H d v
section
variable {K : PySem.W.Frag} {α α' : List Addr} {H H' : Hp} {ρ : Env} {σ : L2.St}
theorem RepE.up (e : RepE K α H ρ σ) (k : Ext α H α' H') : RepE K α' H' ρ σ :=
  ⟨e.len, fun i d h => let ⟨v, h1, h2⟩ := e.at_ i d h; ⟨v, h1, h2.up k⟩⟩
theorem RepE.set (e : RepE K α H ρ σ) {d : D} {v : V} (i : Nat) (r : Rep K α H d v) : RepE K α H (ρ.set i (some d)) (σ.set i (some v)) :=
  ⟨by simp [e.len], fun j d' h => by
    by_cases hj : j = i
    · subst hj
      have hl := (List.getElem?_eq_some_iff.mp h).1
      rw [List.length_set] at hl
      rw [List.getElem?_set_self hl] at h
      cases h
      exact ⟨v, List.getElem?_set_self (by rw [← e.len]; exact hl), r⟩
    · rw [List.getElem?_set_ne (Ne.symm hj)] at h
      obtain ⟨w, h1, h2⟩ := e.at_ j d' h
      exact ⟨w, by rw [List.getElem?_set_ne (Ne.symm hj)]; exact h1, h2⟩⟩
theorem RepE.start {ds : List D} {vs : List V} {N : List Str} (r : Reps K α H ds vs) : RepE K α H (ds.map some ++ List.replicate (N.length - ds.length) none) (L2.start N vs) := by
  have hl := r.len
  refine ⟨by unfold L2.start; simp [hl], fun i d h => ?_⟩
  by_cases hi : i < ds.length
  · rw [List.getElem?_append_left (by simpa using hi), List.getElem?_map] at h
    cases e : ds[i]? with
    | none => rw [e] at h; cases h
    | some d0 =>
      rw [e] at h
      cases h
      obtain ⟨v, h1, h2⟩ := r.get e
      refine ⟨v, ?_, h2⟩
      unfold L2.start
      rw [List.getElem?_append_left (by rw [List.length_map, hl]; exact hi), List.getElem?_map, h1]
      rfl
  · rw [List.getElem?_append_right (by simpa using hi), List.getElem?_replicate] at h
    split at h <;> cases h
end
/-- an exception: its class by the module's names, its own dict's fields -/
def RepF (K : PySem.W.Frag) (α : List Addr) (H : Hp) : List (Str × D) → List (Str × V) → Prop
  | [], ws => ws = []
  | (k, d) :: r, ws => ∃ v s, ws = (k, v) :: s ∧ Rep K α H d v ∧ RepF K α H r s
def RepX (K : PySem.W.Frag) (mg : Str → Option Value) (α : List Addr) (H : Hp) (x : Ex) (c : Value) (dd : Option Addr) : Prop :=
  mg x.cls = some c ∧ match x.fs with
    | none => dd = none
    | some fs => ∃ d ws, dd = some d ∧ H d = some (.xd ws) ∧ RepF K α H fs ws

/-! ### what is wanted behind a run -/
def Aft {a b : Type} (R : List Addr → Hp → a → b → Prop) (K : PySem.W.Frag) (mg : Str → Option Value) (E : XK) (α : List Addr) (H : Hp) (r : Except Ex a) (μ' : List O) (Q : b → Hp → Prop) : Prop :=
  match r with
  | .ok d => ∀ α' v H', Ext α H α' H' → RepS K α' H' μ' → R α' H' d v → Q v H'
  | .error x => ∀ α' c dd H', Ext α H α' H' → RepS K α' H' μ' → RepX K mg α' H' x c dd → E c dd H'
theorem Aft.up {a b : Type} {R : List Addr → Hp → a → b → Prop} {K : PySem.W.Frag} {mg : Str → Option Value} {E : XK} {α α1 : List Addr} {H H1 : Hp} {r : Except Ex a} {μ' : List O} {Q : b → Hp → Prop} (h : Aft R K mg E α H r μ' Q) (k : Ext α H α1 H1) :
    Aft R K mg E α1 H1 r μ' Q := by
  cases r with
  | ok d => exact fun α' v H' k' => h α' v H' (k.trans k')
  | error x => exact fun α' c dd H' k' => h α' c dd H' (k.trans k')
/-- the configuration -/
structure Cfg (K : PySem.W.Frag) (α : List Addr) (H : Hp) (ρ : Env) (σ : L2.St) (μ : List O) : Prop where
  s : RepS K α H μ
  e : RepE K α H ρ σ
def rd {a b : Type} (R : List Addr → Hp → a → b → Prop) (K : PySem.W.Frag) (mg : Str → Option Value) (W : WX) (m : Env → M a) : L2.St → Hp → (b → Hp → Prop) → Prop := fun σ H Q =>
  ∃ α ρ μ r μ', Cfg K α H ρ σ μ ∧ m ρ μ = some (r, μ') ∧ Aft R K mg (fun c dd H' => W c dd σ H') α H r μ' Q
section
variable {a b c e : Type} {R : List Addr → Hp → a → b → Prop} {R1 : List Addr → Hp → c → e → Prop} {K : PySem.W.Frag} {mg : Str → Option Value} {W : WX} {α : List Addr} {H : Hp} {ρ : Env} {σ : L2.St} {μ μ' : List O} {r : Except Ex a} {Q : b → Hp → Prop} {Q1 : e → Hp → Prop}
theorem rd_in {m : Env → M a} (g : Cfg K α H ρ σ μ) (run : m ρ μ = some (r, μ')) (aft : Aft R K mg (fun c dd H' => W c dd σ H') α H r μ' Q) : rd R K mg W m σ H Q := ⟨α, ρ, μ, r, μ', g, run, aft⟩
/-- one part, then the rest -/
theorem rd_seq {m1 : Env → M c} {f : c → M a} (g : Cfg K α H ρ σ μ) (run : M.bnd (m1 ρ) f μ = some (r, μ')) (aft : Aft R K mg (fun c dd H' => W c dd σ H') α H r μ' Q)
    (k : ∀ d v α1 H1 μ1, Cfg K α1 H1 ρ σ μ1 → Ext α H α1 H1 → R1 α1 H1 d v → f d μ1 = some (r, μ') → Aft R K mg (fun c dd H' => W c dd σ H') α1 H1 r μ' Q → Q1 v H1) :
    rd R1 K mg W m1 σ H Q1 := by
  unfold M.bnd at run
  cases h : m1 ρ μ with
  | none => rw [h] at run; cases run
  | some p =>
    obtain ⟨r1, μ1⟩ := p
    rw [h] at run
    cases r1 with
    | error x =>
      cases run
      exact ⟨α, ρ, μ, .error x, _, g, h, fun α' c dd H' k' s' x' => aft α' c dd H' k' s' x'⟩
    | ok d =>
      refine ⟨α, ρ, μ, .ok d, μ1, g, h, fun α1 v H1 k1 s1 r1 => ?_⟩
      exact k d v α1 H1 μ1 ⟨s1, g.e.up k1⟩ k1 r1 run (aft.up k1)
end
end Mi
/-! Mi, part B: what a def is worth, code that is good, expressions. -/
namespace Mi
open PySem L2 PyProof.Rows
variable [Tb]

/-! ### a def's worth -/
abbrev CXr (P : Program) (w : World) : CXT := L2.CX P w
/-- room for calls, and for the library's long division -/
structure RoomB (k : Nat) (A : Around) : Prop where
  r : Room k A
  d : A.depth + 3 * k + 105 < recursionLimit
theorem RoomB.mono {j k : Nat} {A : Around} (h : RoomB k A) (l : j ≤ k) : RoomB j A := ⟨h.r.mono l, by have := h.d; omega⟩
theorem RoomB.deeper {k : Nat} {A : Around} (h : RoomB (k + 1) A) (env : PySem.Env) : RoomB k (A.deeper env) := ⟨h.r.deeper env, by
  have := h.d
  show A.depth + 1 + 3 * k + 105 < _
  omega⟩
/-- the system's own, as the module stands -/
structure SysOk (P : Program) (base : Heap) : Prop where
  m : ∃ o, base.get? sysModules = some o
  s : base.NoSeer
  t : P.given.tree = none
/-- the frame that runs -/
def TopOk (X : Cx) : Prop := ∃ env l, X.stack = env :: l ∧ env.scope.isGenerator = false ∧ env.scope.isCoroutine = false ∧ env.builtins = builtinsNs ∧ env.globals = mainGlobals
structure FnG (P : Program) (w : World) (K : PySem.W.Frag) (mg : Str → Option Value) (base : Heap) (k : Nat) (f : Addr) (fd : FuncData) (ps : List Str) (sp : Sp) : Prop where
  len : ∀ vs H Q E, sp vs H Q E → vs.length = ps.length
  run : ∀ (A : Around) (outer : List PySem.Env) (s : Shared) (H : Hp) (args : Args) (us : List Value) (vs : List V) (Q : VK) (E : XK), RoomB k A → A.guards = some [] → Env0 P w K mg base A outer s H →
    BindsTo s fd args (ps.zip us) → Vals vs us → sp vs H Q E → codeAny (model P w) A (.call (.ref f) args) (CR (CXr P w) outer P w H s Q E) s
theorem FnG.up {P : Program} {w : World} {K : PySem.W.Frag} {mg : Str → Option Value} {base : Heap} {j k : Nat} {f : Addr} {fd : FuncData} {ps : List Str} {sp : Sp} (F : FnG P w K mg base j f fd ps sp) (h : j ≤ k) : FnG P w K mg base k f fd ps sp :=
  ⟨F.len, fun A o s H a us vs Q E hr => F.run A o s H a us vs Q E (hr.mono h)⟩
/-- the promise that a function of data makes -/
def spOf (K : PySem.W.Frag) (mg : Str → Option Value) (m : List D → M D) : Sp := fun vs H Q E =>
  ∃ α μ ds r μ', RepS K α H μ ∧ Reps K α H ds vs ∧ m ds μ = some (r, μ') ∧ Aft (Rep K) K mg E α H r μ' Q
section
variable {X : Cx} {W : WX} {k : Nat} {f : Addr} {fd : FuncData} {ps ks : List Str} {sp : Sp} {pins : List (Addr × Obj)} {σ : L2.St} {H : Hp} {s : Shared} {Q : VK} {us ws : List Value} {vs zs : List V}
/-- the callee's end, as the caller sees it -/
theorem ended (tk : Takes X W) (I : Inv X pins σ H s) {r : Result} {s' : Shared} (hq : CR (CXr X.prog X.w) X.stack X.prog X.w H s Q (fun c d H' => W c d σ H') r s') :
    match r with
    | .ok (.ret u) => EP X pins σ Q u s'
    | .ok _ => False
    | .error e => X.xe e s' := by
  cases r with
  | error e => exact tk e s' (XE.of_call I (fun _ _ _ z => z) hq)
  | ok fl =>
    cases fl with
    | ret u => exact I.after hq
    | next => exact hq
    | brk => exact hq
    | cont => exact hq
theorem runG (F : FnG X.prog X.w X.K X.mg X.base k f fd ps sp) (hr : RoomB k X.A) (hg : X.A.guards = some []) (hb : Binds X.K fd ps []) (tk : Takes X W) (I : Inv X pins σ H s) (r : Vals vs us)
    (h : sp vs H Q fun c d H' => W c d σ H') : wpAny (model X.prog X.w) X.A (call (.ref f) us) (EP X pins σ Q) X.xe s := by
  have hl : (us ++ []).length = ps.length := by rw [List.append_nil, ← r.length, F.len _ _ _ _ h]
  have b := hb s us I.kIn hl
  rw [List.append_nil] at b
  refine wpAny_call (codeAny_mono (F.run X.A X.stack s H ⟨us, []⟩ us vs Q _ hr hg I.env0 b r h) fun r s' hq => ?_)
  have z := ended tk I hq
  cases r with
  | error e => exact z
  | ok fl => cases fl <;> exact z
theorem runGk {g : List Value → List Value → List Value} {gV : List V → List V → List V} (F : FnG X.prog X.w X.K X.mg X.base k f fd ps sp) (hr : RoomB k X.A) (hg : X.A.guards = some []) (hb : KBinds X.K fd ps ks g gV) (tk : Takes X W) (I : Inv X pins σ H s)
    (r : Vals vs us) (rz : Vals zs ws) (h : sp (gV vs zs) H Q fun c d H' => W c d σ H') : wpAny (model X.prog X.w) X.A (call (.ref f) us (ks.zip ws)) (EP X pins σ Q) X.xe s := by
  have r2 := hb.rel r rz
  have b := hb.to s us ws I.kIn (by rw [← r2.length, F.len _ _ _ _ h])
  refine wpAny_call (codeAny_mono (F.run X.A X.stack s H ⟨us, ks.zip ws⟩ (g us ws) (gV vs zs) Q _ hr hg I.env0 b r2 h) fun r s' hq => ?_)
  have z := ended tk I hq
  cases r with
  | error e => exact z
  | ok fl => cases fl <;> exact z
end
theorem PE.imp {X : Cx} {e : Expr} {t t' : TE} (h : PE X e t) (i : ∀ σ H Q, t' σ H Q → t σ H Q) : PE X e t' := ⟨fun pins s σ H Q I q => h.run pins s σ H Q I (i σ H Q q)⟩
theorem PT.imp {X : Cx} {e : Expr} {t t' : TT} (h : PT X e t) (i : ∀ σ H Q, t' σ H Q → t σ H Q) : PT X e t' := ⟨fun pins s σ H Q I q => h.run pins s σ H Q I (i σ H Q q)⟩
theorem PW.imp {X : Cx} {e : Expr} {t t' : TT} (h : PW X e t) (i : ∀ σ H Q, t' σ H Q → t σ H Q) : PW X e t' := ⟨fun wh pins s σ H Q I q => h.run wh pins s σ H Q I (i σ H Q q)⟩
theorem PA.imp {X : Cx} {e : List Expr} {t t' : TA} (h : PA X e t) (i : ∀ σ H Q, t' σ H Q → t σ H Q) : PA X e t' := ⟨fun p pins s σ H Q I q => h.run p pins s σ H Q I (i σ H Q q)⟩
theorem PO.imp {X : Cx} {e : Option Expr} {t t' : TO} (h : PO X e t) (i : ∀ σ H Q, t' σ H Q → t σ H Q) : PO X e t' := ⟨fun pins s σ H Q I q => h.run pins s σ H Q I (i σ H Q q)⟩
theorem PK.imp {X : Cx} {e : List Keyword} {t t' : TA} (h : PK X e t) (i : ∀ σ H Q, t' σ H Q → t σ H Q) : PK X e t' := ⟨fun p pins s σ H Q I q => h.run p pins s σ H Q I (i σ H Q q)⟩
theorem PS.imp {X : Cx} {e : Stmt} {t t' : TS} (h : PS X e t) (i : ∀ σ H Q, t' Q σ H → t Q σ H) : PS X e t' := ⟨fun pins s σ H Q I q => h.run pins s σ H Q I (i σ H Q q)⟩
theorem PSs.imp {X : Cx} {e : List Stmt} {t t' : TS} (h : PSs X e t) (i : ∀ σ H Q, t' Q σ H → t Q σ H) : PSs X e t' := ⟨fun pins s σ H Q I q => h.run pins s σ H Q I (i σ H Q q)⟩

/-! ### code -/
structure Inf where
  N : List Str
  sc : Scope
  cells : Str → Bool
abbrev Kno := Program → World → PySem.W.Frag → (Str → Option Value) → Heap → Prop
/-- the running def's code, where lambdas are made -/
def LamC (base : Heap) (mg : Str → Option Value) (cdv : Value) (q : Str) : Prop :=
  ∃ c P, cdv = .ref c ∧ LamX.TabB base mg c P ∧ (P, q ++ "<lambda>") ∈ Tb.T ∧ ∀ p ∈ Tb.T, p.1 = P → p.2 = q ++ "<lambda>"
/-- no lambdas -/
def nlam : Str → Bool := fun x => x.cps.size != 0
/-- where code stands -/
structure Bas (Kn : Kno) (k : Nat) (cb : Str → Bool) (X : Cx) (W : WX) : Prop where
  kn : Kn X.prog X.w X.K X.mg X.base
  calm : X.calm = true
  nd : X.N.Nodup
  room : RoomB k X.A
  grd : X.A.guards = some []
  tk : Takes X W
  sys : SysOk X.prog X.base
  top : TopOk X
  cells : ∀ x, cb x = true → X.fn x = true
  lam : cb Str.empty = true → LamC X.base X.mg X.env.code X.env.qual
/-- what the rules of operators and built-ins may use -/
structure Here (X : Cx) : Prop where
  calm : X.calm = true
  room : Room 0 X.A
  grd : X.A.guards = some []
  sys : ∃ o, X.base.get? sysModules = some o
  big : X.A.depth + 105 < recursionLimit
  sy : SysOk X.prog X.base
  top : TopOk X
theorem Bas.here {Kn : Kno} {k : Nat} {cb : Str → Bool} {X : Cx} {W : WX} (b : Bas Kn k cb X W) : Here X := ⟨b.calm, b.room.r.mono (Nat.zero_le _), b.grd, b.sys.m, by have := b.room.d; omega, b.sys, b.top⟩
structure CE where
  run : Env → M D
  chk : Inf → Expr → Bool
structure CA where
  run : Env → M (List D)
  chk : Inf → List Expr → Bool
structure CT where
  run : Env → M Bool
  chk : Inf → Expr → Bool
abbrev rdE (K : PySem.W.Frag) (mg : Str → Option Value) (W : WX) (m : Env → M D) : TE := rd (Rep K) K mg W m
abbrev rdA (K : PySem.W.Frag) (mg : Str → Option Value) (W : WX) (m : Env → M (List D)) : TA := rd (Reps K) K mg W m
abbrev rdT (K : PySem.W.Frag) (mg : Str → Option Value) (W : WX) (m : Env → M Bool) : TT := rd (fun _ _ (x y : Bool) => x = y) K mg W m
def GE (Kn : Kno) (k : Nat) (c : CE) : Prop := ∀ X W b, Bas Kn k b X W → ∀ e, c.chk ⟨X.N, X.env.scope, b⟩ e = true → PE X e (rdE X.K X.mg W c.run)
def GA (Kn : Kno) (k : Nat) (c : CA) : Prop := ∀ X W b, Bas Kn k b X W → ∀ e, c.chk ⟨X.N, X.env.scope, b⟩ e = true → PA X e (rdA X.K X.mg W c.run)
def GT (Kn : Kno) (k : Nat) (c : CT) : Prop := ∀ X W b, Bas Kn k b X W → ∀ e, c.chk ⟨X.N, X.env.scope, b⟩ e = true → PT X e (rdT X.K X.mg W c.run)
/-- a chain of and, or -/
def GW (Kn : Kno) (k : Nat) (c : CT) : Prop := ∀ X W b, Bas Kn k b X W → ∀ e, c.chk ⟨X.N, X.env.scope, b⟩ e = true → PW X e (rdT X.K X.mg W c.run)
theorem GW.t {Kn : Kno} {k : Nat} {c : CT} (h : GW Kn k c) : GT Kn k c := fun X W cb b e q => (h X W cb b e q).pt

/-! ### leaves -/
def seen (sc : Scope) (x : Str) : Bool := match sc.names.lookup x with
  | some .local => true
  | some .cell => true
  | some .free => true
  | _ => false
theorem seen_vis {sc : Scope} {x : Str} (h : seen sc x = true) : Vis sc x := by
  unfold seen at h
  split at h
  · exact .inl (by assumption)
  · exact .inr (.inl (by assumption))
  · exact .inr (.inr (by assumption))
  · cases h
def unmarked (x : Str) : Bool := !(x == ("__debug__" : Str)) && !(x == ("__classdict__" : Str))
theorem unmarked1 {x : Str} (h : unmarked x = true) : (x == ("__debug__" : Str)) = false := by
  unfold unmarked at h
  rw [Bool.and_eq_true] at h
  simpa using h.1
theorem unmarked2 {x : Str} (h : unmarked x = true) : (x == ("__classdict__" : Str)) = false := by
  unfold unmarked at h
  rw [Bool.and_eq_true] at h
  simpa using h.2
def getV (i : Nat) : Env → M D := fun ρ => match ρ[i]? with
  | some (some d) => M.ret d
  | _ => M.stop
theorem getV_some {i : Nat} {ρ : Env} {μ : List O} {p : Except Ex D × List O} (h : getV i ρ μ = some p) : ∃ d, ρ[i]? = some (some d) ∧ p = (.ok d, μ) := by
  unfold getV at h
  cases e : ρ[i]? with
  | none => rw [e] at h; cases h
  | some o =>
    rw [e] at h
    cases o with
    | none => cases h
    | some d => exact ⟨d, rfl, (Option.some.inj h).symm⟩
def cVar (i : Nat) : CE := ⟨getV i, fun I e => match e with
  | .Name x _ => decide (I.N[i]? = some x) && (seen I.sc x && unmarked x)
  | _ => false⟩
section
variable {Kn : Kno} {k : Nat}
theorem g_var {i : Nat} : GE Kn k (cVar i) := by
  intro X W cb b e h
  dsimp only [cVar] at h
  split at h
  · rename_i x pos
    simp only [Bool.and_eq_true, decide_eq_true_eq] at h
    refine PE.imp (pe_var h.1 (seen_vis h.2.1) (unmarked1 h.2.2) (unmarked2 h.2.2)) ?_
    rintro σ H Q ⟨α, ρ, μ, r, μ', g, run, aft⟩
    obtain ⟨d, h1, h2⟩ := getV_some run
    cases h2
    obtain ⟨v, h3, h4⟩ := g.e.at_ i d h1
    exact ⟨v, h3, aft α v H (Ext.refl α H) g.s h4⟩
  · cases h
/-- a run that gives a value and leaves all as it is -/
theorem rd_ret {a b : Type} {R : List Addr → Hp → a → b → Prop} {K : PySem.W.Frag} {mg : Str → Option Value} {E : XK} {α : List Addr} {H : Hp} {μ μ' : List O} {d : a} {r : Except Ex a} {Q : b → Hp → Prop} {v : b} (s : RepS K α H μ)
    (run : M.ret d μ = some (r, μ')) (aft : Aft R K mg E α H r μ' Q) (hv : R α H d v) : Q v H := by
  cases run
  exact aft α v H (Ext.refl α H) s hv
def cInt (i : Int) : CE := ⟨fun _ => M.ret (.int i), fun _ e => match e with
  | .Constant (.int j) _ _ => decide (j = i)
  | _ => false⟩
theorem g_int {i : Int} : GE Kn k (cInt i) := by
  intro X W cb b e h
  dsimp only [cInt] at h
  split at h
  · have z := of_decide_eq_true h
    subst z
    exact PE.imp pe_int fun σ H Q ⟨α, ρ, μ, r, μ', g, run, aft⟩ => rd_ret g.s run aft rfl
  · cases h
def cBl (i : Bool) : CE := ⟨fun _ => M.ret (.bl i), fun _ e => match e with
  | .Constant (.bool j) _ _ => decide (j = i)
  | _ => false⟩
theorem g_bl {i : Bool} : GE Kn k (cBl i) := by
  intro X W cb b e h
  dsimp only [cBl] at h
  split at h
  · have z := of_decide_eq_true h
    subst z
    exact PE.imp pe_bl fun σ H Q ⟨α, ρ, μ, r, μ', g, run, aft⟩ => rd_ret g.s run aft rfl
  · cases h
def cStr (i : Str) : CE := ⟨fun _ => M.ret (.str i), fun _ e => match e with
  | .Constant (.str j) _ _ => decide (j = i)
  | _ => false⟩
theorem g_str {i : Str} : GE Kn k (cStr i) := by
  intro X W cb b e h
  dsimp only [cStr] at h
  split at h
  · have z := of_decide_eq_true h
    subst z
    exact PE.imp pe_str fun σ H Q ⟨α, ρ, μ, r, μ', g, run, aft⟩ => rd_ret g.s run aft rfl
  · cases h
def cNon : CE := ⟨fun _ => M.ret .non, fun _ e => match e with
  | .Constant .none _ _ => true
  | _ => false⟩
theorem g_non : GE Kn k cNon := by
  intro X W cb b e h
  dsimp only [cNon] at h
  split at h
  · exact PE.imp pe_non fun σ H Q ⟨α, ρ, μ, r, μ', g, run, aft⟩ => rd_ret g.s run aft rfl
  · cases h
/-! ### a constant of the module that is no object: an int, a text -/
def glo (sc : Scope) (x : Str) : Bool := decide (sc.names.lookup x = some .globalImplicit)
def cGlo (x : Str) (d : D) : CE := ⟨fun _ => M.ret d, fun I e => match e with
  | .Name y _ => decide (y = x) && (glo I.sc y && unmarked y)
  | _ => false⟩
/-- x is a constant of the module that stands for d -/
def IsGlo (Kn : Kno) (x : Str) (d : D) : Prop := ∀ P w K mg base, Kn P w K mg base → ∃ (v : V) (u : Value), mg x = some u ∧ RelV v u ∧ ∀ α H, Rep K α H d v
theorem g_glo {x : Str} {d : D} (hx : IsGlo Kn x d) : GE Kn k (cGlo x d) := by
  intro X W cb b e h
  dsimp only [cGlo] at h
  split at h
  · simp only [Bool.and_eq_true, decide_eq_true_eq, glo] at h
    obtain ⟨h1, h2, h3⟩ := h
    subst h1
    obtain ⟨v, u, hm, rv, hr⟩ := hx _ _ _ _ _ b.kn
    exact PE.imp (pe_glob h2 hm rv (unmarked1 h3)) fun σ H Q ⟨α, ρ, μ, r, μ', g, run, aft⟩ => rd_ret g.s run aft (hr _ _)
  · cases h

/-! ### lists of arguments -/
def noStar : Expr → Bool
  | .Starred _ _ => false
  | _ => true
theorem star_cons {e : Expr} {es : List Expr} {env : PySem.Env} (h : noStar e = true) : starEach (e :: es) env = (false, eval e env) :: starEach es env := by
  cases e <;> first | rfl | cases h
theorem star_any {pos : Pos} {env : PySem.Env} : ∀ {es : List Expr}, es.all noStar = true → (backTo pos (starEach es env)).any (·.1) = false
  | [], _ => rfl
  | e :: es, h => by
    rw [List.all_cons, Bool.and_eq_true] at h
    rw [star_cons h.1]
    show (false || (backTo pos (starEach es env)).any (·.1)) = false
    rw [star_any h.2]; rfl
def aNil : CA := ⟨fun _ => M.ret [], fun _ es => match es with
  | [] => true
  | _ => false⟩
def aCons (c : CE) (cs : CA) : CA := ⟨fun ρ => M.bnd (c.run ρ) fun d => M.bnd (cs.run ρ) fun ds => M.ret (d :: ds), fun I es => match es with
  | e :: r => c.chk I e && (noStar e && cs.chk I r)
  | _ => false⟩
theorem g_nil : GA Kn k aNil := by
  intro X W cb b e h
  dsimp only [aNil] at h
  split at h
  · exact PA.imp pa_nil fun σ H Q ⟨α, ρ, μ, r, μ', g, run, aft⟩ => rd_ret g.s run aft Reps.nil
  · cases h
theorem g_cons {c : CE} {cs : CA} (hc : GE Kn k c) (hs : GA Kn k cs) : GA Kn k (aCons c cs) := by
  intro X W cb b e h
  dsimp only [aCons] at h
  split at h
  · simp only [Bool.and_eq_true] at h
    obtain ⟨h1, h2, h3⟩ := h
    refine PA.imp (pa_cons (hc X W cb b _ h1) (hs X W cb b _ h3) (star_cons h2)) ?_
    rintro σ H Q ⟨α, ρ, μ, r, μ', g, run, aft⟩
    refine rd_seq g run aft fun d v α1 H1 μ1 g1 k1 r1 run1 aft1 => ?_
    refine rd_seq g1 run1 aft1 fun ds vs α2 H2 μ2 g2 k2 r2 run2 aft2 => ?_
    exact rd_ret g2.s run2 aft2 (Reps.cons (r1.up k2) r2)
  · cases h
/-- the arguments' look ahead: no star -/
def cTup (cs : CA) : CE := ⟨fun ρ => M.bnd (cs.run ρ) fun ds => if ds.length ≤ sizeLine then M.ret (.tup ds) else M.stop, fun I e => match e with
  | .Tuple es _ _ => cs.chk I es
  | _ => false⟩
theorem g_tup {cs : CA} (hc : GA Kn k cs) : GE Kn k (cTup cs) := by
  intro X W cb b e h
  dsimp only [cTup] at h
  split at h
  · refine PE.imp (pe_tup (hc X W cb b _ h)) ?_
    rintro σ H Q ⟨α, ρ, μ, r, μ', g, run, aft⟩
    refine rd_seq g run aft fun ds vs α1 H1 μ1 g1 k1 r1 run1 aft1 => ?_
    have hl := r1.len
    split at run1
    · rename_i hz
      refine ⟨by rw [hl]; exact hz, fun p hp => ?_⟩
      cases run1
      exact aft1 α1 _ _ (Ext.lay hp) (g1.s.lay hp) ⟨p, vs, rfl, SqT.of upd_same, r1.up (Ext.lay hp)⟩
    · cases run1
  · cases h
/-- a new object of the store -/
def M.new (o : O) : M D := fun μ => some (.ok (.ref μ.length), μ ++ [o])
theorem new_lst {K : PySem.W.Frag} {mg : Str → Option Value} {E : XK} {α : List Addr} {H : Hp} {μ μ' : List O} {ds : List D} {vs : List V} {r : Except Ex D} {Q : VK} (s : RepS K α H μ) (run : M.new (.lst ds) μ = some (r, μ'))
    (aft : Aft (Rep K) K mg E α H r μ' Q) (hv : Reps K α H ds vs) {p : Addr} (hp : H p = none) : Q (.ref p) (upd H p (.lst vs)) := by
  cases run
  refine aft (α ++ [p]) _ _ (Ext.push hp) (s.push hp ⟨vs, upd_same, hv.up (Ext.push hp)⟩) ⟨p, rfl, ?_⟩
  rw [← s.len, List.getElem?_append_right (Nat.le_refl _)]
  simp
def cLst (cs : CA) : CE := ⟨fun ρ => M.bnd (cs.run ρ) fun ds => if ds.length ≤ sizeLine then M.new (.lst ds) else M.stop, fun I e => match e with
  | .List es _ => cs.chk I es
  | _ => false⟩
theorem g_lst {cs : CA} (hc : GA Kn k cs) : GE Kn k (cLst cs) := by
  intro X W cb b e h
  dsimp only [cLst] at h
  split at h
  · refine PE.imp (pe_lst (hc X W cb b _ h)) ?_
    rintro σ H Q ⟨α, ρ, μ, r, μ', g, run, aft⟩
    refine rd_seq g run aft fun ds vs α1 H1 μ1 g1 k1 r1 run1 aft1 => ?_
    have hl := r1.len
    split at run1
    · rename_i hz
      exact ⟨by rw [hl]; exact hz, fun p hp => new_lst g1.s run1 aft1 r1 hp⟩
    · cases run1
  · cases h

/-! ### two operands -/
/-- a rule of the layer and a function of data that go together -/
def OpD (K : PySem.W.Frag) (r : R2) (f : D → D → M D) : Prop := ∀ (mg : Str → Option Value) (E : XK) (α : List Addr) (H : Hp) (μ μ' : List O) (d1 d2 : D) (x y : V) (q : Except Ex D) (Q : VK),
  RepS K α H μ → Rep K α H d1 x → Rep K α H d2 y → f d1 d2 μ = some (q, μ') → Aft (Rep K) K mg E α H q μ' Q → r x y H Q
theorem two {K : PySem.W.Frag} {mg : Str → Option Value} {W : WX} {ra rb : Env → M D} {f : D → D → M D} {r : R2} (ho : OpD K r f) : ∀ σ H Q, rdE K mg W (fun ρ => M.bnd (ra ρ) fun x => M.bnd (rb ρ) fun y => f x y) σ H Q → tOp r (rdE K mg W ra) (rdE K mg W rb) σ H Q := by
  rintro σ H Q ⟨α, ρ, μ, q, μ', g, run, aft⟩
  refine rd_seq g run aft fun d v α1 H1 μ1 g1 k1 r1 run1 aft1 => ?_
  refine rd_seq g1 run1 aft1 fun d2 v2 α2 H2 μ2 g2 k2 r2 run2 aft2 => ?_
  exact ho mg _ α2 H2 μ2 μ' d d2 v v2 q Q g2.s (r1.up k2) r2 run2 aft2
def cBin (op : Operator) (f : D → D → M D) (a b : CE) : CE := ⟨fun ρ => M.bnd (a.run ρ) fun x => M.bnd (b.run ρ) fun y => f x y, fun I e => match e with
  | .BinOp l o r _ => decide (o = op) && (a.chk I l && b.chk I r)
  | _ => false⟩
def OkBin (op : Operator) (f : D → D → M D) : Prop := ∀ X : Cx, Here X → ∃ r, OpR X (binaryOp op) r ∧ OpD X.K r f
theorem g_bin {op : Operator} {f : D → D → M D} {a b : CE} (ho : OkBin op f) (ha : GE Kn k a) (hb : GE Kn k b) : GE Kn k (cBin op f a b) := by
  intro X W cb bs e h
  dsimp only [cBin] at h
  split at h
  · simp only [Bool.and_eq_true, decide_eq_true_eq] at h
    obtain ⟨h1, h2, h3⟩ := h
    subst h1
    obtain ⟨r, o1, o2⟩ := ho X bs.here
    exact PE.imp (pe_op o1 (ha X W cb bs _ h2) (hb X W cb bs _ h3)) (two o2)
  · cases h
/-- the marks of in, not in: a set's display -/
def noSet : Expr → Bool
  | .Set _ _ _ => false
  | _ => true
theorem noSet_mark {op : CmpOp} {e : Expr} (h : noSet e = true) : behindInMarks op e = false := by
  cases e <;> first | rfl | cases h
def cCmp (op : CmpOp) (f : D → D → M D) (a b : CE) : CE := ⟨fun ρ => M.bnd (a.run ρ) fun x => M.bnd (b.run ρ) fun y => f x y, fun I e => match e with
  | .Compare l [o] [r] _ => decide (o = op) && (noSet r && (a.chk I l && b.chk I r))
  | _ => false⟩
def OkCmp (op : CmpOp) (f : D → D → M D) : Prop := ∀ X : Cx, Here X → ∃ r, OpR X (compareOp op) r ∧ OpD X.K r f
theorem g_cmp {op : CmpOp} {f : D → D → M D} {a b : CE} (ho : OkCmp op f) (ha : GE Kn k a) (hb : GE Kn k b) : GE Kn k (cCmp op f a b) := by
  intro X W cb bs e h
  dsimp only [cCmp] at h
  split at h
  · simp only [Bool.and_eq_true, decide_eq_true_eq] at h
    obtain ⟨h1, h0, h2, h3⟩ := h
    subst h1
    obtain ⟨r, o1, o2⟩ := ho X bs.here
    exact PE.imp (pe_cmpR o1 (ha X W cb bs _ h2) (hb X W cb bs _ h3) (noSet_mark h0)) (two o2)
  · cases h
/-- a value that is a truth -/
def asB : D → M Bool
  | .bl b => M.ret b
  | _ => M.stop
theorem tested {K : PySem.W.Frag} {mg : Str → Option Value} {W : WX} {m : Env → M D} : ∀ σ H Q, rdT K mg W (fun ρ => M.bnd (m ρ) asB) σ H Q → tTest (rdE K mg W m) σ H Q := by
  rintro σ H Q ⟨α, ρ, μ, q, μ', g, run, aft⟩
  refine rd_seq g run aft fun d v α1 H1 μ1 g1 k1 r1 run1 aft1 => ?_
  cases d with
  | bl b =>
    have e : v = .bl b := r1
    exact ⟨b, e, rd_ret g1.s run1 aft1 rfl⟩
  | _ => cases run1
/-- a comparison as a test -/
def tCmpC (op : CmpOp) (f : D → D → M D) (a b : CE) : CT := ⟨fun ρ => M.bnd ((cCmp op f a b).run ρ) asB, (cCmp op f a b).chk⟩
theorem g_tcmp {op : CmpOp} {f : D → D → M D} {a b : CE} (ho : OkCmp op f) (ha : GE Kn k a) (hb : GE Kn k b) : GT Kn k (tCmpC op f a b) := by
  intro X W cb bs e h
  dsimp only [tCmpC, cCmp] at h
  split at h
  · simp only [Bool.and_eq_true, decide_eq_true_eq] at h
    obtain ⟨h1, h0, h2, h3⟩ := h
    subst h1
    obtain ⟨r, o1, o2⟩ := ho X bs.here
    refine PT.imp (pt_cmpR o1 (ha X W cb bs _ h2) (hb X W cb bs _ h3) (noSet_mark h0)) fun σ H Q q => ?_
    exact two o2 σ H _ (tested σ H Q q)
  · cases h
/-- an expression that is no and, or, not, if-else, comparison: as a test -/
def plainT : Expr → Bool
  | .UnaryOp .Not _ _ => false
  | .BoolOp _ _ _ => false
  | .IfExp _ _ _ _ => false
  | .Compare _ _ _ _ => false
  | _ => true
theorem plainT_eq {e : Expr} {env : PySem.Env} (h : plainT e = true) : ∀ whole, isTrue e env whole = (do let v ← whole; standAt e.pos; holding [v] (truthy v)) := by
  intro whole
  cases e with
  | UnaryOp op _ _ => cases op <;> first | rfl | cases h
  | _ => first | rfl | cases h
def tVal (a : CE) : CT := ⟨fun ρ => M.bnd (a.run ρ) asB, fun I e => plainT e && a.chk I e⟩
theorem g_tval {a : CE} (ha : GE Kn k a) : GT Kn k (tVal a) := by
  intro X W cb bs e h
  dsimp only [tVal] at h
  rw [Bool.and_eq_true] at h
  exact PT.imp (pt_val (ha X W cb bs e h.2) (plainT_eq h.1)) (tested)
def tNotC (a : CT) : CT := ⟨fun ρ => M.bnd (a.run ρ) fun b => M.ret (!b), fun I e => match e with
  | .UnaryOp .Not x _ => a.chk I x
  | _ => false⟩
theorem g_tnot {a : CT} (ha : GT Kn k a) : GT Kn k (tNotC a) := by
  intro X W cb bs e h
  dsimp only [tNotC] at h
  split at h
  · refine PT.imp (pt_not (ha X W cb bs _ h)) ?_
    rintro σ H Q ⟨α, ρ, μ, q, μ', g, run, aft⟩
    refine rd_seq g run aft fun d v α1 H1 μ1 g1 k1 r1 run1 aft1 => ?_
    cases r1
    exact rd_ret g1.s run1 aft1 rfl
  · cases h
def wAnd1 (a : CT) : CT := ⟨a.run, fun I e => match e with
  | .BoolOp .And [x] _ => a.chk I x
  | _ => false⟩
def wOr1 (a : CT) : CT := ⟨a.run, fun I e => match e with
  | .BoolOp .Or [x] _ => a.chk I x
  | _ => false⟩
def wAnd (a b : CT) : CT := ⟨fun ρ => M.bnd (a.run ρ) fun c => if c = true then b.run ρ else M.ret false, fun I e => match e with
  | .BoolOp .And (x :: y :: r) pos => a.chk I x && b.chk I (.BoolOp .And (y :: r) pos)
  | _ => false⟩
def wOr (a b : CT) : CT := ⟨fun ρ => M.bnd (a.run ρ) fun c => if c = true then M.ret true else b.run ρ, fun I e => match e with
  | .BoolOp .Or (x :: y :: r) pos => a.chk I x && b.chk I (.BoolOp .Or (y :: r) pos)
  | _ => false⟩
theorem g_and1 {a : CT} (ha : GT Kn k a) : GW Kn k (wAnd1 a) := by
  intro X W cb bs e h
  dsimp only [wAnd1] at h
  split at h
  · exact pw_and1 (ha X W cb bs _ h)
  · cases h
theorem g_or1 {a : CT} (ha : GT Kn k a) : GW Kn k (wOr1 a) := by
  intro X W cb bs e h
  dsimp only [wOr1] at h
  split at h
  · exact pw_or1 (ha X W cb bs _ h)
  · cases h
theorem g_and {a b : CT} (ha : GT Kn k a) (hb : GW Kn k b) : GW Kn k (wAnd a b) := by
  intro X W cb bs e h
  dsimp only [wAnd] at h
  split at h
  · rw [Bool.and_eq_true] at h
    refine PW.imp (pw_and (ha X W cb bs _ h.1) (hb X W cb bs _ h.2)) ?_
    rintro σ H Q ⟨α, ρ, μ, q, μ', g, run, aft⟩
    refine rd_seq g run aft fun d v α1 H1 μ1 g1 k1 r1 run1 aft1 => ?_
    subst r1
    cases d with
    | true => exact rd_in g1 run1 aft1
    | false => exact rd_ret g1.s run1 aft1 rfl
  · cases h
theorem g_or {a b : CT} (ha : GT Kn k a) (hb : GW Kn k b) : GW Kn k (wOr a b) := by
  intro X W cb bs e h
  dsimp only [wOr] at h
  split at h
  · rw [Bool.and_eq_true] at h
    refine PW.imp (pw_or (ha X W cb bs _ h.1) (hb X W cb bs _ h.2)) ?_
    rintro σ H Q ⟨α, ρ, μ, q, μ', g, run, aft⟩
    refine rd_seq g run aft fun d v α1 H1 μ1 g1 k1 r1 run1 aft1 => ?_
    subst r1
    cases d with
    | true => exact rd_ret g1.s run1 aft1 rfl
    | false => exact rd_in g1 run1 aft1
  · cases h
/-- a if t else b -/
def cIf (t : CT) (a b : CE) : CE := ⟨fun ρ => M.bnd (t.run ρ) fun c => if c = true then a.run ρ else b.run ρ, fun I e => match e with
  | .IfExp x y z _ => t.chk I x && (a.chk I y && b.chk I z)
  | _ => false⟩
theorem g_if {t : CT} {a b : CE} (ht : GT Kn k t) (ha : GE Kn k a) (hb : GE Kn k b) : GE Kn k (cIf t a b) := by
  intro X W cb bs e h
  dsimp only [cIf] at h
  split at h
  · simp only [Bool.and_eq_true] at h
    refine PE.imp (pe_ifExp (ht X W cb bs _ h.1) (ha X W cb bs _ h.2.1) (hb X W cb bs _ h.2.2)) ?_
    rintro σ H Q ⟨α, ρ, μ, q, μ', g, run, aft⟩
    refine rd_seq g run aft fun d v α1 H1 μ1 g1 k1 r1 run1 aft1 => ?_
    subst r1
    cases d with
    | true => exact rd_in g1 run1 aft1
    | false => exact rd_in g1 run1 aft1
  · cases h
/-- and, or as values (truths); one behind the other -/
def vOne (op : PySem.BoolOp) (a : CE) : CE := ⟨a.run, fun I e => match e with
  | .BoolOp o [x] _ => decide (o = op) && a.chk I x
  | _ => false⟩
def vAnd (a b : CE) : CE := ⟨fun ρ => M.bnd (M.bnd (a.run ρ) asB) fun c => if c = true then b.run ρ else M.ret (.bl false), fun I e => match e with
  | .BoolOp .And (x :: y :: r) pos => a.chk I x && b.chk I (.BoolOp .And (y :: r) pos)
  | _ => false⟩
def vOr (a b : CE) : CE := ⟨fun ρ => M.bnd (M.bnd (a.run ρ) asB) fun c => if c = true then M.ret (.bl true) else b.run ρ, fun I e => match e with
  | .BoolOp .Or (x :: y :: r) pos => a.chk I x && b.chk I (.BoolOp .Or (y :: r) pos)
  | _ => false⟩
theorem g_vone {op : PySem.BoolOp} {a : CE} (ha : GE Kn k a) : GE Kn k (vOne op a) := by
  intro X W cb bs e h
  dsimp only [vOne] at h
  split at h
  · rw [Bool.and_eq_true] at h
    exact pe_one (ha X W cb bs _ h.2)
  · cases h
theorem g_vand {a b : CE} (ha : GE Kn k a) (hb : GE Kn k b) : GE Kn k (vAnd a b) := by
  intro X W cb bs e h
  dsimp only [vAnd] at h
  split at h
  · rw [Bool.and_eq_true] at h
    refine PE.imp (pe_and (ha X W cb bs _ h.1) (hb X W cb bs _ h.2)) ?_
    rintro σ H Q ⟨α, ρ, μ, q, μ', g, run, aft⟩
    refine tested (K := X.K) (mg := X.mg) (W := W) (m := a.run) σ H (fun c H1 => if c = true then rdE X.K X.mg W b.run σ H1 Q else Q (.bl false) H1) ?_
    refine rd_seq g run aft fun d v α1 H1 μ1 g1 k1 r1 run1 aft1 => ?_
    subst r1
    cases d with
    | true => exact rd_in g1 run1 aft1
    | false => exact rd_ret g1.s run1 aft1 rfl
  · cases h
theorem g_vor {a b : CE} (ha : GE Kn k a) (hb : GE Kn k b) : GE Kn k (vOr a b) := by
  intro X W cb bs e h
  dsimp only [vOr] at h
  split at h
  · rw [Bool.and_eq_true] at h
    refine PE.imp (pe_or (ha X W cb bs _ h.1) (hb X W cb bs _ h.2)) ?_
    rintro σ H Q ⟨α, ρ, μ, q, μ', g, run, aft⟩
    refine tested (K := X.K) (mg := X.mg) (W := W) (m := a.run) σ H (fun c H1 => if c = true then Q (.bl true) H1 else rdE X.K X.mg W b.run σ H1 Q) ?_
    refine rd_seq g run aft fun d v α1 H1 μ1 g1 k1 r1 run1 aft1 => ?_
    subst r1
    cases d with
    | true => exact rd_ret g1.s run1 aft1 rfl
    | false => exact rd_in g1 run1 aft1
  · cases h
def vNot (a : CT) : CE := ⟨fun ρ => M.bnd (a.run ρ) fun b => M.ret (.bl (!b)), fun _ _ => false⟩
/-- not a, a truth, as a value -/
def cNot (a : CE) : CE := ⟨fun ρ => M.bnd (M.bnd (a.run ρ) asB) fun b => M.ret (.bl (!b)), fun I e => match e with
  | .UnaryOp .Not x _ => a.chk I x
  | _ => false⟩
theorem g_not {a : CE} (ha : GE Kn k a) : GE Kn k (cNot a) := by
  intro X W cb bs e h
  dsimp only [cNot] at h
  split at h
  · refine PE.imp (pe_not (ha X W cb bs _ h)) ?_
    rintro σ H Q ⟨α, ρ, μ, q, μ', g, run, aft⟩
    refine tested (K := X.K) (mg := X.mg) (W := W) (m := a.run) σ H (fun c H1 => Q (.bl (!c)) H1) ?_
    refine rd_seq g run aft fun d v α1 H1 μ1 g1 k1 r1 run1 aft1 => ?_
    subst r1
    exact rd_ret g1.s run1 aft1 rfl
  · cases h
/-- -a of a whole number -/
def negD : D → M D
  | .int i => M.ret (.int (-i))
  | _ => M.stop
def cNeg (a : CE) : CE := ⟨fun ρ => M.bnd (a.run ρ) negD, fun I e => match e with
  | .UnaryOp .USub x _ => a.chk I x
  | _ => false⟩
theorem g_neg {a : CE} (ha : GE Kn k a) : GE Kn k (cNeg a) := by
  intro X W cb bs e h
  dsimp only [cNeg] at h
  split at h
  · refine PE.imp (pe_un un_neg (ha X W cb bs _ h)) ?_
    rintro σ H Q ⟨α, ρ, μ, q, μ', g, run, aft⟩
    refine rd_seq g run aft fun d v α1 H1 μ1 g1 k1 r1 run1 aft1 => ?_
    cases d with
    | int i => exact ⟨i, r1, rd_ret g1.s run1 aft1 rfl⟩
    | _ => cases run1
  · cases h
/-- a op b op' c -/
def cChain (op op' : CmpOp) (f f' : D → D → M D) (a b c : CE) : CE := ⟨fun ρ => M.bnd (a.run ρ) fun x => M.bnd (b.run ρ) fun y => M.bnd (M.bnd (f x y) asB) fun t => if t = true then M.bnd (c.run ρ) fun z => f' y z else M.ret (.bl false), fun I e => match e with
  | .Compare l [o, o'] [m, r] _ => decide (o = op) && (decide (o' = op') && (noSet r && (a.chk I l && (b.chk I m && c.chk I r))))
  | _ => false⟩
theorem chained {X : Cx} {W : WX} {r r' : R2} {f f' : D → D → M D} {ra rb rc : Env → M D} (o2 : OpD X.K r f) (o2' : OpD X.K r' f') : ∀ σ H Q,
    rdE X.K X.mg W (fun ρ => M.bnd (ra ρ) fun x => M.bnd (rb ρ) fun y => M.bnd (M.bnd (f x y) asB) fun t => if t = true then M.bnd (rc ρ) fun z => f' y z else M.ret (.bl false)) σ H Q →
    tChain r r' (rdE X.K X.mg W ra) (rdE X.K X.mg W rb) (rdE X.K X.mg W rc) σ H Q := by
  rintro σ H Q ⟨α, ρ, μ, q, μ', g, run, aft⟩
  refine rd_seq g run aft fun d v α1 H1 μ1 g1 k1 r1 run1 aft1 => ?_
  refine rd_seq g1 run1 aft1 fun d2 v2 α2 H2 μ2 g2 k2 r2 run2 aft2 => ?_
  -- the first comparison
  unfold M.bnd at run2
  cases hf : M.bnd (f d d2) asB μ2 with
  | none =>
    unfold M.bnd at hf
    rw [hf] at run2
    cases run2
  | some p =>
    have hf' := hf
    unfold M.bnd at hf'
    rw [hf'] at run2
    cases hx : f d d2 μ2 with
    | none => rw [hx] at hf'; cases hf'
    | some pr =>
      obtain ⟨rx, μx⟩ := pr
      rw [hx] at hf'
      refine o2 X.mg (fun c dd H' => W c dd σ H') α2 H2 μ2 μx d d2 v v2 rx _ g2.s (r1.up k2) r2 hx ?_
      cases rx with
      | error x =>
        cases hf'
        cases run2
        exact aft2
      | ok dx =>
        intro α3 v3 H3 k3 s3 r3
        cases dx with
        | bl t =>
          cases hf'
          refine ⟨t, r3, ?_⟩
          cases t with
          | true =>
            rw [if_pos rfl]
            have g3 : Cfg X.K α3 H3 ρ σ μx := ⟨s3, g2.e.up k3⟩
            refine rd_seq g3 run2 (aft2.up k3) fun d4 v4 α4 H4 μ4 g4 k4 r4 run4 aft4 => ?_
            exact o2' X.mg _ α4 H4 μ4 μ' d2 d4 v2 v4 q Q g4.s (r2.up (k3.trans k4)) r4 run4 aft4
          | false =>
            rw [if_neg Bool.false_ne_true]
            exact rd_ret s3 run2 (aft2.up k3) rfl
        | _ => cases hf'
theorem marks2 {o o' : CmpOp} {m r : Expr} (h : noSet r = true) : lastMarks [o, o'] [m, r] = false := noSet_mark h
theorem g_chain {op op' : CmpOp} {f f' : D → D → M D} {a b c : CE} (ho : OkCmp op f) (ho' : OkCmp op' f') (ha : GE Kn k a) (hb : GE Kn k b) (hc : GE Kn k c) : GE Kn k (cChain op op' f f' a b c) := by
  intro X W cb bs e h
  dsimp only [cChain] at h
  split at h
  · simp only [Bool.and_eq_true, decide_eq_true_eq] at h
    obtain ⟨h1, h2, h0, h3, h4, h5⟩ := h
    subst h1 h2
    obtain ⟨r, o1, o2⟩ := ho X bs.here
    obtain ⟨r', o1', o2'⟩ := ho' X bs.here
    exact PE.imp (pe_chain o1 o1' (ha X W cb bs _ h3) (hb X W cb bs _ h4) (hc X W cb bs _ h5) (marks2 h0)) (chained o2 o2')
  · cases h
def tChainC (op op' : CmpOp) (f f' : D → D → M D) (a b c : CE) : CT := ⟨fun ρ => M.bnd ((cChain op op' f f' a b c).run ρ) asB, (cChain op op' f f' a b c).chk⟩
theorem g_tchain {op op' : CmpOp} {f f' : D → D → M D} {a b c : CE} (ho : OkCmp op f) (ho' : OkCmp op' f') (ha : GE Kn k a) (hb : GE Kn k b) (hc : GE Kn k c) : GT Kn k (tChainC op op' f f' a b c) := by
  intro X W cb bs e h
  dsimp only [tChainC, cChain] at h
  split at h
  · simp only [Bool.and_eq_true, decide_eq_true_eq] at h
    obtain ⟨h1, h2, h0, h3, h4, h5⟩ := h
    subst h1 h2
    obtain ⟨r, o1, o2⟩ := ho X bs.here
    obtain ⟨r', o1', o2'⟩ := ho' X bs.here
    exact PT.imp (pt_chain o1 o1' (ha X W cb bs _ h3) (hb X W cb bs _ h4) (hc X W cb bs _ h5) (marks2 h0)) fun σ H Q q => chained o2 o2' σ H _ (tested σ H Q q)
  · cases h
end
end Mi
/-! Mi, part C: operators, subscripts, built-ins. -/
namespace Mi
open PySem L2 PyProof.Rows
variable [Tb]

/-- a list of the store -/
def M.lst (l : Nat) : M (List D) := fun μ => match μ[l]? with
  | some (.lst ds) => some (.ok ds, μ)
  | _ => none
theorem lst_some {l : Nat} {μ : List O} {p : Except Ex (List D) × List O} (h : M.lst l μ = some p) : ∃ ds, μ[l]? = some (.lst ds) ∧ p = (.ok ds, μ) := by
  unfold M.lst at h
  cases e : μ[l]? with
  | none => rw [e] at h; cases h
  | some o =>
    rw [e] at h
    cases o with
    | lst ds => exact ⟨ds, rfl, (Option.some.inj h).symm⟩
    | dct _ => cases h
/-- the list at l, its address, its values -/
theorem lst_at {K : PySem.W.Frag} {α : List Addr} {H : Hp} {μ : List O} {l : Nat} {ds : List D} {x : V} (s : RepS K α H μ) (r : Rep K α H (.ref l) x) (h : μ[l]? = some (.lst ds)) :
    ∃ p vs, x = .ref p ∧ α[l]? = some p ∧ H p = some (.lst vs) ∧ Reps K α H ds vs := by
  obtain ⟨p, e, a⟩ := r
  obtain ⟨vs, h1, h2⟩ := s.at_ l _ p h a
  exact ⟨p, vs, e, a, h1, h2⟩
theorem bnd_lst {a : Type} {l : Nat} {μ μ' : List O} {f : List D → M a} {r : Except Ex a} (h : M.bnd (M.lst l) f μ = some (r, μ')) : ∃ ds, μ[l]? = some (.lst ds) ∧ f ds μ = some (r, μ') := by
  unfold M.bnd at h
  cases e : M.lst l μ with
  | none => rw [e] at h; cases h
  | some p =>
    obtain ⟨ds, h1, h2⟩ := lst_some e
    subst h2
    rw [e] at h
    exact ⟨ds, h1, h⟩
/-- a new tuple -/
theorem new_tup {K : PySem.W.Frag} {mg : Str → Option Value} {E : XK} {α : List Addr} {H : Hp} {μ μ' : List O} {ds : List D} {vs : List V} {r : Except Ex D} {Q : VK} (s : RepS K α H μ) (run : M.ret (D.tup ds) μ = some (r, μ'))
    (aft : Aft (Rep K) K mg E α H r μ' Q) (hv : Reps K α H ds vs) {p : Addr} (hp : H p = none) : Q (.ref p) (upd H p (.tup vs)) := by
  cases run
  exact aft α _ _ (Ext.lay hp) (s.lay hp) ⟨p, vs, rfl, SqT.of upd_same, hv.up (Ext.lay hp)⟩
/-- a new list of the store -/
def newL (ds : List D) : M D := if ds.length ≤ sizeLine then M.new (.lst ds) else M.stop
theorem newL_some {ds : List D} {μ : List O} {p : Except Ex D × List O} (h : newL ds μ = some p) : ds.length ≤ sizeLine ∧ M.new (.lst ds) μ = some p := by
  unfold newL at h
  split at h
  · exact ⟨by assumption, h⟩
  · cases h

/-! ### + - * // % ** -/
def addD : D → D → M D
  | .int i, .int j => M.ret (.int (i + j))
  | .str x, .str y => if x.length + y.length ≤ sizeLine then M.ret (.str (x ++ y)) else M.stop
  | .tup xs, .tup ys => if xs.length + ys.length ≤ sizeLine then M.ret (.tup (xs ++ ys)) else M.stop
  | .ref l, .ref m => M.bnd (M.lst l) fun xs => M.bnd (M.lst m) fun ys => newL (xs ++ ys)
  | _, _ => M.stop
abbrev rAddStr : R2 := fun x y H Q => ∃ i j, x = .str i ∧ y = .str j ∧ i.length + j.length ≤ sizeLine ∧ Q (.str (i ++ j)) H
theorem ok_add : OkBin .Add addD := by
  intro X _
  refine ⟨_, OpR.or (OpR.or op_add op_add_str) (OpR.or op_catA op_cat), ?_⟩
  intro mg E α H μ μ' d1 d2 x y q Q s r1 r2 run aft
  unfold addD at run
  split at run
  · exact .inl (.inl ⟨_, _, r1, r2, rd_ret s run aft rfl⟩)
  · split at run
    · rename_i hz
      exact .inl (.inr ⟨_, _, r1, r2, hz, rd_ret s run aft rfl⟩)
    · cases run
  · obtain ⟨p1, v1, e1, t1, w1⟩ := r1
    obtain ⟨p2, v2, e2, t2, w2⟩ := r2
    split at run
    · rename_i hz
      refine .inr (.inl ⟨p1, p2, v1, v2, e1, e2, t1, t2, by rw [w1.len, w2.len]; exact hz, fun z => ?_, fun z z2 => ?_, fun z z2 p hp => new_tup s run aft (w1.app w2) hp⟩)
      · subst z
        exact rd_ret s run aft ⟨p2, v2, rfl, t2, w1.app w2⟩
      · subst z2
        exact rd_ret s run aft ⟨p1, v1, rfl, t1, by simpa using w1.app w2⟩
    · cases run
  · obtain ⟨xs, h1, run⟩ := bnd_lst run
    obtain ⟨ys, h2, run⟩ := bnd_lst run
    obtain ⟨p1, v1, e1, a1, b1, c1⟩ := lst_at s r1 h1
    obtain ⟨p2, v2, e2, a2, b2, c2⟩ := lst_at s r2 h2
    obtain ⟨hz, run⟩ := newL_some run
    rw [List.length_append] at hz
    exact .inr (.inr ⟨p1, p2, v1, v2, e1, e2, b1, b2, by rw [c1.len, c2.len]; exact hz, fun p hp => new_lst s run aft (c1.app c2) hp⟩)
  · cases run
def subD : D → D → M D
  | .int i, .int j => M.ret (.int (i - j))
  | _, _ => M.stop
theorem ok_sub : OkBin .Sub subD := by
  intro X _
  refine ⟨_, op_sub, ?_⟩
  intro mg E α H μ μ' d1 d2 x y q Q s r1 r2 run aft
  unfold subD at run
  split at run
  · exact ⟨_, _, r1, r2, rd_ret s run aft rfl⟩
  · cases run
def mulOk (i j : Int) : Prop := ((-(2 ^ 64) < i ∧ i < 2 ^ 64) ∨ (-(2 ^ 64) < j ∧ j < 2 ^ 64)) ∨ i.natAbs.log2 + j.natAbs.log2 < 1000000
instance (i j : Int) : Decidable (mulOk i j) := by unfold mulOk; infer_instance
/-- a text so many times -/
def repS (x : Str) (n : Nat) : Str := ⟨(List.replicate n x.cps.toList).flatten.toArray⟩
theorem fold_app (cs : List Nat) : ∀ (n : Nat) (acc : Array Nat), ((List.replicate n cs.toArray).foldl (· ++ ·) acc) = (acc.toList ++ (List.replicate n cs).flatten).toArray
  | 0, acc => by simp
  | n + 1, acc => by
    rw [List.replicate_succ, List.foldl_cons, fold_app cs n]
    simp [List.replicate_succ]
def rMulS : R2 := fun x y H Q => ∃ z k, x = .str z ∧ y = .int k ∧ -(2 ^ 63) ≤ k ∧ k < 2 ^ 63 ∧ z.cps.toList.length * k.toNat ≤ sizeLine ∧ Q (.str (repS z k.toNat)) H
theorem op_mulS {X : Cx} : OpR X (binaryOp .Mult) rMulS := by
  intro pins s σ H x y v u Q I rx ry h
  obtain ⟨z, k, rfl, rfl, h1, h2, hz, q⟩ := h
  obtain ⟨t, rfl⟩ := rx
  obtain ⟨t2, rfl⟩ := ry
  obtain ⟨⟨cs⟩⟩ := z
  have e0 : (List.replicate k.toNat cs).flatten.length = cs.length * k.toNat := by
    rw [List.length_flatten, List.map_replicate, List.sum_replicate_nat, Nat.mul_comm]
  have hz : cs.length * k.toNat ≤ sizeLine := hz
  have fin : ∀ (a : Str), a = repS ⟨⟨cs⟩⟩ k.toNat → EP X pins σ Q (.str a s.toks) { s with toks := s.toks + 1 } := fun a e => by
    subst e
    exact ⟨.str (repS ⟨⟨cs⟩⟩ k.toNat), H, I.tok _, ⟨_, rfl⟩, q⟩
  refine PySem.P.mul_str (by rw [decide_eq_false (by omega), decide_eq_false (by omega)]; rfl) (fun hk _ => ?_) (fun hk _ => ?_) ?_
  · show ¬ (cs.length : Int) > _
    intro g
    have k0 : 0 < k := by omega
    have kk : ((k.toNat : Nat) : Int) = k := by omega
    have g2 : (2 ^ 63 - 1 : Int) / k < cs.length := g
    rw [Int.ediv_lt_iff_lt_mul k0] at g2
    have : ((cs.length * k.toNat : Nat) : Int) ≤ sizeLine := by exact_mod_cast hz
    rw [Int.natCast_mul, kk, sizeLine_eq] at this
    omega
  · show Builtin.Str.tooLong (cs.length * k.toNat) = false
    unfold Builtin.Str.tooLong
    exact decide_eq_false (by omega)
  · by_cases hk : k < 1
    · rw [if_pos hk]
      refine ⟨by show 0 ≤ sizeLine; omega, fin _ ?_⟩
      have : k.toNat = 0 := by omega
      rw [this]; rfl
    · rw [if_neg hk]
      by_cases hb : (k == 1 || (⟨⟨cs⟩⟩ : Str).length == 0) = true
      · rw [if_pos hb]
        refine ⟨.str ⟨⟨cs⟩⟩, H, I, ⟨t, rfl⟩, ?_⟩
        have : repS ⟨⟨cs⟩⟩ k.toNat = ⟨⟨cs⟩⟩ := by
          rcases Bool.or_eq_true_iff.mp hb with z | z
          · have : k.toNat = 1 := by have := beq_iff_eq.mp z; omega
            rw [this]
            simp [repS]
          · have : cs = [] := List.eq_nil_of_length_eq_zero (beq_iff_eq.mp z)
            subst this
            simp [repS]
        rw [this] at q
        exact q
      · rw [if_neg hb]
        have e := fold_app cs k.toNat #[]
        refine ⟨?_, fin _ ?_⟩
        · show ((List.replicate k.toNat cs.toArray).foldl (· ++ ·) #[]).size ≤ sizeLine
          rw [e]
          simp only [List.nil_append, List.size_toArray]
          rw [e0]; exact hz
        · exact congrArg Str.mk (e.trans (by rfl))
def mulD : D → D → M D
  | .int i, .int j => if mulOk i j then M.ret (.int (i * j)) else M.stop
  | .ref l, .int k => M.bnd (M.lst l) fun xs => if -(2 ^ 63) ≤ k ∧ k < 2 ^ 63 then newL (List.replicate k.toNat xs).flatten else M.stop
  | .str x, .int k => if -(2 ^ 63) ≤ k ∧ k < 2 ^ 63 ∧ x.cps.toList.length * k.toNat ≤ sizeLine then M.ret (.str (repS x k.toNat)) else M.stop
  | _, _ => M.stop
theorem Reps.rep {K : PySem.W.Frag} {α : List Addr} {H : Hp} {ds : List D} {vs : List V} (h : Reps K α H ds vs) : ∀ k : Nat, Reps K α H (List.replicate k ds).flatten (List.replicate k vs).flatten
  | 0 => rfl
  | k + 1 => by
    rw [List.replicate_succ, List.replicate_succ, List.flatten_cons, List.flatten_cons]
    exact h.app (Reps.rep h k)
theorem flat_len {a : Type} (xs : List a) (k : Nat) : (List.replicate k xs).flatten.length = xs.length * k := by
  rw [List.length_flatten, List.map_replicate, List.sum_replicate_nat, Nat.mul_comm]
theorem ok_mul : OkBin .Mult mulD := by
  intro X _
  refine ⟨_, OpR.or (OpR.or op_mul op_mulW) (OpR.or op_rep op_mulS), ?_⟩
  intro mg E α H μ μ' d1 d2 x y q Q s r1 r2 run aft
  unfold mulD at run
  split at run
  · split at run
    · rename_i hm
      rcases hm with hm | hm
      · exact .inl (.inl ⟨_, _, r1, r2, hm, rd_ret s run aft rfl⟩)
      · exact .inl (.inr ⟨_, _, r1, r2, hm, rd_ret s run aft rfl⟩)
    · cases run
  · obtain ⟨xs, h1, run⟩ := bnd_lst run
    obtain ⟨p1, v1, e1, a1, b1, c1⟩ := lst_at s r1 h1
    split at run
    · rename_i hk
      obtain ⟨hz, run⟩ := newL_some run
      refine .inr (.inl ⟨p1, _, v1, e1, r2, b1, hk.1, hk.2, ?_, fun p hp => new_lst s run aft (c1.rep _) hp⟩)
      rw [flat_len] at hz
      rw [c1.len]
      exact hz
    · cases run
  · split at run
    · rename_i hk
      exact .inr (.inr ⟨_, _, r1, r2, hk.1, hk.2.1, hk.2.2, rd_ret s run aft rfl⟩)
    · cases run
  · cases run
def divOk (j : Int) : Prop := j ≠ 0
instance (j : Int) : Decidable (divOk j) := by unfold divOk; infer_instance
def fdivD : D → D → M D
  | .int i, .int j => if divOk j then M.ret (.int (i.fdiv j)) else M.stop
  | _, _ => M.stop
theorem Here.pylong {X : Cx} (h : Here X) {pins : List (Addr × Obj)} {σ : L2.St} {H : Hp} {s : Shared} (I : Inv X pins σ H s) : PySem.PylongRoom (model X.prog X.w) X.A s := by
  obtain ⟨env, l, h1, h2, h3, h4, h5⟩ := h.top
  have fr : X.A.frames = some (env :: l) := by rw [I.ok.frames, h1]
  refine PySem.PylongRoom.of I.nolimit ?_ (PySem.SeerAt.of (h.sy.s.keeps I.bk) h.sy.t fr h2 h3 h4 h5)
  have := h.big
  show X.A.depth + 100 < recursionLimit
  omega
theorem op_fdivB {X : Cx} (h : Here X) : OpR X (binaryOp .FloorDiv) (rI (fun _ j => divOk j) fun i j => .int (i.fdiv j)) := by
  intro pins s σ H x y v u Q I rx ry hh
  obtain ⟨i, j, rfl, rfl, hc, q⟩ := hh
  obtain ⟨t, rfl⟩ := rx
  obtain ⟨t2, rfl⟩ := ry
  exact floordiv_int hc ⟨.int (i.fdiv j), H, I.tok _, ⟨_, rfl⟩, q⟩ (.inr (h.pylong I))
theorem ok_fdiv : OkBin .FloorDiv fdivD := by
  intro X hx
  refine ⟨_, op_fdivB hx, ?_⟩
  intro mg E α H μ μ' d1 d2 x y q Q s r1 r2 run aft
  unfold fdivD at run
  split at run
  · split at run
    · rename_i hm
      exact ⟨_, _, r1, r2, hm, rd_ret s run aft rfl⟩
    · cases run
  · cases run
def modD : D → D → M D
  | .int i, .int j => if j ≠ 0 then M.ret (.int (i.fmod j)) else M.stop
  | _, _ => M.stop
theorem ok_mod : OkBin .Mod modD := by
  intro X _
  refine ⟨_, op_modN, ?_⟩
  intro mg E α H μ μ' d1 d2 x y q Q s r1 r2 run aft
  unfold modD at run
  split at run
  · split at run
    · rename_i hm
      exact ⟨_, _, r1, r2, hm, rd_ret s run aft rfl⟩
    · cases run
  · cases run
def powOk (i j : Int) : Prop := 0 ≤ j ∧ ((j ≤ 1000000 ∧ i.natAbs < 2 ^ 64) ∨ (Builtin.Int.intBits i : Int) * j ≤ 2 ^ 27)
instance (i j : Int) : Decidable (powOk i j) := by unfold powOk; infer_instance
def powD : D → D → M D
  | .int i, .int j => if powOk i j then M.ret (.int (i ^ j.toNat)) else M.stop
  | _, _ => M.stop
theorem op_powB {X : Cx} : OpR X (binaryOp .Pow) (rI powOk fun i j => .int (i ^ j.toNat)) := opI fun i j _ _ _ _ _ hc q => by
  rcases hc.2 with h | h
  · exact pow_int_small hc.1 h.1 h.2 q
  · exact pow_int hc.1 h q
theorem ok_pow : OkBin .Pow powD := by
  intro X _
  refine ⟨_, op_powB, ?_⟩
  intro mg E α H μ μ' d1 d2 x y q Q s r1 r2 run aft
  unfold powD at run
  split at run
  · split at run
    · rename_i hm
      exact ⟨_, _, r1, r2, hm, rd_ret s run aft rfl⟩
    · cases run
  · cases run

/-! ### comparisons -/
def ltD : D → D → M D
  | .int i, .int j => M.ret (.bl (decide (i < j)))
  | _, _ => M.stop
def leD : D → D → M D
  | .int i, .int j => M.ret (.bl (decide (i ≤ j)))
  | _, _ => M.stop
def gtD : D → D → M D
  | .int i, .int j => M.ret (.bl (decide (j < i)))
  | _, _ => M.stop
def geD : D → D → M D
  | .int i, .int j => M.ret (.bl (decide (j ≤ i)))
  | _, _ => M.stop
theorem cmp_int {op : CmpOp} {f : D → D → M D} {g : Int → Int → Bool} (h : ∀ X : Cx, OpR X (compareOp op) (rI0 fun i j => .bl (g i j))) (hf : ∀ i j, f (.int i) (.int j) = M.ret (.bl (g i j)))
    (hn : ∀ d e, (∀ i j, ¬ (d = .int i ∧ e = .int j)) → f d e = M.stop) : OkCmp op f := by
  intro X _
  refine ⟨_, h X, ?_⟩
  intro mg E α H μ μ' d1 d2 x y q Q s r1 r2 run aft
  by_cases z : ∃ i j, d1 = .int i ∧ d2 = .int j
  · obtain ⟨i, j, rfl, rfl⟩ := z
    rw [hf] at run
    exact ⟨i, j, r1, r2, rd_ret s run aft rfl⟩
  · rw [hn d1 d2 fun i j w => z ⟨i, j, w⟩] at run
    cases run
theorem ok_lt : OkCmp .Lt ltD := cmp_int (g := fun i j => decide (i < j)) (fun _ => op_lt) (fun _ _ => rfl) fun d e h => by
  unfold ltD; split
  · exact (h _ _ ⟨rfl, rfl⟩).elim
  · rfl
theorem ok_le : OkCmp .LtE leD := cmp_int (g := fun i j => decide (i ≤ j)) (fun _ => op_le) (fun _ _ => rfl) fun d e h => by
  unfold leD; split
  · exact (h _ _ ⟨rfl, rfl⟩).elim
  · rfl
theorem ok_gt : OkCmp .Gt gtD := cmp_int (g := fun i j => decide (j < i)) (fun _ => op_gt) (fun _ _ => rfl) fun d e h => by
  unfold gtD; split
  · exact (h _ _ ⟨rfl, rfl⟩).elim
  · rfl
theorem ok_ge : OkCmp .GtE geD := cmp_int (g := fun i j => decide (j ≤ i)) (fun _ => op_ge) (fun _ _ => rfl) fun d e h => by
  unfold geD; split
  · exact (h _ _ ⟨rfl, rfl⟩).elim
  · rfl
/-- x is None -/
def isNone : D → Bool
  | .non => true
  | _ => false
theorem isNone_rep {K : PySem.W.Frag} {α : List Addr} {H : Hp} {d : D} {v : V} (r : Rep K α H d v) : decide (v = .non) = isNone d := by
  cases d with
  | non => exact decide_eq_true r
  | bl b => cases (show v = .bl b from r); rfl
  | int b => cases (show v = .int b from r); rfl
  | str b => cases (show v = .str b from r); rfl
  | tup ds => obtain ⟨p, vs, e, _⟩ := r; cases e; rfl
  | fro ds => obtain ⟨p, vs, e, _⟩ := r; cases e; rfl
  | ref l => obtain ⟨p, e, _⟩ := r; cases e; rfl
def isD : D → D → M D
  | d, .non => M.ret (.bl (isNone d))
  | _, _ => M.stop
def isnD : D → D → M D
  | d, .non => M.ret (.bl (!isNone d))
  | _, _ => M.stop
theorem ok_is : OkCmp .Is isD := by
  intro X _
  refine ⟨_, op_isN, ?_⟩
  intro mg E α H μ μ' d1 d2 x y q Q s r1 r2 run aft
  cases d2 with
  | non => exact ⟨r2, by rw [isNone_rep r1]; exact rd_ret s run aft rfl⟩
  | _ => cases run
theorem ok_isn : OkCmp .IsNot isnD := by
  intro X _
  refine ⟨_, op_notN, ?_⟩
  intro mg E α H μ μ' d1 d2 x y q Q s r1 r2 run aft
  cases d2 with
  | non => exact ⟨r2, by rw [isNone_rep r1]; exact rd_ret s run aft rfl⟩
  | _ => cases run

/-! ### what is seen of data in full -/
def seeL (f : D → Option PyData) : List D → Option (List PyData)
  | [] => some []
  | d :: r => match f d, seeL f r with
    | some a, some b => some (a :: b)
    | _, _ => none
def keyP : Key → PyData
  | .inl i => .int i
  | .inr x => .str x
def seeK (f : D → Option PyData) : List (Key × D) → Option (List (PyData × PyData))
  | [] => some []
  | (k, d) :: r => match f d, seeK f r with
    | some a, some b => some ((keyP k, a) :: b)
    | _, _ => none
def see (μ : List O) : Nat → D → Option PyData
  | 0, _ => none
  | _ + 1, .non => some .none
  | _ + 1, .bl b => some (.bool b)
  | _ + 1, .int i => some (.int i)
  | _ + 1, .str x => some (.str x)
  | n + 1, .tup ds => (seeL (see μ n) ds).map .tuple
  | n + 1, .fro ds => none
  | n + 1, .ref l => match μ[l]? with
    | some (.lst ds) => (seeL (see μ n) ds).map .list
    | some (.dct kvs) => (seeK (see μ n) kvs).map .dict
    | none => none
section
variable {X : Cx} {pins : List (Addr × Obj)} {σ : L2.St} {H : Hp} {s : Shared} {α : List Addr} {μ : List O}
theorem no_sys (I : Inv X pins σ H s) (hb : ∃ o, X.base.get? sysModules = some o) {p : Addr} {u : HO} (h : H p = some u) : p ≠ sysModules := fun z => by
  obtain ⟨o, e⟩ := hb
  have := (I.bs _ _ e).2
  rw [← z, h] at this
  cases this
theorem seeL_reads {f : D → Option PyData} (ih : ∀ d p v u, f d = some p → Rep X.K α H d v → RelV v u → ∃ as, Reads s.heap u p as ∧ sysModules ∉ as) :
    ∀ (ds : List D) ps vs us, seeL f ds = some ps → Reps X.K α H ds vs → Vals vs us → ∃ as, ReadsAll s.heap us ps as ∧ sysModules ∉ as
  | [], ps, vs, us, h, r, w => by
    have e : vs = [] := r
    subst e
    cases w
    cases h
    exact ⟨[], .nil, by simp⟩
  | d :: ds, ps, vs, us, h, ⟨v, vr, e, r1, r2⟩, w => by
    subst e
    cases w with
    | cons w1 w2 =>
      unfold seeL at h
      cases e1 : f d with
      | none => rw [e1] at h; cases h
      | some a =>
        cases e2 : seeL f ds with
        | none => rw [e1, e2] at h; cases h
        | some b =>
          rw [e1, e2] at h
          cases h
          obtain ⟨as, q1, n1⟩ := ih d a v _ e1 r1 w1
          obtain ⟨bs, q2, n2⟩ := seeL_reads ih ds b vr _ e2 r2 w2
          exact ⟨as ++ bs, .cons q1 q2, by simp [n1, n2]⟩
theorem seeK_reads {knd : PySem.KeyKind X.prog X.w Key} (hk : ∀ k v, knd.is k v = keyIs k v) {f : D → Option PyData} (ih : ∀ d p v u, f d = some p → Rep X.K α H d v → RelV v u → ∃ as, Reads s.heap u p as ∧ sysModules ∉ as) :
    ∀ (es : List DictEntry) (ks : List (Key × D)) ps ws vs, seeK f ks = some ps → RepKv X.K α H ks ws → KV ws vs → PySem.Pairs knd es vs →
      (∃ as, ReadsAll s.heap (es.map (·.key)) (ps.map (·.1)) as ∧ sysModules ∉ as) ∧ ∃ bs, ReadsAll s.heap (es.map (·.val)) (ps.map (·.2)) bs ∧ sysModules ∉ bs := by
  intro es
  induction es with
  | nil =>
    intro ks ps ws vs h r w P
    cases P
    cases w
    cases ks with
    | nil =>
      cases h
      exact ⟨⟨[], .nil, by simp⟩, [], .nil, by simp⟩
    | cons k ks =>
      obtain ⟨k, d⟩ := k
      obtain ⟨v, s', e, _⟩ := r
      cases e
  | cons en es ih2 =>
    intro ks ps ws vs h r w P
    cases P with
    | cons hkey hval hP =>
      cases w with
      | cons w1 w2 =>
        cases ks with
        | nil =>
          have e : _ = ([] : List (Key × V)) := r
          cases e
        | cons k ks =>
          obtain ⟨k, d⟩ := k
          obtain ⟨v, s', e, r1, r2⟩ := r
          cases e
          unfold seeK at h
          cases e1 : f d with
          | none => rw [e1] at h; cases h
          | some a =>
            cases e2 : seeK f ks with
            | none => rw [e1, e2] at h; cases h
            | some b =>
              rw [e1, e2] at h
              cases h
              obtain ⟨⟨as, q1, n1⟩, bs, q2, n2⟩ := ih2 ks b _ _ e2 r2 w2 hP
              obtain ⟨cs, q3, n3⟩ := ih d a v _ e1 r1 w1.2
              rw [hk, ← w1.1] at hkey
              have qk : Reads s.heap en.key (keyP k) [] := by
                rcases keyIs_shape hkey with ⟨i, t, z1, z2⟩ | ⟨i, t, z1, z2⟩
                · have z1' : k = Sum.inl i := z1
                  rw [z2, z1']
                  exact .int i t
                · have z1' : k = Sum.inr i := z1
                  rw [z2, z1']
                  exact .str i t
              refine ⟨⟨[] ++ as, .cons qk q1, by simpa using n1⟩, cs ++ bs, ?_, by simp [n2, n3]⟩
              rw [List.map_cons, List.map_cons]
              refine .cons ?_ q2
              rw [hval]
              exact q3
theorem see_reads (I : Inv X pins σ H s) (hb : ∃ o, X.base.get? sysModules = some o) (sS : RepS X.K α H μ) : ∀ (n : Nat) d p v u, see μ n d = some p → Rep X.K α H d v → RelV v u → ∃ as, Reads s.heap u p as ∧ sysModules ∉ as
  | 0, d, p, v, u, h, _, _ => by cases h
  | n + 1, d, p, v, u, h, r, w => by
    have ih := see_reads I hb sS n
    cases d with
    | non =>
      cases h
      cases (show v = .non from r)
      cases (show u = Value.none from w)
      exact ⟨[], .none, by simp⟩
    | bl b =>
      cases h
      cases (show v = .bl b from r)
      cases (show u = Value.bool b from w)
      exact ⟨[], .bool b, by simp⟩
    | int i =>
      cases h
      cases (show v = .int i from r)
      obtain ⟨t, e⟩ := (show ∃ t, u = Value.int i t from w)
      cases e
      exact ⟨[], .int i t, by simp⟩
    | str i =>
      cases h
      cases (show v = .str i from r)
      obtain ⟨t, e⟩ := (show ∃ t, u = Value.str i t from w)
      cases e
      exact ⟨[], .str i t, by simp⟩
    | tup ds =>
      obtain ⟨p1, vs, e, t, r2⟩ := r
      subst e
      cases (show u = Value.ref p1 from w)
      have h' : (seeL (see μ n) ds).map PyData.tuple = some p := h
      cases e1 : seeL (see μ n) ds with
      | none => rw [e1] at h'; cases h'
      | some ps =>
        rw [e1] at h'
        cases h'
        obtain ⟨its, rv, ht, _⟩ := I.tuple t
        obtain ⟨o, h1, h2, m, h3⟩ := ht
        obtain ⟨as, q1, n1⟩ := seeL_reads ih ds ps vs its e1 r2 rv
        exact ⟨as, .tuple h1 h2 h3 (by simpa using q1), n1⟩
    | fro ds => cases h
    | ref l =>
      obtain ⟨p1, e, a⟩ := r
      subst e
      cases (show u = Value.ref p1 from w)
      obtain ⟨o, h1, h2⟩ := sS.there a
      cases o with
      | lst ds =>
        obtain ⟨vs, hp, r2⟩ := h2
        have h' : (seeL (see μ n) ds).map PyData.list = some p := by
          unfold see at h
          rw [h1] at h
          exact h
        cases e1 : seeL (see μ n) ds with
        | none => rw [e1] at h'; cases h'
        | some ps =>
          rw [e1] at h'
          cases h'
          obtain ⟨_, its, m, rv, e3⟩ := (show ObjOk X.prog X.w H s.heap p1 (.lst vs) from I.hok p1 _ hp)
          obtain ⟨as, q1, n1⟩ := seeL_reads ih ds ps vs its e1 r2 rv
          exact ⟨p1 :: as, .list e3 rfl rfl (by simpa using q1), by
            have := no_sys I hb hp
            simp [n1, Ne.symm this]⟩
      | dct ks =>
        obtain ⟨ws, hp, r2⟩ := h2
        have h' : (seeK (see μ n) ks).map PyData.dict = some p := by
          unfold see at h
          rw [h1] at h
          exact h
        cases e1 : seeK (see μ n) ks with
        | none => rw [e1] at h'; cases h'
        | some ps =>
          rw [e1] at h'
          cases h'
          obtain ⟨_, _, vs, rv, o, es, ep, e3, e4, e5, _, P, _⟩ := (show ObjOk X.prog X.w H s.heap p1 (.dK ws) from I.hok p1 _ hp)
          obtain ⟨⟨as, q1, n1⟩, bs, q2, n2⟩ := seeK_reads (knd := mixKind X.prog X.w) (fun _ _ => rfl) ih es.toList ks ps ws vs e1 r2 rv P
          exact ⟨p1 :: as ++ bs, .dict e3 e4.1 e5 (by simpa using q1) (by simpa using q2), by
            have := no_sys I hb hp
            simp [n1, n2, Ne.symm this]⟩
end
/-- == of any data without dicts -/
def eqvD (neg : Bool) (d e : D) : M D := fun μ => match see μ 65 d, see μ 65 e with
  | some a, some b => if SeqAt.shaped a = true ∧ SeqAt.shaped b = true then some (.ok (.bl (if neg then !PyData.eqv a b else PyData.eqv a b)), μ) else none
  | _, _ => none
def rEqS (X : Cx) (neg : Bool) : R2 := fun x y H Q => ∃ α μ d e, RepS X.K α H μ ∧ Rep X.K α H d x ∧ Rep X.K α H e y ∧ ∃ a b, see μ 65 d = some a ∧ see μ 65 e = some b ∧ SeqAt.shaped a = true ∧ SeqAt.shaped b = true ∧ Q (.bl (if neg then !PyData.eqv a b else PyData.eqv a b)) H
theorem op_eqS {X : Cx} (h : Here X) : OpR X (compareOp .Eq) (rEqS X false) := by
  intro pins s σ H x y v u Q I rx ry h'
  obtain ⟨α, μ, d, e, sS, r1, r2, a, b, e1, e2, s1, s2, q⟩ := h'
  obtain ⟨as, q1, _⟩ := see_reads I h.sys sS 65 d a x v e1 r1 rx
  obtain ⟨bs, q2, _⟩ := see_reads I h.sys sS 65 e b y u e2 r2 ry
  exact SeqAt.compareEq_shaped q1 q2 s1 s2 h.room.units ⟨.bl _, H, I, rfl, q⟩
theorem op_neS {X : Cx} (h : Here X) : OpR X (compareOp .NotEq) (rEqS X true) := by
  intro pins s σ H x y v u Q I rx ry h'
  obtain ⟨α, μ, d, e, sS, r1, r2, a, b, e1, e2, s1, s2, q⟩ := h'
  obtain ⟨as, q1, _⟩ := see_reads I h.sys sS 65 d a x v e1 r1 rx
  obtain ⟨bs, q2, _⟩ := see_reads I h.sys sS 65 e b y u e2 r2 ry
  exact SeqAt.compareNe_shaped q1 q2 s1 s2 h.room.units ⟨.bl _, H, I, rfl, q⟩
def eqD : D → D → M D
  | .int i, .int j => M.ret (.bl (decide (i = j)))
  | .str i, .str j => M.ret (.bl (decide (i = j)))
  | .bl i, .bl j => M.ret (.bl (decide (i = j)))
  | d, e => eqvD false d e
def neD : D → D → M D
  | .int i, .int j => M.ret (.bl (!decide (i = j)))
  | .str i, .str j => M.ret (.bl (!decide (i = j)))
  | .bl i, .bl j => M.ret (.bl (!decide (i = j)))
  | d, e => eqvD true d e
theorem eqv_run {X : Cx} {neg : Bool} {mg : Str → Option Value} {E : XK} {α : List Addr} {H : Hp} {μ μ' : List O} {d1 d2 : D} {x y : V} {q : Except Ex D} {Q : VK} (s : RepS X.K α H μ) (r1 : Rep X.K α H d1 x) (r2 : Rep X.K α H d2 y)
    (run : eqvD neg d1 d2 μ = some (q, μ')) (aft : Aft (Rep X.K) X.K mg E α H q μ' Q) : rEqS X neg x y H Q := by
  unfold eqvD at run
  cases e1 : see μ 65 d1 with
  | none => rw [e1] at run; cases run
  | some a =>
    cases e2 : see μ 65 d2 with
    | none => rw [e1, e2] at run; cases run
    | some b =>
      rw [e1, e2] at run
      dsimp only at run
      split at run
      · rename_i hs
        exact ⟨α, μ, d1, d2, s, r1, r2, a, b, e1, e2, hs.1, hs.2, rd_ret s run aft rfl⟩
      · cases run
theorem ok_eq : OkCmp .Eq eqD := by
  intro X hx
  refine ⟨_, OpR.or op_eq (op_eqS hx), ?_⟩
  intro mg E α H μ μ' d1 d2 x y q Q s r1 r2 run aft
  unfold eqD at run
  split at run
  · cases (show x = .int _ from r1); cases (show y = .int _ from r2)
    exact .inl ⟨rfl, rd_ret s run aft (by show V.bl _ = V.bl _; simp)⟩
  · cases (show x = .str _ from r1); cases (show y = .str _ from r2)
    exact .inl ⟨rfl, rd_ret s run aft (by show V.bl _ = V.bl _; simp)⟩
  · cases (show x = .bl _ from r1); cases (show y = .bl _ from r2)
    exact .inl ⟨rfl, rd_ret s run aft (by show V.bl _ = V.bl _; simp)⟩
  · exact .inr (eqv_run s r1 r2 run aft)
theorem ok_ne : OkCmp .NotEq neD := by
  intro X hx
  refine ⟨_, OpR.or op_ne (op_neS hx), ?_⟩
  intro mg E α H μ μ' d1 d2 x y q Q s r1 r2 run aft
  unfold neD at run
  split at run
  · cases (show x = .int _ from r1); cases (show y = .int _ from r2)
    exact .inl ⟨rfl, rd_ret s run aft (by show V.bl _ = V.bl _; simp)⟩
  · cases (show x = .str _ from r1); cases (show y = .str _ from r2)
    exact .inl ⟨rfl, rd_ret s run aft (by show V.bl _ = V.bl _; simp)⟩
  · cases (show x = .bl _ from r1); cases (show y = .bl _ from r2)
    exact .inl ⟨rfl, rd_ret s run aft (by show V.bl _ = V.bl _; simp)⟩
  · exact .inr (eqv_run s r1 r2 run aft)

/-! ### dicts of the store -/
def valD (kvs : List (Key × D)) (k : Key) : Option D := (kvs.find? fun kv => decide (kv.1 = k)).map (·.2)
/-- a dict's put -/
def putKD (kvs : List (Key × D)) (k : Key) (v : D) : List (Key × D) :=
  if (kvs.any fun kv => decide (kv.1 = k)) = true then kvs.map (fun kv => if kv.1 = k then (kv.1, v) else kv) else kvs ++ [(k, v)]
def keyD : D → Option Key
  | .int i => some (.inl i)
  | .str x => some (.inr x)
  | _ => none
theorem key_rep {K : PySem.W.Frag} {α : List Addr} {H : Hp} {d : D} {v : V} {kk : Key} (r : Rep K α H d v) (h : keyD d = some kk) : v = kV kk := by
  cases d with
  | int i => cases h; exact r
  | str i => cases h; exact r
  | _ => cases h
section
variable {K : PySem.W.Frag} {α : List Addr} {H : Hp}
theorem RepKv.len : ∀ {ds : List (Key × D)} {ws : List (Key × V)}, RepKv K α H ds ws → ws.length = ds.length
  | [], _, h => by
    have e : _ = ([] : List (Key × V)) := h
    rw [e]; rfl
  | (k, d) :: ds, _, ⟨v, r, e, a, b⟩ => by rw [e, List.length_cons, List.length_cons, RepKv.len b]
theorem RepKv.val : ∀ {ds : List (Key × D)} {ws : List (Key × V)} (k : Key), RepKv K α H ds ws → match valD ds k with
    | some d => ∃ v, valV ws k = some v ∧ Rep K α H d v
    | none => valV ws k = none
  | [], _, k, h => by
    have e : _ = ([] : List (Key × V)) := h
    rw [e]; rfl
  | (j, d) :: ds, _, k, ⟨v, r, e, a, b⟩ => by
    subst e
    by_cases h : j = k
    · have e1 : valD ((j, d) :: ds) k = some d := by simp [valD, List.find?_cons, h]
      rw [e1]
      exact ⟨v, valV_pos (p := (j, v)) h, a⟩
    · have e1 : valD ((j, d) :: ds) k = valD ds k := by simp [valD, List.find?_cons, h]
      rw [e1, valV_neg (p := (j, v)) h]
      exact RepKv.val k b
theorem RepKv.some_ {ds : List (Key × D)} {ws : List (Key × V)} {k : Key} {d : D} (h : RepKv K α H ds ws) (e : valD ds k = some d) : ∃ v, valV ws k = some v ∧ Rep K α H d v := by
  have := h.val k
  rw [e] at this
  exact this
theorem RepKv.none_ {ds : List (Key × D)} {ws : List (Key × V)} {k : Key} (h : RepKv K α H ds ws) (e : valD ds k = none) : valV ws k = none := by
  have := h.val k
  rw [e] at this
  exact this
theorem RepKv.any : ∀ {ds : List (Key × D)} {ws : List (Key × V)} (k : Key), RepKv K α H ds ws → (ws.any fun kv => decide (kv.1 = k)) = ds.any fun kv => decide (kv.1 = k)
  | [], _, k, h => by
    have e : _ = ([] : List (Key × V)) := h
    rw [e]; rfl
  | (j, d) :: ds, _, k, ⟨v, r, e, a, b⟩ => by
    subst e
    rw [List.any_cons, List.any_cons, RepKv.any k b]
theorem RepKv.app : ∀ {ds es : List (Key × D)} {ws us : List (Key × V)}, RepKv K α H ds ws → RepKv K α H es us → RepKv K α H (ds ++ es) (ws ++ us)
  | [], _, _, _, h, h2 => by
    have e : _ = ([] : List (Key × V)) := h
    rw [e]; exact h2
  | (j, d) :: ds, _, _, _, ⟨v, r, e, a, b⟩, h2 => ⟨v, r ++ _, by rw [e]; rfl, a, RepKv.app b h2⟩
theorem RepKv.repl : ∀ {ds : List (Key × D)} {ws : List (Key × V)} (k : Key) {d : D} {v : V}, RepKv K α H ds ws → Rep K α H d v → RepKv K α H (ds.map fun kv => if kv.1 = k then (kv.1, d) else kv) (ws.map fun kv => if kv.1 = k then (kv.1, v) else kv)
  | [], _, _, _, _, h, _ => by
    have e : _ = ([] : List (Key × V)) := h
    rw [e]; exact rfl
  | (j, d0) :: ds, _, k, d, v, ⟨v0, r, e, a, b⟩, h2 => by
    subst e
    rw [List.map_cons, List.map_cons]
    by_cases h : j = k
    · rw [if_pos h, if_pos h]
      exact ⟨v, _, rfl, h2, RepKv.repl k b h2⟩
    · rw [if_neg h, if_neg h]
      exact ⟨v0, _, rfl, a, RepKv.repl k b h2⟩
theorem RepKv.put {ds : List (Key × D)} {ws : List (Key × V)} (k : Key) {d : D} {v : V} (h : RepKv K α H ds ws) (r : Rep K α H d v) : RepKv K α H (putKD ds k d) (putK ws k v) := by
  unfold putKD putK
  rw [h.any k]
  split
  · exact h.repl k r
  · exact h.app ⟨v, [], rfl, r, rfl⟩
theorem dct_at {μ : List O} {l : Nat} {kvs : List (Key × D)} {x : V} (s : RepS K α H μ) (r : Rep K α H (.ref l) x) (h : μ[l]? = some (.dct kvs)) : ∃ p ws, x = .ref p ∧ α[l]? = some p ∧ H p = some (.dK ws) ∧ RepKv K α H kvs ws := by
  obtain ⟨p, e, a⟩ := r
  obtain ⟨ws, h1, h2⟩ := s.at_ l _ p h a
  exact ⟨p, ws, e, a, h1, h2⟩
end
def M.dct (l : Nat) : M (List (Key × D)) := fun μ => match μ[l]? with
  | some (.dct kvs) => some (.ok kvs, μ)
  | _ => none
theorem bnd_dct {a : Type} {l : Nat} {μ μ' : List O} {f : List (Key × D) → M a} {r : Except Ex a} (h : M.bnd (M.dct l) f μ = some (r, μ')) : ∃ ds, μ[l]? = some (.dct ds) ∧ f ds μ = some (r, μ') := by
  unfold M.bnd M.dct at h
  cases e : μ[l]? with
  | none => rw [e] at h; cases h
  | some o =>
    rw [e] at h
    cases o with
    | lst ds => cases h
    | dct ds => exact ⟨ds, rfl, h⟩
theorem hu0 {X : Cx} (h : Here X) : X.A.units + 1 < cLine := hu_of h.room
def rIxKD : R2 := fun x y H Q => ∃ a z v, x = .ref a ∧ y = .str z ∧ DGet H a y (some v) ∧ Q v H
theorem ix_dictK {X : Cx} (hu : X.A.units + 1 < cLine) : IxR X rIxKD := by
  intro value slice pins s σ H x y v u Q I rx ry h hs
  obtain ⟨a, z, w, rfl, rfl, g, q⟩ := h
  obtain rfl : v = Value.ref a := rx
  exact tail_any (dict_typeIs I g) PySem.F.slot_dict_getitem.lookup (d_getItem hu I g ry fun w' s' I' rw' => ⟨w, H, I', rw', q⟩) hs

/-! ### subscripts, slices -/
def plainIx : Expr → Bool
  | .Slice _ _ _ _ => false
  | _ => true
theorem plainIx_eq {b : Expr} (h : plainIx b = true) : PlainIx b := by
  intro o i
  cases b <;> first | rfl | cases h
def atD (ds : List D) (i : Int) : M D := match atI ds i with
  | some d => M.ret d
  | none => M.stop
def ixD : D → D → M D
  | .tup ds, .int i => atD ds i
  | .fro ds, .int i => atD ds i
  | .ref l, .int i => M.bnd (M.lst l) fun ds => atD ds i
  | .ref l, .str x => M.bnd (M.dct l) fun kvs => match valD kvs (.inr x) with
    | some d => M.ret d
    | none => M.stop
  | .str z, .int i => if z.length ≤ sizeLine then match atI z.cps.toList i with
      | some c => M.ret (.str ⟨#[c]⟩)
      | none => M.stop
    else M.stop
  | _, _ => M.stop
theorem Reps.atI {K : PySem.W.Frag} {α : List Addr} {H : Hp} {ds : List D} {vs : List V} {i : Int} {d : D} (r : Reps K α H ds vs) (h : L2.atI ds i = some d) : ∃ v, L2.atI vs i = some v ∧ Rep K α H d v := by
  unfold L2.atI at h ⊢
  rw [r.len]
  cases e : ixN ds.length i with
  | none => rw [e] at h; cases h
  | some j =>
    rw [e] at h
    exact r.get h
theorem atD_run {K : PySem.W.Frag} {mg : Str → Option Value} {E : XK} {α : List Addr} {H : Hp} {μ μ' : List O} {ds : List D} {vs : List V} {i : Int} {q : Except Ex D} {Q : VK} (s : RepS K α H μ) (r : Reps K α H ds vs)
    (run : atD ds i μ = some (q, μ')) (aft : Aft (Rep K) K mg E α H q μ' Q) : ∃ v, L2.atI vs i = some v ∧ Q v H := by
  unfold atD at run
  cases e : L2.atI ds i with
  | none => rw [e] at run; cases run
  | some d =>
    rw [e] at run
    obtain ⟨v, h1, h2⟩ := r.atI e
    exact ⟨v, h1, rd_ret s run aft h2⟩
theorem ix_ok {X : Cx} : OpD X.K (fun x y H Q => rIx X.K x y H Q ∨ rIxKD x y H Q) ixD := by
  intro mg E α H μ μ' d1 d2 x y q Q s r1 r2 run aft
  unfold ixD at run
  split at run
  · obtain ⟨p, vs, e, t, w⟩ := r1
    obtain ⟨v, h1, h2⟩ := atD_run s w run aft
    exact .inl (.inr (.inl ⟨p, vs, _, v, e, r2, t, h1, h2⟩))
  · obtain ⟨p, vs, e, t, w⟩ := r1
    obtain ⟨v, h1, h2⟩ := atD_run s w run aft
    exact .inl (.inl ⟨p, vs, _, v, e, r2, t.sq, h1, h2⟩)
  · obtain ⟨xs, h1, run⟩ := bnd_lst run
    obtain ⟨p1, v1, e1, a1, b1, c1⟩ := lst_at s r1 h1
    obtain ⟨v, h1, h2⟩ := atD_run s c1 run aft
    exact .inl (.inl ⟨p1, v1, _, v, e1, r2, SqL.of b1, h1, h2⟩)
  · rename_i l z
    obtain ⟨kvs, h1, run⟩ := bnd_dct run
    obtain ⟨p1, ws, e1, a1, b1, c1⟩ := dct_at s r1 h1
    cases e : valD kvs (.inr z) with
    | none => rw [e] at run; cases run
    | some d =>
      rw [e] at run
      obtain ⟨v, h2, h3⟩ := c1.some_ e
      exact .inr ⟨p1, z, v, e1, r2, .inl ⟨ws, .inr z, .inl b1, r2, h2.symm⟩, rd_ret s run aft h3⟩
  · split at run
    · rename_i hz
      rename_i z i
      cases e : L2.atI z.cps.toList i with
      | none => rw [e] at run; cases run
      | some c =>
        rw [e] at run
        exact .inl (.inr (.inr ⟨z, i, c, r1, r2, hz, e, rd_ret s run aft rfl⟩))
    · cases run
  · cases run
section
variable {Kn : Kno} {k : Nat}
def cIx (a b : CE) : CE := ⟨fun ρ => M.bnd (a.run ρ) fun x => M.bnd (b.run ρ) fun y => ixD x y, fun I e => match e with
  | .Subscript l r _ => plainIx r && (a.chk I l && b.chk I r)
  | _ => false⟩
theorem g_ix {a b : CE} (ha : GE Kn k a) (hb : GE Kn k b) : GE Kn k (cIx a b) := by
  intro X W cb bs e h
  dsimp only [cIx] at h
  split at h
  · simp only [Bool.and_eq_true] at h
    exact PE.imp (pe_ix (IxR.or ix_seq (ix_dictK (hu0 bs.here))) (ha X W cb bs _ h.2.1) (hb X W cb bs _ h.2.2) (plainIx_eq h.1)) (two ix_ok)
  · cases h
/-- a part of a slice -/
structure CO where
  run : Env → M (Option Int)
  chk : Inf → Option Expr → Bool
def GO (Kn : Kno) (k : Nat) (c : CO) : Prop := ∀ X W b, Bas Kn k b X W → ∀ e, c.chk ⟨X.N, X.env.scope, b⟩ e = true → PO X e (rd (fun _ _ (x y : Option Int) => x = y) X.K X.mg W c.run)
def oNo : CO := ⟨fun _ => M.ret none, fun _ e => e.isNone⟩
def asI : D → M (Option Int)
  | .int i => M.ret (some i)
  | _ => M.stop
def oYes (a : CE) : CO := ⟨fun ρ => M.bnd (a.run ρ) asI, fun I e => match e with
  | some x => a.chk I x
  | none => false⟩
theorem g_ono : GO Kn k oNo := by
  intro X W cb bs e h
  cases e with
  | some _ => cases h
  | none => exact PO.imp po_none fun σ H Q ⟨α, ρ, μ, r, μ', g, run, aft⟩ => rd_ret g.s run aft rfl
theorem g_oyes {a : CE} (ha : GE Kn k a) : GO Kn k (oYes a) := by
  intro X W cb bs e h
  cases e with
  | none => cases h
  | some x =>
    refine PO.imp (po_some (ha X W cb bs x h)) ?_
    rintro σ H Q ⟨α, ρ, μ, q, μ', g, run, aft⟩
    refine rd_seq g run aft fun d v α1 H1 μ1 g1 k1 r1 run1 aft1 => ?_
    cases d with
    | int i => exact ⟨i, r1, rd_ret g1.s run1 aft1 rfl⟩
    | _ => cases run1
def cutD {a : Type} (xs : List a) (lo hi : Option Int) : List a := (xs.drop (HT.sIx xs.length 0 lo)).take (HT.sIx xs.length xs.length hi - HT.sIx xs.length 0 lo)
theorem cutD_len {a : Type} (xs : List a) (lo hi : Option Int) : (cutD xs lo hi).length ≤ xs.length := by
  unfold cutD
  rw [List.length_take, List.length_drop]
  omega
theorem Reps.cut {K : PySem.W.Frag} {α : List Addr} {H : Hp} {ds : List D} {vs : List V} (r : Reps K α H ds vs) (lo hi : Option Int) : Reps K α H (cutD ds lo hi) (cutV vs lo hi) := by
  unfold cutD cutV
  rw [r.len]
  exact (r.drop _).take _
def slD (d : D) (lo hi : Option Int) : M D := match d with
  | .tup ds => M.ret (.tup (cutD ds lo hi))
  | .fro ds => M.new (.lst (cutD ds lo hi))
  | .ref l => M.bnd (M.lst l) fun ds => M.new (.lst (cutD ds lo hi))
  | .str z => if z.length ≤ sizeLine then M.ret (.str (cutS z lo hi)) else M.stop
  | _ => M.stop
theorem cut_whole {a : Type} {xs : List a} {lo hi : Option Int} (h : HT.sIx xs.length 0 lo = 0 ∧ HT.sIx xs.length xs.length hi = xs.length) : cutD xs lo hi = xs := by
  unfold cutD
  rw [h.1, h.2, List.drop_zero, Nat.sub_zero, List.take_length]
def cSlice (a : CE) (lo hi : CO) : CE := ⟨fun ρ => M.bnd (a.run ρ) fun x => M.bnd (lo.run ρ) fun l => M.bnd (hi.run ρ) fun h => slD x l h, fun I e => match e with
  | .Subscript b (.Slice l h none _) _ => a.chk I b && (lo.chk I l && hi.chk I h)
  | _ => false⟩
theorem g_slice {a : CE} {lo hi : CO} (ha : GE Kn k a) (hl : GO Kn k lo) (hh : GO Kn k hi) : GE Kn k (cSlice a lo hi) := by
  intro X W cb bs e h
  dsimp only [cSlice] at h
  split at h
  · simp only [Bool.and_eq_true] at h
    refine PE.imp (pe_slice (SlR.or sl_list (SlR.or sl_tupA sl_str)) (ha X W cb bs _ h.1) (hl X W cb bs _ h.2.1) (hh X W cb bs _ h.2.2)) ?_
    rintro σ H Q ⟨α, ρ, μ, q, μ', g, run, aft⟩
    refine rd_seq g run aft fun d v α1 H1 μ1 g1 k1 r1 run1 aft1 => ?_
    refine rd_seq g1 run1 aft1 fun l l2 α2 H2 μ2 g2 k2 r2 run2 aft2 => ?_
    refine rd_seq g2 run2 aft2 fun u u2 α3 H3 μ3 g3 k3 r3 run3 aft3 => ?_
    subst r2 r3
    have r4 := r1.up (k2.trans k3)
    unfold slD at run3
    split at run3
    · obtain ⟨p, vs, e, t, w⟩ := r4
      refine .inr (.inl ⟨p, vs, e, t, fun z => ?_, fun z p' hp => new_tup g3.s run3 aft3 (w.cut _ _) hp⟩)
      rw [w.len] at z
      have z' := cut_whole z
      rw [z'] at run3
      exact rd_ret g3.s run3 aft3 ⟨p, vs, rfl, t, w⟩
    · obtain ⟨p, vs, e, t, w⟩ := r4
      exact .inl ⟨p, vs, e, t.sq, fun p' hp => new_lst g3.s run3 aft3 (w.cut _ _) hp⟩
    · obtain ⟨xs, h1, run3⟩ := bnd_lst run3
      obtain ⟨p1, v1, e1, a1, b1, c1⟩ := lst_at g3.s r4 h1
      exact .inl ⟨p1, v1, e1, SqL.of b1, fun p' hp => new_lst g3.s run3 aft3 (c1.cut _ _) hp⟩
    · split at run3
      · rename_i hz
        exact .inr (.inr ⟨_, r4, hz, rd_ret g3.s run3 aft3 rfl⟩)
      · cases run3
    · cases run3
  · cases h
end

/-! ### calls of what is built in -/
def CallD (K : PySem.W.Frag) (r : List V → Hp → VK → Prop) (f : List D → M D) : Prop := ∀ (mg : Str → Option Value) (E : XK) (α : List Addr) (H : Hp) (μ μ' : List O) (ds : List D) (xs : List V) (q : Except Ex D) (Q : VK),
  RepS K α H μ → Reps K α H ds xs → f ds μ = some (q, μ') → Aft (Rep K) K mg E α H q μ' Q → r xs H Q
def OkCall (v : Value) (f : List D → M D) : Prop := ∀ X : Cx, Here X → ∃ r, CallR X v r ∧ CallD X.K r f
/-- the module doesn't hide it -/
def Bare (Kn : Kno) (x : Str) : Prop := ∀ P w K mg base, Kn P w K mg base → mg x = none
section
variable {Kn : Kno} {k : Nat}
theorem called {K : PySem.W.Frag} {mg : Str → Option Value} {W : WX} {ra : Env → M (List D)} {f : List D → M D} {r : List V → Hp → VK → Prop} (ho : CallD K r f) : ∀ σ H Q, rdE K mg W (fun ρ => M.bnd (ra ρ) f) σ H Q → tCB r (rdA K mg W ra) σ H Q := by
  rintro σ H Q ⟨α, ρ, μ, q, μ', g, run, aft⟩
  refine rd_seq g run aft fun d v α1 H1 μ1 g1 k1 r1 run1 aft1 => ?_
  exact ho mg _ α1 H1 μ1 μ' d v q Q g1.s r1 run1 aft1
def cB (x : Str) (f : List D → M D) (a : CA) : CE := ⟨fun ρ => M.bnd (a.run ρ) f, fun I e => match e with
  | .Call (.Name y _) (e1 :: es) [] _ => decide (y = x) && (glo I.sc y && ((e1 :: es).all noStar && a.chk I (e1 :: es)))
  | _ => false⟩
theorem g_B {x : Str} {id : String} {f : List D → M D} {a : CA} (ho : OkCall (.builtin id) f) (hb : Bare Kn x) (hv : bootBuiltins x = some (.builtin id)) (hn : x ≠ "__name__") (hd : (x == ("__debug__" : Str)) = false) (ha : GA Kn k a) : GE Kn k (cB x f a) := by
  intro X W cb bs e h
  dsimp only [cB] at h
  split at h
  · simp only [Bool.and_eq_true, decide_eq_true_eq, glo, List.all_cons] at h
    obtain ⟨h1, h2, ⟨h3, h4⟩, h5⟩ := h
    subst h1
    obtain ⟨r, c1, c2⟩ := ho X bs.here
    exact PE.imp (pe_callB c1 h2 (hb _ _ _ _ _ bs.kn) hv (ha X W cb bs _ h5) hn hd (star_cons h3) (star_any h4)) (called c2)
  · cases h
theorem g_Ty {x : Str} {T : String} {f : List D → M D} {a : CA} (ho : OkCall (.type T) f) (hb : Bare Kn x) (hv : bootBuiltins x = some (.type T)) (hn : x ≠ "__name__") (hd : (x == ("__debug__" : Str)) = false) (ha : GA Kn k a) : GE Kn k (cB x f a) := by
  intro X W cb bs e h
  dsimp only [cB] at h
  split at h
  · simp only [Bool.and_eq_true, decide_eq_true_eq, glo, List.all_cons] at h
    obtain ⟨h1, h2, ⟨h3, h4⟩, h5⟩ := h
    subst h1
    obtain ⟨r, c1, c2⟩ := ho X bs.here
    exact PE.imp (pe_callTy c1 h2 (hb _ _ _ _ _ bs.kn) hv (ha X W cb bs _ h5) hn hd (star_cons h3) (star_any h4)) (called c2)
  · cases h
end
def lenD : List D → M D
  | [.tup ds] => M.ret (.int ds.length)
  | [.fro ds] => M.ret (.int ds.length)
  | [.ref l] => M.bnd (M.lst l) fun ds => M.ret (.int ds.length)
  | [.str z] => if z.length ≤ sizeLine then M.ret (.int z.length) else M.stop
  | _ => M.stop
theorem ok_len : OkCall (.builtin "len") lenD := by
  intro X _
  refine ⟨_, CallR.or call_len_seq call_len_str, ?_⟩
  intro mg E α H μ μ' ds xs q Q s r run aft
  unfold lenD at run
  split at run
  · obtain ⟨v, vr, e, r1, r2⟩ := r
    cases (show vr = [] from r2)
    obtain ⟨p, vs, e1, t, w⟩ := r1
    subst e e1
    exact .inl ⟨p, vs, rfl, .inr t, by rw [w.len]; exact rd_ret s run aft rfl⟩
  · obtain ⟨v, vr, e, r1, r2⟩ := r
    cases (show vr = [] from r2)
    obtain ⟨p, vs, e1, t, w⟩ := r1
    subst e e1
    exact .inl ⟨p, vs, rfl, .inl t.sq, by rw [w.len]; exact rd_ret s run aft rfl⟩
  · obtain ⟨v, vr, e, r1, r2⟩ := r
    cases (show vr = [] from r2)
    subst e
    obtain ⟨xs, h1, run⟩ := bnd_lst run
    obtain ⟨p1, v1, e1, a1, b1, c1⟩ := lst_at s r1 h1
    subst e1
    exact .inl ⟨p1, v1, rfl, .inl (SqL.of b1), by rw [c1.len]; exact rd_ret s run aft rfl⟩
  · split at run
    · rename_i hz
      obtain ⟨v, vr, e, r1, r2⟩ := r
      cases (show vr = [] from r2)
      subst e
      cases (show v = .str _ from r1)
      exact .inr ⟨_, rfl, hz, rd_ret s run aft rfl⟩
    · cases run
  · cases run
def absD : List D → M D
  | [.int i] => M.ret (.int (if i < 0 then -i else i))
  | _ => M.stop
theorem ok_abs : OkCall (.builtin "abs") absD := by
  intro X _
  refine ⟨_, call_abs, ?_⟩
  intro mg E α H μ μ' ds xs q Q s r run aft
  unfold absD at run
  split at run
  · obtain ⟨v, vr, e, r1, r2⟩ := r
    cases (show vr = [] from r2)
    cases (show v = .int _ from r1)
    exact ⟨_, e, rd_ret s run aft rfl⟩
  · cases run
def intOf : List D → M D
  | [.int i] => M.ret (.int i)
  | [.bl b] => M.ret (.int (if b then 1 else 0))
  | _ => M.stop
theorem ok_int : OkCall (.type "int") intOf := by
  intro X _
  refine ⟨_, call_int1, ?_⟩
  intro mg E α H μ μ' ds xs q Q s r run aft
  unfold intOf at run
  split at run
  · obtain ⟨v, vr, e, r1, r2⟩ := r
    cases (show vr = [] from r2)
    cases (show v = .int _ from r1)
    exact .inl ⟨_, e, rd_ret s run aft rfl⟩
  · obtain ⟨v, vr, e, r1, r2⟩ := r
    cases (show vr = [] from r2)
    cases (show v = .bl _ from r1)
    exact .inr ⟨_, e, rd_ret s run aft rfl⟩
  · cases run
def strD : List D → M D
  | [.int i] => if i.natAbs.log2 < 1920 then M.ret (.str (toString i)) else M.stop
  | _ => M.stop
theorem ok_str : OkCall (.type "str") strD := by
  intro X _
  refine ⟨_, call_str_int, ?_⟩
  intro mg E α H μ μ' ds xs q Q s r run aft
  unfold strD at run
  split at run
  · split at run
    · rename_i hz
      obtain ⟨v, vr, e, r1, r2⟩ := r
      cases (show vr = [] from r2)
      cases (show v = .int _ from r1)
      exact ⟨_, e, hz, rd_ret s run aft rfl⟩
    · cases run
  · cases run
def listD : List D → M D
  | [.tup ds] => M.new (.lst ds)
  | [.fro ds] => M.new (.lst ds)
  | [.ref l] => M.bnd (M.lst l) fun ds => M.new (.lst ds)
  | _ => M.stop
theorem ok_list : OkCall (.type "list") listD := by
  intro X _
  refine ⟨_, call_list_of, ?_⟩
  intro mg E α H μ μ' ds xs q Q s r run aft
  unfold listD at run
  split at run
  · obtain ⟨v, vr, e, r1, r2⟩ := r
    cases (show vr = [] from r2)
    obtain ⟨p, vs, e1, t, w⟩ := r1
    subst e e1
    exact ⟨p, vs, rfl, .inr t, fun l hl => new_lst s run aft w hl⟩
  · obtain ⟨v, vr, e, r1, r2⟩ := r
    cases (show vr = [] from r2)
    obtain ⟨p, vs, e1, t, w⟩ := r1
    subst e e1
    exact ⟨p, vs, rfl, .inl t.sq, fun l hl => new_lst s run aft w hl⟩
  · obtain ⟨v, vr, e, r1, r2⟩ := r
    cases (show vr = [] from r2)
    subst e
    obtain ⟨xs, h1, run⟩ := bnd_lst run
    obtain ⟨p1, v1, e1, a1, b1, c1⟩ := lst_at s r1 h1
    subst e1
    exact ⟨p1, v1, rfl, .inl (SqL.of b1), fun l hl => new_lst s run aft c1 hl⟩
  · cases run
def tupleD : List D → M D
  | [.tup ds] => M.ret (.tup ds)
  | [.fro ds] => M.ret (.tup ds)
  | [.ref l] => M.bnd (M.lst l) fun ds => M.ret (.tup ds)
  | _ => M.stop
theorem ok_tuple : OkCall (.type "tuple") tupleD := by
  intro X _
  refine ⟨_, call_tuple_of, ?_⟩
  intro mg E α H μ μ' ds xs q Q s r run aft
  unfold tupleD at run
  split at run
  · obtain ⟨v, vr, e, r1, r2⟩ := r
    cases (show vr = [] from r2)
    obtain ⟨p, vs, e1, t, w⟩ := r1
    subst e e1
    exact ⟨p, vs, rfl, .inr ⟨t, rd_ret s run aft ⟨p, vs, rfl, t, w⟩⟩⟩
  · obtain ⟨v, vr, e, r1, r2⟩ := r
    cases (show vr = [] from r2)
    obtain ⟨p, vs, e1, t, w⟩ := r1
    subst e e1
    exact ⟨p, vs, rfl, .inl ⟨t.sq, fun l hl => new_tup s run aft w hl⟩⟩
  · obtain ⟨v, vr, e, r1, r2⟩ := r
    cases (show vr = [] from r2)
    subst e
    obtain ⟨xs, h1, run⟩ := bnd_lst run
    obtain ⟨p1, v1, e1, a1, b1, c1⟩ := lst_at s r1 h1
    subst e1
    exact ⟨p1, v1, rfl, .inl ⟨SqL.of b1, fun l hl => new_tup s run aft c1 hl⟩⟩
  · cases run
/-- repr of anything -/
def reprOk (a : PyData) : Bool := a.showable && (decide (a.shown.length ≤ sizeLine) && decide (a.depth ≤ 60))
def reprD1 (d : D) : M D := fun μ => match see μ 62 d with
  | some a => if reprOk a = true then some (.ok (.str a.shown), μ) else none
  | none => none
def reprD : List D → M D
  | [d] => reprD1 d
  | _ => M.stop
def rRepr (X : Cx) : List V → Hp → VK → Prop := fun xs H Q => ∃ α μ d x a, xs = [x] ∧ RepS X.K α H μ ∧ Rep X.K α H d x ∧ see μ 62 d = some a ∧ reprOk a = true ∧ Q (.str a.shown) H
theorem call_repr {X : Cx} (h : Here X) : CallR X (.builtin "repr") (rRepr X) := by
  intro pins s σ H xs us Q I r h'
  obtain ⟨α, μ, d, x, a, rfl, sS, rd, e, ok, q⟩ := h'
  obtain ⟨u, rfl, r1⟩ := vals1 r
  obtain ⟨as, q1, n1⟩ := see_reads I h.sys sS 62 d a x u e rd r1
  unfold reprOk at ok
  simp only [Bool.and_eq_true, decide_eq_true_eq] at ok
  obtain ⟨k1, k2, k3⟩ := ok
  have fin : ∀ h' (u' : Tok) tk, (∀ b o, s.heap.get? b = some o → h'.get? b = some o) → EP X pins σ Q (.str a.shown u') { s with heap := h', toks := tk } := fun h' u' tk kk => ⟨.str a.shown, H, I.kept (t' := tk) kk, ⟨u', rfl⟩, q⟩
  have hun := h.room.units
  have hs0 : ∀ b o, s.heap.get? b = some o → s.heap.get? b = some o := fun _ _ z => z
  cases u with
  | ref p => exact repr_of_reads' q1 k1 (fun _ => n1) h.grd (by omega) hs0 fin k2
  | none => cases q1; exact PySem.P.repr_of_none (fin s.heap _ _ hs0)
  | bool b => cases q1; exact PySem.P.repr_of_bool (fin s.heap _ _ hs0)
  | int i t => cases q1; exact PySem.P.repr_of_int (by simpa [PyData.showable] using k1) (fin s.heap _ _ hs0)
  | str y t => cases q1; exact PySem.P.repr_of_str (fin s.heap _ _ hs0) k2
  | _ => cases q1
theorem ok_repr : OkCall (.builtin "repr") reprD := by
  intro X hx
  refine ⟨_, call_repr hx, ?_⟩
  intro mg E α H μ μ' ds xs q Q s r run aft
  unfold reprD at run
  split at run
  · rename_i d
    obtain ⟨v, vr, e, r1, r2⟩ := r
    cases (show vr = [] from r2)
    unfold reprD1 at run
    cases e1 : see μ 62 d with
    | none => rw [e1] at run; cases run
    | some a =>
      rw [e1] at run
      dsimp only at run
      split at run
      · rename_i ho
        exact ⟨α, μ, d, v, a, e, s, r1, e1, ho, rd_ret s run aft rfl⟩
      · cases run
  · cases run
end Mi
/-! Mi, part D: calls of defs, isinstance, displays of dicts, targets, statements, loops, a def by its code. -/
namespace Mi
open PySem L2 PyProof.Rows
variable [Tb]

/-! ### a def of the module, called -/
/-- m takes n values -/
def Takes' (m : List D → M D) (n : Nat) : Prop := ∀ ds μ r, m ds μ = some r → ds.length = n
/-- x is a def of the module with the parameters ps, worth m, by k levels -/
def Knw (Kn : Kno) (x : Str) (ps : List Str) (m : List D → M D) (k : Nat) : Prop := ∀ P w K mg base, Kn P w K mg base →
  ∃ f fd, FnG P w K mg base k f fd ps (spOf K mg m) ∧ mg x = some (.ref f) ∧ PySem.W.keepIn K (.ref f) = true ∧ Binds K fd ps []
theorem pe_callG {X : Cx} {W : WX} {k : Nat} {f : Addr} {fd : FuncData} {ps : List Str} {sp : Sp} {x : Str} {p pos : Pos} {e : Expr} {es : List Expr} {t : TA} (F : FnG X.prog X.w X.K X.mg X.base k f fd ps sp) (hr : RoomB k X.A) (hgd : X.A.guards = some [])
    (hg : Gl X x) (hm : X.mg x = some (.ref f)) (hk : PySem.W.keepIn X.K (.ref f) = true) (hb : Binds X.K fd ps []) (tk : Takes X W) (ha : PA X (e :: es) t) (hd : (x == ("__debug__" : Str)) = false) (h1 : noStar e = true) (h2 : es.all noStar = true) :
    PE X (.Call (.Name x p) (e :: es) [] pos) (fun σ H Q => t σ H fun vs H1 => sp vs H1 Q fun c d H' => W c d σ H') :=
  ⟨fun pins s σ H Q I h => wpAny_Call_Name_kw (ld_glob I hg hm (PySem.W.callWith_K (h₀ := X.base) I.ok.mod.kin hk (thn (ha.run pos pins s σ H _ I h) fun us s1 z =>
    match z with
    | ⟨vs, H1, I1, r, q⟩ => ⟨I1.kIn, runG F hr hgd hb tk I1 r q⟩) (star_cons h1) (star_any h2)) hd)⟩
theorem pe_callG0 {X : Cx} {W : WX} {k : Nat} {f : Addr} {fd : FuncData} {ps : List Str} {sp : Sp} {x : Str} {p pos : Pos} (F : FnG X.prog X.w X.K X.mg X.base k f fd ps sp) (hr : RoomB k X.A) (hgd : X.A.guards = some [])
    (hg : Gl X x) (hm : X.mg x = some (.ref f)) (hk : PySem.W.keepIn X.K (.ref f) = true) (hb : Binds X.K fd ps []) (tk : Takes X W) (hd : (x == ("__debug__" : Str)) = false) :
    PE X (.Call (.Name x p) [] [] pos) (fun σ H Q => sp [] H Q fun c d H' => W c d σ H') :=
  ⟨fun pins s σ H Q I h => wpAny_Call_Name_kw (ld_glob I hg hm (PySem.W.callWith_K0 I.kIn hk (runG (us := []) F hr hgd hb tk I .nil h)) hd)⟩
section
variable {Kn : Kno} {k : Nat}
def cCall (x : Str) (m : List D → M D) (a : CA) : CE := ⟨fun ρ => M.bnd (a.run ρ) m, fun I e => match e with
  | .Call (.Name y _) (e1 :: es) [] _ => decide (y = x) && (glo I.sc y && (unmarked y && ((e1 :: es).all noStar && a.chk I (e1 :: es))))
  | _ => false⟩
theorem g_call {x : Str} {ps : List Str} {m : List D → M D} {a : CA} (hm : Knw Kn x ps m k) (ha : GA Kn k a) : GE Kn k (cCall x m a) := by
  intro X W cb bs e h
  dsimp only [cCall] at h
  split at h
  · rename_i y p e1 es pos
    simp only [Bool.and_eq_true, decide_eq_true_eq, glo, List.all_cons] at h
    obtain ⟨h1, h2, h3, ⟨h4, h4'⟩, h5⟩ := h
    subst h1
    obtain ⟨f, fd, F, m1, m2, m3⟩ := hm _ _ _ _ _ bs.kn
    refine PE.imp (pe_callG F bs.room bs.grd h2 m1 m2 m3 bs.tk (ha X W cb bs _ h5) (unmarked1 h3) h4 h4') ?_
    rintro σ H Q ⟨α, ρ, μ, q, μ', g, run, aft⟩
    refine rd_seq g run aft fun d v α1 H1 μ1 g1 k1 w1 run1 aft1 => ?_
    exact ⟨α1, μ1, d, q, μ', g1.s, w1, run1, aft1⟩
  · cases h
def cCall0 (x : Str) (m : List D → M D) : CE := ⟨fun _ => m [], fun I e => match e with
  | .Call (.Name y _) [] [] _ => decide (y = x) && (glo I.sc y && unmarked y)
  | _ => false⟩
theorem g_call0 {x : Str} {ps : List Str} {m : List D → M D} (hm : Knw Kn x ps m k) : GE Kn k (cCall0 x m) := by
  intro X W cb bs e h
  dsimp only [cCall0] at h
  split at h
  · simp only [Bool.and_eq_true, decide_eq_true_eq, glo] at h
    obtain ⟨h1, h2, h3⟩ := h
    subst h1
    obtain ⟨f, fd, F, m1, m2, m3⟩ := hm _ _ _ _ _ bs.kn
    refine PE.imp (pe_callG0 F bs.room bs.grd h2 m1 m2 m3 bs.tk (unmarked1 h3)) ?_
    rintro σ H Q ⟨α, ρ, μ, q, μ', g, run, aft⟩
    exact ⟨α, μ, [], q, μ', g.s, Reps.nil, run, aft⟩
  · cases h

/-! ### isinstance with one built-in class -/
def tyN (μ : List O) : D → Option String
  | .non => some "NoneType"
  | .bl _ => some "bool"
  | .int _ => some "int"
  | .str _ => some "str"
  | .tup _ => some "tuple"
  | .fro _ => some "list"
  | .ref l => match μ[l]? with
    | some (.lst _) => some "list"
    | some (.dct _) => some "dict"
    | none => none
def tyNames : List String := ["NoneType", "bool", "int", "str", "tuple", "list", "dict"]
def isSub (n T : String) : Bool := n == T || (n == "bool" && T == "int")
def isiD (T : String) (d : D) : M D := fun μ => match tyN μ d with
  | some n => some (.ok (.bl (isSub n T)), μ)
  | none => none
theorem tyN_mem {μ : List O} {d : D} {n : String} (h : tyN μ d = some n) : n ∈ tyNames := by
  unfold tyN at h
  split at h
  · cases h; decide
  · cases h; decide
  · cases h; decide
  · cases h; decide
  · cases h; decide
  · cases h; decide
  · split at h
    · cases h; decide
    · cases h; decide
    · cases h
theorem ty_rep {K : PySem.W.Frag} {α : List Addr} {H : Hp} {μ : List O} {d : D} {v : V} {n : String} (s : RepS K α H μ) (r : Rep K α H d v) (h : tyN μ d = some n) : TyX K H v (.type n) := by
  cases d with
  | non => cases h; cases (show v = .non from r); exact .base .non
  | bl b => cases h; cases (show v = .bl b from r); exact .base (.bl b)
  | int b => cases h; cases (show v = .int b from r); exact .base (.int b)
  | str b => cases h; cases (show v = .str b from r); exact .base (.str b)
  | tup ds =>
    cases h
    obtain ⟨p, vs, e, t, _⟩ := r
    subst e
    rcases t with (t | ⟨o, t⟩) | ⟨o, its, m, h1, h2, _⟩
    · exact .base (.tup t)
    · exact .fTuple t
    · exact .kTuple h1 h2
  | fro ds =>
    cases h
    obtain ⟨p, vs, e, t, _⟩ := r
    subst e
    rcases t with ⟨o, t⟩ | (t | ⟨o, t⟩) | ⟨o, its, m, h1, h2, _⟩
    · exact .base (.frz t)
    · cases t
    · cases t
    · exact .kList h1 h2
  | ref l =>
    obtain ⟨p, e, a⟩ := r
    subst e
    obtain ⟨o, h1, h2⟩ := s.there a
    dsimp only [tyN] at h
    rw [h1] at h
    cases o with
    | lst ds =>
      cases h
      obtain ⟨vs, hp, _⟩ := h2
      exact .base (.lst hp)
    | dct ds =>
      cases h
      obtain ⟨vs, hp, _⟩ := h2
      exact .base (.dK hp)
def cIsi (x : Str) (T : String) (a : CE) : CE := ⟨fun ρ => M.bnd (a.run ρ) (isiD T), fun I e => match e with
  | .Call (.Name y _) [e1, .Name z _] [] _ => decide (y = ("isinstance" : Str)) && (decide (z = x) && (glo I.sc y && (glo I.sc z && (noStar e1 && a.chk I e1))))
  | _ => false⟩
theorem g_isi {x : Str} {T : String} {a : CE} (hb : Bare Kn "isinstance") (hx : Bare Kn x) (hv : bootBuiltins x = some (.type T)) (hn : x ≠ "__name__") (hd : (x == ("__debug__" : Str)) = false)
    (ht : ∀ n ∈ tyNames, kitB n T = some (isSub n T)) (ha : GE Kn k a) : GE Kn k (cIsi x T a) := by
  intro X W cb bs e h
  dsimp only [cIsi] at h
  split at h
  · rename_i y p e1 z p2 pos
    simp only [Bool.and_eq_true, decide_eq_true_eq, glo] at h
    obtain ⟨h1, h2, h3, h4, h5, h6⟩ := h
    subst h1 h2
    have pz : PE X (.Name z p2) (tC (.ty T)) := pe_bltn (v := .ty T) h4 (hx _ _ _ _ _ bs.kn) hv rfl hn hd
    refine PE.imp (pe_callB call_isi h3 (hb _ _ _ _ _ bs.kn) (by decide +kernel) (pa_cons (ha X W cb bs _ h6) (pa_cons pz pa_nil) (star_cons h5)) (by decide) (by decide) (star_cons h5) rfl) ?_
    rintro σ H Q ⟨α, ρ, μ, q, μ', g, run, aft⟩
    refine rd_seq g run aft fun d v α1 H1 μ1 g1 k1 w1 run1 aft1 => ?_
    unfold isiD at run1
    cases e1 : tyN μ1 d with
    | none => rw [e1] at run1; cases run1
    | some n =>
      rw [e1] at run1
      exact ⟨v, .ty T, .type n, .type T, isSub n T, rfl, .ty T, ty_rep g1.s w1 e1, kit_ty (ht n (tyN_mem e1)), rd_ret g1.s run1 aft1 rfl⟩
  · cases h

/-! ### {k: v} -/
/-- {k: v}, one entry; the dict is there before its entry -/
def setEmpty (l : Nat) (kvs : List (Key × D)) : M D := fun μ => match μ[l]? with
  | some (.dct []) => some (.ok (.ref l), μ.set l (.dct kvs))
  | _ => none
def withNew (o : O) (f : Nat → M D) : M D := fun μ => f μ.length (μ ++ [o])
def cDict1 (a b : CE) : CE := ⟨fun ρ => withNew (.dct []) fun l => M.bnd (a.run ρ) fun x => M.bnd (b.run ρ) fun y => match keyD x with
    | some kk => setEmpty l [(kk, y)]
    | none => M.stop, fun I e => match e with
  | .Dict [some l] [r] _ => a.chk I l && b.chk I r
  | _ => false⟩
theorem g_dict1 {a b : CE} (ha : GE Kn k a) (hb : GE Kn k b) : GE Kn k (cDict1 a b) := by
  intro X W cb bs e h
  dsimp only [cDict1] at h
  split at h
  · simp only [Bool.and_eq_true] at h
    refine PE.imp (pe_disp (pps_cons (ha X W cb bs _ h.1) (hb X W cb bs _ h.2) pps_nil) rfl rfl (fun z => by cases z) (by show 1 ≤ 15; decide)) ?_
    rintro σ H Q ⟨α, ρ, μ, q, μ', g, run, aft⟩ p hp
    have g0 : Cfg X.K (α ++ [p]) (upd H p (.dK [])) ρ σ (μ ++ [.dct []]) := ⟨g.s.push hp ⟨[], upd_same, rfl⟩, g.e.up (Ext.push hp)⟩
    have a0 : (α ++ [p])[μ.length]? = some p := by
      rw [← g.s.len, List.getElem?_append_right (Nat.le_refl _)]
      simp
    refine rd_seq g0 run (aft.up (Ext.push hp)) fun d v α1 H1 μ1 g1 k1 w1 run1 aft1 => ?_
    refine rd_seq g1 run1 aft1 fun d2 v2 α2 H2 μ2 g2 k2 w2 run2 aft2 => ?_
    have a2 := k2.pre _ _ (k1.pre _ _ a0)
    cases hk : keyD d with
    | none => rw [hk] at run2; cases run2
    | some kk =>
      rw [hk] at run2
      have ev := key_rep w1 hk
      obtain ⟨o, h1, h2⟩ := g2.s.there a2
      dsimp only [setEmpty] at run2
      rw [h1] at run2
      cases o with
      | lst ds => cases run2
      | dct ds =>
        cases ds with
        | cons _ _ => cases run2
        | nil =>
          cases run2
          obtain ⟨ws, hw, e⟩ := h2
          have e' : ws = [] := e
          subst e'
          refine ⟨hw, [(kk, v2)], by rw [ev]; rfl, by show 1 ≤ 15; decide, ?_⟩
          have x3 : Ext α2 H2 α2 (upd H2 p (.dK (mergeK [] [(kk, v2)]))) := Ext.put a2 hw fun z => z
          exact aft2 α2 _ _ x3 (g2.s.put a2 ⟨_, upd_same, v2, [], rfl, w2.up x3, rfl⟩) ⟨p, rfl, a2⟩
  · cases h
end
end Mi
/-! Mi, part E: targets, statements, loops, a def by its code. -/
namespace Mi
open PySem L2 PyProof.Rows
variable [Tb]

/-! ### statements -/
inductive SR where
  | nx (ρ : Env) | rt (d : D) | bk (ρ : Env) | ct (ρ : Env) | er (x : Ex) (ρ : Env)
abbrev Ms := List O → Option (SR × List O)
/-- an expression's run, then a statement's -/
def Ms.of {a : Type} (m : M a) (ρ : Env) (f : a → Ms) : Ms := fun μ => match m μ with
  | none => none
  | some (.error x, μ1) => some (.er x ρ, μ1)
  | some (.ok d, μ1) => f d μ1
def AftS (K : PySem.W.Frag) (mg : Str → Option Value) (W : WX) (α : List Addr) (H : Hp) (r : SR) (μ' : List O) (Dn : Ends) : Prop := match r with
  | .nx ρ => ∀ α' σ' H', Ext α H α' H' → RepS K α' H' μ' → RepE K α' H' ρ σ' → Dn.nx σ' H'
  | .bk ρ => ∀ α' σ' H', Ext α H α' H' → RepS K α' H' μ' → RepE K α' H' ρ σ' → Dn.bk σ' H'
  | .ct ρ => ∀ α' σ' H', Ext α H α' H' → RepS K α' H' μ' → RepE K α' H' ρ σ' → Dn.ct σ' H'
  | .rt d => ∀ α' v H', Ext α H α' H' → RepS K α' H' μ' → Rep K α' H' d v → Dn.rt v H'
  | .er x ρ => ∀ α' c dd σ' H', Ext α H α' H' → RepS K α' H' μ' → RepE K α' H' ρ σ' → RepX K mg α' H' x c dd → W c dd σ' H'
theorem AftS.up {K : PySem.W.Frag} {mg : Str → Option Value} {W : WX} {α α1 : List Addr} {H H1 : Hp} {r : SR} {μ' : List O} {Dn : Ends} (h : AftS K mg W α H r μ' Dn) (k : Ext α H α1 H1) : AftS K mg W α1 H1 r μ' Dn := by
  cases r with
  | nx ρ => exact fun α' σ' H' k' => h α' σ' H' (k.trans k')
  | bk ρ => exact fun α' σ' H' k' => h α' σ' H' (k.trans k')
  | ct ρ => exact fun α' σ' H' k' => h α' σ' H' (k.trans k')
  | rt d => exact fun α' v H' k' => h α' v H' (k.trans k')
  | er x ρ => exact fun α' c dd σ' H' k' => h α' c dd σ' H' (k.trans k')
def rdS (K : PySem.W.Frag) (mg : Str → Option Value) (W : WX) (m : Env → Ms) : TS := fun Dn σ H => ∃ α ρ μ r μ', Cfg K α H ρ σ μ ∧ m ρ μ = some (r, μ') ∧ AftS K mg W α H r μ' Dn
section
variable {c e : Type} {R1 : List Addr → Hp → c → e → Prop} {K : PySem.W.Frag} {mg : Str → Option Value} {W : WX} {α : List Addr} {H : Hp} {ρ : Env} {σ : L2.St} {μ μ' : List O} {r : SR} {Dn : Ends} {Q1 : e → Hp → Prop}
theorem rd_of {m1 : Env → M c} {f : c → Ms} (g : Cfg K α H ρ σ μ) (run : Ms.of (m1 ρ) ρ f μ = some (r, μ')) (aft : AftS K mg W α H r μ' Dn)
    (k : ∀ d v α1 H1 μ1, Cfg K α1 H1 ρ σ μ1 → Ext α H α1 H1 → R1 α1 H1 d v → f d μ1 = some (r, μ') → AftS K mg W α1 H1 r μ' Dn → Q1 v H1) : rd R1 K mg W m1 σ H Q1 := by
  unfold Ms.of at run
  cases h : m1 ρ μ with
  | none => rw [h] at run; cases run
  | some p =>
    obtain ⟨r1, μ1⟩ := p
    rw [h] at run
    cases r1 with
    | error x =>
      cases run
      exact ⟨α, ρ, μ, .error x, _, g, h, fun α' c dd H' k' s' x' => aft α' c dd σ H' k' s' (g.e.up k') x'⟩
    | ok d =>
      refine ⟨α, ρ, μ, .ok d, μ1, g, h, fun α1 v H1 k1 s1 r1 => ?_⟩
      exact k d v α1 H1 μ1 ⟨s1, g.e.up k1⟩ k1 r1 run (aft.up k1)
/-- a statement's end is next -/
theorem nx_ret {ρ' : Env} {σ' : L2.St} (s : RepS K α H μ) (run : some (SR.nx ρ', μ) = some (r, μ')) (aft : AftS K mg W α H r μ' Dn) (e : RepE K α H ρ' σ') : Dn.nx σ' H := by
  cases run
  exact aft α σ' H (Ext.refl α H) s e
end
structure CS where
  run : Env → Ms
  chk : Inf → Stmt → Bool
structure CB where
  run : Env → Ms
  chk : Inf → List Stmt → Bool
def GS (Kn : Kno) (k : Nat) (c : CS) : Prop := ∀ X W b, Bas Kn k b X W → PassesOwn (model X.prog X.w) X.A X.env X.xe → ∀ e, c.chk ⟨X.N, X.env.scope, b⟩ e = true → PS X e (rdS X.K X.mg W c.run)
def GB (Kn : Kno) (k : Nat) (c : CB) : Prop := ∀ X W b, Bas Kn k b X W → PassesOwn (model X.prog X.w) X.A X.env X.xe → ∀ e, c.chk ⟨X.N, X.env.scope, b⟩ e = true → PSs X e (rdS X.K X.mg W c.run)
/-- a target: a value, the slots, the store; it gives the slots behind it -/
structure CG where
  run : D → Env → List O → Option (Env × List O)
  chk : Inf → Expr → Bool
def rdG (K : PySem.W.Frag) (m : D → Env → List O → Option (Env × List O)) : TG := fun v σ H Q => ∃ α ρ μ d ρ' μ', Cfg K α H ρ σ μ ∧ Rep K α H d v ∧ m d ρ μ = some (ρ', μ') ∧ ∀ α' σ' H', Ext α H α' H' → RepS K α' H' μ' → RepE K α' H' ρ' σ' → Q σ' H'
def GG (Kn : Kno) (k : Nat) (c : CG) : Prop := ∀ X W b, Bas Kn k b X W → ∀ e, c.chk ⟨X.N, X.env.scope, b⟩ e = true → PG X e (rdG X.K c.run)
theorem PG.imp {X : Cx} {e : Expr} {t t' : TG} (h : PG X e t) (i : ∀ v σ H Q, t' v σ H Q → t v σ H Q) : PG X e t' := ⟨fun pins s σ H v u Q I r q => h.run pins s σ H v u Q I r (i v σ H Q q)⟩
theorem PGs.imp {X : Cx} {e : List Expr} {t t' : TGs} (h : PGs X e t) (i : ∀ v σ H Q, t' v σ H Q → t v σ H Q) : PGs X e t' := ⟨fun pins s σ H v u Q I r q => h.run pins s σ H v u Q I r (i v σ H Q q)⟩
/-- several targets -/
structure CGs where
  run : List D → Env → List O → Option (Env × List O)
  chk : Inf → List Expr → Bool
def rdGs (K : PySem.W.Frag) (m : List D → Env → List O → Option (Env × List O)) : TGs := fun vs σ H Q => ∃ α ρ μ ds ρ' μ', Cfg K α H ρ σ μ ∧ Reps K α H ds vs ∧ m ds ρ μ = some (ρ', μ') ∧ ∀ α' σ' H', Ext α H α' H' → RepS K α' H' μ' → RepE K α' H' ρ' σ' → Q σ' H'
def GGs (Kn : Kno) (k : Nat) (c : CGs) : Prop := ∀ X W b, Bas Kn k b X W → ∀ e, c.chk ⟨X.N, X.env.scope, b⟩ e = true → PGs X e (rdGs X.K c.run)
section
variable {Kn : Kno} {k : Nat}
def place (I : Inf) (i : Nat) (x : Str) : Bool := decide (I.N[i]? = some x) && (decide (I.sc.names.lookup x = some .local) || (I.cells x && decide (I.sc.names.lookup x = some .cell)))
theorem place_loc {I : Inf} {i : Nat} {x : Str} (h : place I i x = true) : I.N[i]? = some x ∧ Loc I.sc x ∧ (I.sc.names.lookup x = some .local ∨ (I.cells x = true)) := by
  unfold place at h
  simp only [Bool.and_eq_true, Bool.or_eq_true, decide_eq_true_eq] at h
  obtain ⟨h1, h2⟩ := h
  rcases h2 with h2 | ⟨h2, h3⟩
  · exact ⟨h1, .inl h2, .inl h2⟩
  · exact ⟨h1, .inr h3, .inr h2⟩
def gN (i : Nat) : CG := ⟨fun d ρ μ => some (ρ.set i (some d), μ), fun I e => match e with
  | .Name x _ => place I i x
  | _ => false⟩
theorem g_gN {i : Nat} : GG Kn k (gN i) := by
  intro X W cb b e h
  dsimp only [gN] at h
  split at h
  · rename_i x pos
    obtain ⟨h1, h2, h3⟩ := place_loc h
    have hf : X.fn x = true ∨ X.env.scope.names.lookup x = some .local := h3.elim Or.inr fun z => Or.inl (b.cells x z)
    refine PG.imp (pg_name b.nd h1 h2 hf) ?_
    rintro v σ H Q ⟨α, ρ, μ, d, ρ', μ', g, r, run, q⟩
    cases run
    exact q α _ H (Ext.refl α H) g.s (g.e.set i r)
  · cases h
def gsNil : CGs := ⟨fun ds ρ μ => match ds with
  | [] => some (ρ, μ)
  | _ => none, fun _ es => match es with
  | [] => true
  | _ => false⟩
def gsCons (a : CG) (r : CGs) : CGs := ⟨fun ds ρ μ => match ds with
  | d :: dr => match a.run d ρ μ with
    | some (ρ1, μ1) => r.run dr ρ1 μ1
    | none => none
  | [] => none, fun I es => match es with
  | e :: er => noStar e && (a.chk I e && r.chk I er)
  | [] => false⟩
theorem asg_cons {e : Expr} {es : List Expr} {env : PySem.Env} (h : noStar e = true) : assignEach (e :: es) env = (false, assign e env) :: assignEach es env := by
  cases e <;> first | rfl | cases h
theorem g_gsNil : GGs Kn k gsNil := by
  intro X W cb b e h
  dsimp only [gsNil] at h
  split at h
  · refine PGs.imp pgs_nil ?_
    rintro v σ H Q ⟨α, ρ, μ, ds, ρ', μ', g, r, run, q⟩
    cases ds with
    | nil =>
      cases run
      exact ⟨r, q α σ H (Ext.refl α H) g.s g.e⟩
    | cons _ _ => cases run
  · cases h
theorem g_gsCons {a : CG} {r : CGs} (ha : GG Kn k a) (hr : GGs Kn k r) : GGs Kn k (gsCons a r) := by
  intro X W cb b e h
  dsimp only [gsCons] at h
  split at h
  · simp only [Bool.and_eq_true] at h
    obtain ⟨h1, h2, h3⟩ := h
    refine PGs.imp (pgs_cons (ha X W cb b _ h2) (hr X W cb b _ h3) (by rw [asg_cons h1]; rfl)) ?_
    rintro vs σ H Q ⟨α, ρ, μ, ds, ρ', μ', g, w, run, q⟩
    cases ds with
    | nil => cases run
    | cons d dr =>
      obtain ⟨v, vr, e, w1, w2⟩ := w
      subst e
      dsimp only [gsCons] at run
      cases e1 : a.run d ρ μ with
      | none => rw [e1] at run; cases run
      | some p =>
        obtain ⟨ρ1, μ1⟩ := p
        rw [e1] at run
        refine ⟨v, vr, rfl, α, ρ, μ, d, ρ1, μ1, g, w1, e1, fun α1 σ1 H1 k1 s1 r1 => ?_⟩
        exact ⟨α1, ρ1, μ1, dr, ρ', μ', ⟨s1, r1⟩, w2.up k1, run, fun α' σ' H' k' => q α' σ' H' (k1.trans k')⟩
  · cases h
theorem asg_len {env : PySem.Env} : ∀ {es : List Expr}, es.all noStar = true → (assignEach es env).length = es.length ∧ (assignEach es env).findIdx? (·.1) = none
  | [], _ => ⟨rfl, rfl⟩
  | e :: es, h => by
    rw [List.all_cons, Bool.and_eq_true] at h
    rw [asg_cons h.1]
    obtain ⟨h1, h2⟩ := asg_len (env := env) h.2
    refine ⟨by rw [List.length_cons, List.length_cons, h1], ?_⟩
    rw [List.findIdx?_cons]
    simp [h2]
/-- (a, b, ..) = a tuple -/
def gT (r : CGs) (n : Nat) : CG := ⟨fun d ρ μ => match d with
  | .tup ds => if ds.length = n then r.run ds ρ μ else none
  | _ => none, fun I e => match e with
  | .Tuple es _ _ => decide (es.length = n) && (es.all noStar && r.chk I es)
  | _ => false⟩
theorem g_gT {r : CGs} {n : Nat} (hr : GGs Kn k r) : GG Kn k (gT r n) := by
  intro X W cb b e h
  dsimp only [gT] at h
  split at h
  · simp only [Bool.and_eq_true, decide_eq_true_eq] at h
    obtain ⟨h1, h2, h3⟩ := h
    obtain ⟨l1, l2⟩ := asg_len (env := X.env) h2
    refine PG.imp (pg_tup (n := n) b.calm (hr X W cb b _ h3) (l1.trans h1) l2) ?_
    rintro v σ H Q ⟨α, ρ, μ, d, ρ', μ', g, w, run, q⟩
    cases d with
    | tup ds =>
      dsimp only [gT] at run
      split at run
      · rename_i hl
        obtain ⟨p, vs, e, t, w2⟩ := w
        exact ⟨p, vs, e, t, w2.len.trans hl, α, ρ, μ, ds, ρ', μ', g, w2, run, q⟩
      · cases run
    | _ => cases run
  · cases h
/-- xs[i] = v, a list of the store -/
def setL (d : D) (o i : D) (μ : List O) : Option (List O) := match o, i with
  | .ref l, .int j => match μ[l]? with
    | some (.lst ds) => match ixN ds.length j with
      | some n => some (μ.set l (.lst (ds.set n d)))
      | none => none
    | _ => none
  | .ref l, .str x => match μ[l]? with
    | some (.dct kvs) => if kvs.length < sizeLine then some (μ.set l (.dct (putKD kvs (.inr x) d))) else none
    | _ => none
  | _, _ => none
theorem PSet.or {X : Cx} {t t' : TSet} (h : PSet X t) (h' : PSet X t') : PSet X (fun o i v H Q => t o i v H Q ∨ t' o i v H Q) := by
  intro pins s σ H o i v ov iv u Q I ro ri rv q
  rcases q with q | q
  · exact h pins s σ H o i v ov iv u Q I ro ri rv q
  · exact h' pins s σ H o i v ov iv u Q I ro ri rv q
def rSetDK : TSet := fun o i v H Q => ∃ a H', o = .ref a ∧ DPut H a i v H' ∧ Q H'
theorem set_dictK {X : Cx} (hu : X.A.units + 1 < cLine) : PSet X rSetDK := by
  intro pins s σ H o i v ov iv u Q I ro ri rv h
  obtain ⟨a, H', eo, g, q⟩ := h
  subst eo
  cases (show ov = Value.ref a from ro)
  exact d_setItem hu I g ri rv fun s' I' => ⟨H', I', q⟩
def gS (a b : CE) : CG := ⟨fun d ρ μ => match M.bnd (a.run ρ) (fun o => M.bnd (b.run ρ) fun i => M.ret (o, i)) μ with
  | some (.ok (o, i), μ1) => (setL d o i μ1).map fun μ2 => (ρ, μ2)
  | _ => none, fun I e => match e with
  | .Subscript o i _ => plainIx i && (a.chk I o && b.chk I i)
  | _ => false⟩
theorem asg_sub {o i : Expr} {pos : Pos} {env : PySem.Env} (h : plainIx i = true) : ∀ v, assign (.Subscript o i pos) env v = (do
      let ov ← holding [v] (eval o env)
      let iv ← holding [v, ov] (eval i env)
      standAt pos
      holding [v, ov, iv] (setItem ov iv v)
      release [v, ov, iv] []) := by
  intro v
  cases i <;> first | rfl | cases h
theorem g_gS {a b : CE} (ha : GE Kn k a) (hb : GE Kn k b) : GG Kn k (gS a b) := by
  intro X W cb bs e h
  dsimp only [gS] at h
  split at h
  · simp only [Bool.and_eq_true] at h
    obtain ⟨h1, h2, h3⟩ := h
    have tk0 : Bas Kn k cb X fun _ _ _ _ => False := ⟨bs.kn, bs.calm, bs.nd, bs.room, bs.grd, takes0, bs.sys, bs.top, bs.cells, bs.lam⟩
    refine PG.imp (pg_sub (ha X _ cb tk0 _ h2) (hb X _ cb tk0 _ h3) (PSet.or set_list (set_dictK (hu0 bs.here))) (asg_sub h1)) ?_
    rintro v σ H Q ⟨α, ρ, μ, d, ρ', μ', g, w, run, q⟩
    dsimp only [gS] at run
    cases e1 : M.bnd (a.run ρ) (fun o => M.bnd (b.run ρ) fun i => M.ret (o, i)) μ with
    | none => rw [e1] at run; cases run
    | some p =>
      obtain ⟨r1, μ1⟩ := p
      rw [e1] at run
      cases r1 with
      | error x => cases run
      | ok oi =>
        obtain ⟨o, i⟩ := oi
        dsimp only at run
        show rd (Rep X.K) X.K X.mg (fun _ _ _ _ => False) a.run σ H fun o H1 => rd (Rep X.K) X.K X.mg (fun _ _ _ _ => False) b.run σ H1 fun i H2 => (rSetL o i v H2 fun H3 => Q σ H3) ∨ rSetDK o i v H2 fun H3 => Q σ H3
        refine rd_seq (R := fun _ _ (x : D × D) (y : Unit) => True) (r := .ok (o, i)) (μ' := μ1) (Q := fun _ _ => True) g e1 (fun _ _ _ _ _ _ => True.intro) fun o1 ov α1 H1 μ2 g1 k1 w1 run1 _ => ?_
        refine rd_seq (R := fun _ _ (x : D × D) (y : Unit) => True) (r := .ok (o, i)) (μ' := μ1) (Q := fun _ _ => True) g1 run1 (fun _ _ _ _ _ _ => True.intro) fun i1 iv α2 H2 μ3 g2 k2 w2 run2 _ => ?_
        cases run2
        have w1' := w1.up k2
        cases o with
        | ref l =>
          cases i with
          | int j =>
            dsimp only [setL] at run
            cases e2 : μ1[l]? with
            | none => rw [e2] at run; cases run
            | some ob =>
              rw [e2] at run
              cases ob with
              | dct _ => cases run
              | lst ds =>
                dsimp only at run
                cases e3 : ixN ds.length j with
                | none => rw [e3] at run; cases run
                | some n =>
                  rw [e3] at run
                  cases run
                  obtain ⟨p, vs, ep, ea, eh, er⟩ := lst_at g2.s w1' e2
                  refine .inl ⟨p, vs, j, n, ep, w2, eh, by rw [er.len]; exact e3, ?_⟩
                  have x3 : Ext α2 H2 α2 (upd H2 p (.lst (vs.set n v))) := Ext.put ea eh fun z => z
                  have wv := w.up (k1.trans k2)
                  exact q α2 σ _ ((k1.trans k2).trans x3) (g2.s.put ea ⟨_, upd_same, (er.set n wv).up x3⟩) (g2.e.up x3)
          | str z =>
            dsimp only [setL] at run
            cases e2 : μ1[l]? with
            | none => rw [e2] at run; cases run
            | some ob =>
              rw [e2] at run
              cases ob with
              | lst _ => cases run
              | dct kvs =>
                dsimp only at run
                by_cases hz : kvs.length < sizeLine
                · rw [if_pos hz] at run
                  cases run
                  obtain ⟨p, ws, ep, ea, eh, er⟩ := dct_at g2.s w1' e2
                  have wv := w.up (k1.trans k2)
                  refine .inr ⟨p, upd H2 p (.dK (putK ws (.inr z) v)), ep, .inl ⟨ws, .inr z, eh, w2, by rw [er.len]; exact hz, rfl⟩, ?_⟩
                  have x3 : Ext α2 H2 α2 (upd H2 p (.dK (putK ws (.inr z) v))) := Ext.put ea eh fun z => z
                  exact q α2 σ _ ((k1.trans k2).trans x3) (g2.s.put ea ⟨_, upd_same, (er.put (.inr z) wv).up x3⟩) (g2.e.up x3)
                · rw [if_neg hz] at run
                  cases run
          | _ => cases run
        | _ => cases run
  · cases h

/-! ### small statements -/
def bNil : CB := ⟨fun ρ μ => some (.nx ρ, μ), fun _ st => match st with
  | [] => true
  | _ => false⟩
def bCons (s : CS) (r : CB) : CB := ⟨fun ρ μ => match s.run ρ μ with
  | some (.nx ρ1, μ1) => r.run ρ1 μ1
  | x => x, fun I st => match st with
  | s1 :: sr => s.chk I s1 && r.chk I sr
  | [] => false⟩
theorem g_bNil : GB Kn k bNil := by
  intro X W cb bs po e h
  dsimp only [bNil] at h
  split at h
  · refine PSs.imp pss_nil ?_
    rintro σ H D ⟨α, ρ, μ, r, μ', g, run, aft⟩
    exact nx_ret g.s run aft g.e
  · cases h
theorem g_bCons {s : CS} {r : CB} (hs : GS Kn k s) (hr : GB Kn k r) : GB Kn k (bCons s r) := by
  intro X W cb bs po e h
  dsimp only [bCons] at h
  split at h
  · rw [Bool.and_eq_true] at h
    refine PSs.imp (pss_cons (hs X W cb bs po _ h.1) (hr X W cb bs po _ h.2)) ?_
    rintro σ H D ⟨α, ρ, μ, q, μ', g, run, aft⟩
    dsimp only [bCons] at run
    cases e1 : s.run ρ μ with
    | none => rw [e1] at run; cases run
    | some p =>
      obtain ⟨r1, μ1⟩ := p
      rw [e1] at run
      cases r1 with
      | nx ρ1 => exact ⟨α, ρ, μ, .nx ρ1, μ1, g, e1, fun α' σ' H' k' s' e' => ⟨α', ρ1, μ1, q, μ', ⟨s', e'⟩, run, aft.up k'⟩⟩
      | rt d => cases run; exact ⟨α, ρ, μ, _, _, g, e1, aft⟩
      | bk ρ1 => cases run; exact ⟨α, ρ, μ, _, _, g, e1, aft⟩
      | ct ρ1 => cases run; exact ⟨α, ρ, μ, _, _, g, e1, aft⟩
      | er x ρ1 => cases run; exact ⟨α, ρ, μ, _, _, g, e1, aft⟩
  · cases h
/-- no comprehension: its stores are plain -/
def noComp : Expr → Bool
  | .ListComp _ _ _ _ => false
  | .SetComp _ _ _ _ => false
  | .DictComp _ _ _ _ _ => false
  | _ => true
theorem noComp_sw {e : Expr} {t : Option Expr} {l : Nat} {env : PySem.Env} (h : noComp e = true) : swapsWith e t l env = pure false := by
  cases e <;> first | rfl | cases h
def sExpr (a : CE) : CS := ⟨fun ρ => Ms.of (a.run ρ) ρ fun _ μ => some (.nx ρ, μ), fun I st => match st with
  | .Expr e _ => noComp e && a.chk I e
  | _ => false⟩
theorem g_sExpr {a : CE} (ha : GE Kn k a) : GS Kn k (sExpr a) := by
  intro X W cb bs po e h
  dsimp only [sExpr] at h
  split at h
  · rw [Bool.and_eq_true] at h
    refine PS.imp (ps_expr (ha X W cb bs _ h.2) (noComp_sw h.1)) ?_
    rintro σ H D ⟨α, ρ, μ, q, μ', g, run, aft⟩
    exact rd_of g run aft fun d v α1 H1 μ1 g1 k1 r1 run1 aft1 => nx_ret g1.s run1 aft1 g1.e
  · cases h
def sRet (a : CE) : CS := ⟨fun ρ => Ms.of (a.run ρ) ρ fun d μ => some (.rt d, μ), fun I st => match st with
  | .Return (some e) _ => a.chk I e
  | _ => false⟩
theorem g_sRet {a : CE} (ha : GE Kn k a) : GS Kn k (sRet a) := by
  intro X W cb bs po e h
  dsimp only [sRet] at h
  split at h
  · refine PS.imp (ps_ret (ha X W cb bs _ h)) ?_
    rintro σ H D ⟨α, ρ, μ, q, μ', g, run, aft⟩
    refine rd_of g run aft fun d v α1 H1 μ1 g1 k1 r1 run1 aft1 => ?_
    cases run1
    exact aft1 α1 v H1 (Ext.refl _ _) g1.s r1
  · cases h
def sRetN : CS := ⟨fun ρ μ => some (.rt .non, μ), fun _ st => match st with
  | .Return none _ => true
  | _ => false⟩
theorem g_sRetN : GS Kn k sRetN := by
  intro X W cb bs po e h
  dsimp only [sRetN] at h
  split at h
  · refine PS.imp ps_retN ?_
    rintro σ H D ⟨α, ρ, μ, q, μ', g, run, aft⟩
    cases run
    exact aft α .non H (Ext.refl _ _) g.s rfl
  · cases h
def sPass : CS := ⟨fun ρ μ => some (.nx ρ, μ), fun _ st => match st with
  | .Pass _ => true
  | _ => false⟩
theorem g_sPass : GS Kn k sPass := by
  intro X W cb bs po e h
  dsimp only [sPass] at h
  split at h
  · refine PS.imp ps_pass ?_
    rintro σ H D ⟨α, ρ, μ, q, μ', g, run, aft⟩
    exact nx_ret g.s run aft g.e
  · cases h
def sCont : CS := ⟨fun ρ μ => some (.ct ρ, μ), fun _ st => match st with
  | .Continue _ => true
  | _ => false⟩
theorem g_sCont : GS Kn k sCont := by
  intro X W cb bs po e h
  dsimp only [sCont] at h
  split at h
  · refine PS.imp ps_continue ?_
    rintro σ H D ⟨α, ρ, μ, q, μ', g, run, aft⟩
    cases run
    exact aft α σ H (Ext.refl _ _) g.s g.e
  · cases h
def sBrk : CS := ⟨fun ρ μ => some (.bk ρ, μ), fun _ st => match st with
  | .Break _ => true
  | _ => false⟩
theorem g_sBrk : GS Kn k sBrk := by
  intro X W cb bs po e h
  dsimp only [sBrk] at h
  split at h
  · refine PS.imp ps_break ?_
    rintro σ H D ⟨α, ρ, μ, q, μ', g, run, aft⟩
    cases run
    exact aft α σ H (Ext.refl _ _) g.s g.e
  · cases h
def sIf (t : CT) (a b : CB) : CS := ⟨fun ρ => Ms.of (t.run ρ) ρ fun c => if c = true then a.run ρ else b.run ρ, fun I st => match st with
  | .If e x y _ => t.chk I e && (a.chk I x && b.chk I y)
  | _ => false⟩
theorem g_sIf {t : CT} {a b : CB} (ht : GT Kn k t) (ha : GB Kn k a) (hb : GB Kn k b) : GS Kn k (sIf t a b) := by
  intro X W cb bs po e h
  dsimp only [sIf] at h
  split at h
  · simp only [Bool.and_eq_true] at h
    refine PS.imp (ps_if (ht X W cb bs _ h.1) (ha X W cb bs po _ h.2.1) (hb X W cb bs po _ h.2.2)) ?_
    rintro σ H D ⟨α, ρ, μ, q, μ', g, run, aft⟩
    refine rd_of g run aft fun d v α1 H1 μ1 g1 k1 r1 run1 aft1 => ?_
    subst r1
    cases d with
    | true =>
      rw [if_pos rfl]
      exact ⟨α1, ρ, μ1, q, μ', g1, run1, aft1⟩
    | false =>
      rw [if_neg Bool.false_ne_true]
      exact ⟨α1, ρ, μ1, q, μ', g1, run1, aft1⟩
  · cases h
/-- target = value, where no stores are exchanged -/
def noTup : Expr → Bool
  | .Tuple _ _ _ => false
  | .List _ _ => false
  | _ => true
def plainAsg (t e : Expr) : Bool := noComp e && (noStar t && (noTup t || noTup e))
theorem plainAsg_sw {t e : Expr} {env : PySem.Env} (h : plainAsg t e = true) : swappedStores [t] e env = pure none := by
  unfold plainAsg at h
  simp only [Bool.and_eq_true, Bool.or_eq_true] at h
  obtain ⟨_, _, z⟩ := h
  rcases z with z | z
  · cases t <;> first | rfl | cases z
  · cases t <;> cases e <;> first | rfl | cases z
def asgRun (g : CG) (a : CE) : Env → Ms := fun ρ => Ms.of (a.run ρ) ρ fun d μ => match g.run d ρ μ with
  | some (ρ1, μ1) => some (.nx ρ1, μ1)
  | none => none
def sAsg (g : CG) (a : CE) : CS := ⟨asgRun g a, fun I st => match st with
  | .Assign [t] e _ => plainAsg t e && (g.chk I t && a.chk I e)
  | _ => false⟩
theorem asg_fin {g : CG} {a : CE} {X : Cx} {W : WX} : ∀ σ H Dn, rdS X.K X.mg W (asgRun g a) Dn σ H → tAsg (rdE X.K X.mg W a.run) (rdG X.K g.run) Dn σ H := by
  rintro σ H Dn ⟨α, ρ, μ, q, μ', g0, run, aft⟩
  refine rd_of g0 run aft fun d v α1 H1 μ1 g1 k1 r1 run1 aft1 => ?_
  cases e1 : g.run d ρ μ1 with
  | none => rw [e1] at run1; cases run1
  | some p =>
    obtain ⟨ρ1, μ2⟩ := p
    rw [e1] at run1
    cases run1
    exact ⟨α1, ρ, μ1, d, ρ1, _, g1, r1, e1, fun α' σ' H' k' s' e' => aft1 α' σ' H' k' s' e'⟩
theorem g_sAsg {g : CG} {a : CE} (hg : GG Kn k g) (ha : GE Kn k a) : GS Kn k (sAsg g a) := by
  intro X W cb bs po e h
  dsimp only [sAsg] at h
  split at h
  · rename_i t e pos
    simp only [Bool.and_eq_true] at h
    obtain ⟨h1, h2, h3⟩ := h
    have hp : noComp e = true ∧ noStar t = true := by
      unfold plainAsg at h1
      simp only [Bool.and_eq_true] at h1
      exact ⟨h1.1, h1.2.1⟩
    exact PS.imp (ps_asg (ha X W cb bs _ h3) (hg X W cb bs _ h2) (noComp_sw hp.1) (plainAsg_sw h1) (by rw [asg_cons hp.2]; rfl)) (asg_fin)
  · cases h
/-- a, b = x, y: both sides written, all targets plain local names: stored at once -/
def names2 (I : Inf) (i j : Nat) (x y : Expr) : Bool := match x, y with
  | .Name a p, .Name b q => decide (I.N[i]? = some a) && (decide (I.N[j]? = some b) && (decide (I.sc.names.lookup a = some .local) && (decide (I.sc.names.lookup b = some .local) && (p.line == q.line && !(a == b)))))
  | _, _ => false
def foldFree (es : List Expr) : Bool := es.all noStar && (!es.all (foldedForSure 8) && !es.all (constantsAlone 8))
theorem noStar_any {es : List Expr} (h : es.all noStar = true) : (es.any fun | .Starred .. => true | _ => false) = false := by
  rw [List.any_eq_false]
  intro e he
  have := List.all_eq_true.mp h e he
  cases e <;> first | exact Bool.false_ne_true | cases this
theorem notSt {e : Expr} : (match e with | .Starred .. => true | _ => false) = true → noStar e = true → False := by
  cases e <;> first | exact fun z _ => absurd z Bool.false_ne_true | exact fun _ z => absurd z Bool.false_ne_true
theorem fn_block {env : PySem.Env} (h : env.scope.kind = .function) : env.blockKind = .function := by
  unfold PySem.Env.blockKind
  rw [h]
  rfl
def sPar (i j : Nat) (a b : CE) : CS := ⟨fun ρ => Ms.of (M.bnd (a.run ρ) fun x => M.bnd (b.run ρ) fun y => M.ret (x, y)) ρ fun (p : D × D) μ => some (.nx ((ρ.set i (some p.1)).set j (some p.2)), μ), fun I st => match st with
  | .Assign [.Tuple [t1, t2] _ _] (.Tuple [e1, e2] _ _) _ => decide (I.sc.kind = .function) && (!decide (i = j) && (names2 I i j t1 t2 && (foldFree [e1, e2] && (a.chk I e1 && b.chk I e2))))
  | _ => false⟩
theorem swap2 {x y : Str} {px py pt pt2 : Pos} {kt k2 : Nat} {e1 e2 : Expr} {env : PySem.Env} (hk : env.scope.kind = .function) (hx : env.scope.names.lookup x = some .local) (hy : env.scope.names.lookup y = some .local)
    (hl : (px.line == py.line) = true) (hne : (x == y) = false) (hf : foldFree [e1, e2] = true) :
    swappedStores [.Tuple [.Name x px, .Name y py] kt pt] (.Tuple [e1, e2] k2 pt2) env = pure (some [x, y]) := by
  unfold foldFree at hf
  simp only [Bool.and_eq_true, Bool.not_eq_true'] at hf
  have q1 := noStar_any hf.1
  have kx : env.kindOf x = some .local := hx
  have ky : env.kindOf y = some .local := hy
  have hl' : px.line = py.line := by simpa using hl
  have hne' : ¬ y = x := fun z => by rw [z] at hne; simp at hne
  have v1 : noStar e1 = true ∧ noStar e2 = true := by simpa using hf.1
  unfold swappedStores
  simp [fn_block hk, kx, ky, hf.2.1, hf.2.2, hl', hne', List.eraseDups_cons, Expr.pos]
  intro z
  rcases z with z | z
  · exact (notSt z v1.1).elim
  · exact (notSt z v1.2).elim
theorem g_sPar {i j : Nat} {a b : CE} (ha : GE Kn k a) (hb : GE Kn k b) : GS Kn k (sPar i j a b) := by
  intro X W cb bs po e h
  dsimp only [sPar] at h
  split at h
  · rename_i t1 t2 k1 p1 e1 e2 k2 p2 pos
    simp only [Bool.and_eq_true, decide_eq_true_eq, Bool.not_eq_true', decide_eq_false_iff_not] at h
    obtain ⟨hk, hij, hn, hf, h1, h2⟩ := h
    unfold names2 at hn
    split at hn
    · rename_i x px y py
      simp only [Bool.and_eq_true, decide_eq_true_eq, Bool.not_eq_true'] at hn
      obtain ⟨n1, n2, n3, n4, n5, n6⟩ := hn
      have hs : [e1, e2].all noStar = true := by
        unfold foldFree at hf
        rw [Bool.and_eq_true] at hf
        exact hf.1
      simp only [List.all_cons, List.all_nil, Bool.and_true, Bool.and_eq_true] at hs
      refine PS.imp (ps_par bs.calm bs.nd n1 n2 hij n3 n4 (pa_cons (ha X W cb bs _ h1) (pa_cons (hb X W cb bs _ h2) pa_nil (star_cons hs.2)) (star_cons hs.1)) (swap2 hk n3 n4 n5 n6 hf)) ?_
      rintro σ H Dn ⟨α, ρ, μ, q, μ', g, run, aft⟩
      -- the pair's run, part by part
      dsimp only [sPar, Ms.of] at run
      cases e0 : M.bnd (a.run ρ) (fun x => M.bnd (b.run ρ) fun y => M.ret (x, y)) μ with
      | none => rw [e0] at run; cases run
      | some pr =>
        obtain ⟨r0, μ0⟩ := pr
        rw [e0] at run
        refine rd_seq (R := fun _ _ (x : D × D) (y : V × V) => True) (Q := fun _ _ => True) (r := r0) (μ' := μ0) g e0 ?_ fun x1 v1 α1 H1 μ1 g1 x1' w1 run1 aft1 => ?_
        · cases r0 with
          | ok _ => exact fun _ _ _ _ _ _ => True.intro
          | error x =>
            cases run
            exact fun α' c dd H' k' s' x' => aft α' c dd σ H' k' s' (g.e.up k') x'
        · refine rd_seq (R := fun _ _ (x : D × D) (y : V × V) => True) (Q := fun _ _ => True) (r := r0) (μ' := μ0) g1 run1 aft1 fun x2 v2 α2 H2 μ2 g2 x2' w2 run2 aft2 => ?_
          cases run2
          cases run
          refine ⟨v1, v2, rfl, ?_⟩
          exact aft α2 _ H2 (x1'.trans x2') g2.s ((g2.e.set i (w1.up x2')).set j w2)
    · cases hn
  · cases h

/-! ### loops -/
/-- at most so many turns -/
def whl (t : Env → M Bool) (b : Env → Ms) : Nat → Env → Ms
  | 0, _ => fun _ => none
  | n + 1, ρ => Ms.of (t ρ) ρ fun c => if c = true then (fun μ => match b ρ μ with
      | some (.nx ρ1, μ1) => whl t b n ρ1 μ1
      | some (.ct ρ1, μ1) => whl t b n ρ1 μ1
      | some (.bk ρ1, μ1) => some (.nx ρ1, μ1)
      | x => x) else fun μ => some (.nx ρ, μ)
def sWhile (m : Env → Nat) (t : CT) (b : CB) : CS := ⟨fun ρ μ => whl t.run b.run (m ρ) ρ μ, fun I st => match st with
  | .While e x [] _ => t.chk I e && b.chk I x
  | _ => false⟩
theorem g_sWhile {m : Env → Nat} {t : CT} {b : CB} (ht : GT Kn k t) (hb : GB Kn k b) : GS Kn k (sWhile m t b) := by
  intro X W cb bs po e h
  dsimp only [sWhile] at h
  split at h
  · rw [Bool.and_eq_true] at h
    refine PS.imp (ps_while po (ht X W cb bs _ h.1) (hb X W cb bs po _ h.2)) ?_
    rintro σ H D ⟨α, ρ, μ, q, μ', g, run, aft⟩
    refine ⟨fun n σ' H' => ∃ α' ρ' μ1, Cfg X.K α' H' ρ' σ' μ1 ∧ Ext α H α' H' ∧ whl t.run b.run n ρ' μ1 = some (q, μ'), ⟨m ρ, α, ρ, μ, g, Ext.refl _ _, run⟩, ?_⟩
    rintro n σ1 H1 ⟨α1, ρ1, μ1, g1, x1, run1⟩
    cases n with
    | zero => cases run1
    | succ n =>
      refine rd_of g1 run1 (aft.up x1) fun d v α2 H2 μ2 g2 x2 r2 run2 aft2 => ?_
      subst r2
      cases d with
      | false =>
        rw [if_neg Bool.false_ne_true]
        exact nx_ret g2.s run2 aft2 g2.e
      | true =>
        rw [if_pos rfl] at run2 ⊢
        refine ⟨fun σ' H' => ∃ α' ρ' μ1, Cfg X.K α' H' ρ' σ' μ1 ∧ Ext α H α' H' ∧ whl t.run b.run n ρ' μ1 = some (q, μ'), fun σ' H' z => ⟨n, Nat.lt_succ_self n, z⟩, ?_⟩
        cases e1 : b.run ρ1 μ2 with
        | none => rw [e1] at run2; cases run2
        | some p =>
          obtain ⟨r3, μ3⟩ := p
          rw [e1] at run2
          cases r3 with
          | nx ρ3 => exact ⟨α2, ρ1, μ2, _, _, g2, e1, fun α' σ' H' k' s' e' => ⟨α', ρ3, μ3, ⟨s', e'⟩, (x1.trans x2).trans k', run2⟩⟩
          | ct ρ3 => exact ⟨α2, ρ1, μ2, _, _, g2, e1, fun α' σ' H' k' s' e' => ⟨α', ρ3, μ3, ⟨s', e'⟩, (x1.trans x2).trans k', run2⟩⟩
          | bk ρ3 => cases run2; exact ⟨α2, ρ1, μ2, _, _, g2, e1, aft2⟩
          | rt d => cases run2; exact ⟨α2, ρ1, μ2, _, _, g2, e1, aft2⟩
          | er x ρ3 => cases run2; exact ⟨α2, ρ1, μ2, _, _, g2, e1, aft2⟩
  · cases h
/-- what is walked: at turn i, by the store as it is then: an item, or the end -/
structure Wk where
  get : Nat → List O → Option (Option D)
  fuel : Nat
def JOk (K : PySem.W.Frag) (α0 : List Addr) (H0 : Hp) (w : Wk) (J : It) : Prop := ∀ α H μ i, Ext α0 H0 α H → RepS K α H μ → match w.get i μ with
  | some none => J.stop i H
  | some (some d) => J.go i H ∧ ∀ x H', J.yld i H x H' → Ext α H α H' ∧ RepS K α H' μ ∧ Rep K α H' d x
  | none => True
structure CI where
  run : Env → M Wk
  chk : Inf → Expr → Expr → Bool
def GI (Kn : Kno) (k : Nat) (c : CI) : Prop := ∀ X W b, Bas Kn k b X W → ∀ tg e, c.chk ⟨X.N, X.env.scope, b⟩ tg e = true → PI X tg e (rd (fun α H w J => JOk X.K α H w J) X.K X.mg W c.run)
theorem PI.imp {X : Cx} {tg e : Expr} {t t' : TI} (h : PI X tg e t) (i : ∀ σ H Q, t' σ H Q → t σ H Q) : PI X tg e t' := ⟨fun pins s σ H Q I q => h.run pins s σ H Q I (i σ H Q q)⟩
def forRun (w : Wk) (g : CG) (b : CB) : Nat → Nat → Env → Ms
  | 0, i, ρ => fun μ => match w.get i μ with
    | some none => some (.nx ρ, μ)
    | _ => none
  | n + 1, i, ρ => fun μ => match w.get i μ with
    | some none => some (.nx ρ, μ)
    | some (some d) => match g.run d ρ μ with
      | some (ρ1, μ1) => match b.run ρ1 μ1 with
        | some (.nx ρ2, μ2) => forRun w g b n (i + 1) ρ2 μ2
        | some (.ct ρ2, μ2) => forRun w g b n (i + 1) ρ2 μ2
        | some (.bk ρ2, μ2) => some (.nx ρ2, μ2)
        | x => x
      | none => none
    | none => none
def noSetI : Expr → Bool
  | .Set _ _ _ => false
  | _ => true
theorem noSetI_eq {e : Expr} {env : PySem.Env} (h : noSetI e = true) : ∀ x, foldedSetIterable e env x = pure x := by
  intro x
  cases e <;> first | rfl | cases h
def sFor (g : CG) (it : CI) (b : CB) : CS := ⟨fun ρ => Ms.of (it.run ρ) ρ fun w => forRun w g b w.fuel 0 ρ, fun I st => match st with
  | .For t e x [] _ => noSetI e && (it.chk I t e && (g.chk I t && b.chk I x))
  | _ => false⟩
theorem g_sFor {tc : CG} {it : CI} {b : CB} (hg : GG Kn k tc) (hi : GI Kn k it) (hb : GB Kn k b) : GS Kn k (sFor tc it b) := by
  intro X W cb bs po e h
  dsimp only [sFor] at h
  split at h
  · simp only [Bool.and_eq_true] at h
    obtain ⟨h0, h1, h2, h3⟩ := h
    refine PS.imp (ps_for po bs.calm (hi X W cb bs _ _ h1) (hg X W cb bs _ h2) (hb X W cb bs po _ h3) (noSetI_eq h0)) ?_
    rintro σ H D ⟨α, ρ, μ, q, μ', g, run, aft⟩
    refine rd_of g run aft fun w J α0 H0 μ0 g0 x0 jok run0 aft0 => ?_
    refine ⟨fun i n σ' H' => ∃ α' ρ' μ1, Cfg X.K α' H' ρ' σ' μ1 ∧ Ext α0 H0 α' H' ∧ forRun w tc b n i ρ' μ1 = some (q, μ'), ⟨w.fuel, α0, ρ, μ0, g0, Ext.refl _ _, run0⟩, ?_⟩
    rintro i n σ1 H1 ⟨α1, ρ1, μ1, g1, x1, run1⟩
    have j1 := jok α1 H1 μ1 i x1 g1.s
    have stop : w.get i μ1 = some none → some (SR.nx ρ1, μ1) = some (q, μ') → J.stop i H1 ∧ D.nx σ1 H1 := fun e1 z => by
      rw [e1] at j1
      exact ⟨j1, nx_ret g1.s z (aft0.up x1) g1.e⟩
    cases n with
    | zero =>
      dsimp only [forRun] at run1
      cases e1 : w.get i μ1 with
      | none => rw [e1] at run1; cases run1
      | some o =>
        cases o with
        | none => rw [e1] at run1; exact .inl (stop e1 run1)
        | some d => rw [e1] at run1; cases run1
    | succ n =>
      dsimp only [forRun] at run1
      cases e1 : w.get i μ1 with
      | none => rw [e1] at run1; cases run1
      | some o =>
        cases o with
        | none => rw [e1] at run1; exact .inl (stop e1 run1)
        | some d =>
          rw [e1] at run1 j1
          obtain ⟨jg, jy⟩ := j1
          refine .inr ⟨jg, fun σ' H' => ∃ α' ρ' μ1, Cfg X.K α' H' ρ' σ' μ1 ∧ Ext α0 H0 α' H' ∧ forRun w tc b n (i + 1) ρ' μ1 = some (q, μ'), fun σ' H' z => ⟨n, Nat.lt_succ_self n, z⟩, fun x H' y => ?_⟩
          obtain ⟨y1, y2, y3⟩ := jy x H' y
          dsimp only at run1
          cases e2 : tc.run d ρ1 μ1 with
          | none => rw [e2] at run1; cases run1
          | some p =>
            obtain ⟨ρ2, μ2⟩ := p
            rw [e2] at run1
            dsimp only at run1
            refine ⟨α1, ρ1, μ1, d, ρ2, μ2, ⟨y2, g1.e.up y1⟩, y3, e2, fun α2 σ2 H2 x2 s2 r2 => ?_⟩
            have x02 : Ext α0 H0 α2 H2 := (x1.trans y1).trans x2
            cases e3 : b.run ρ2 μ2 with
            | none => rw [e3] at run1; cases run1
            | some p =>
              obtain ⟨r3, μ3⟩ := p
              rw [e3] at run1
              cases r3 with
              | nx ρ3 => exact ⟨α2, ρ2, μ2, _, _, ⟨s2, r2⟩, e3, fun α' σ' H' k' s' e' => ⟨α', ρ3, μ3, ⟨s', e'⟩, x02.trans k', run1⟩⟩
              | ct ρ3 => exact ⟨α2, ρ2, μ2, _, _, ⟨s2, r2⟩, e3, fun α' σ' H' k' s' e' => ⟨α', ρ3, μ3, ⟨s', e'⟩, x02.trans k', run1⟩⟩
              | bk ρ3 => cases run1; exact ⟨α2, ρ2, μ2, _, _, ⟨s2, r2⟩, e3, aft0.up x02⟩
              | rt d => cases run1; exact ⟨α2, ρ2, μ2, _, _, ⟨s2, r2⟩, e3, aft0.up x02⟩
              | er x ρ3 => cases run1; exact ⟨α2, ρ2, μ2, _, _, ⟨s2, r2⟩, e3, aft0.up x02⟩
  · cases h
/-! ### what is walked: a list, a tuple, range -/
def wkOf (ds : List D) : Wk := ⟨fun i _ => some ds[i]?, ds.length⟩
def wkL (l n : Nat) : Wk := ⟨fun i μ => match μ[l]? with
  | some (.lst ds) => some ds[i]?
  | _ => none, n⟩
/-- x walked: a list as it stands at each turn -/
def seqW : D → M Wk
  | .fro ds => M.ret (wkOf ds)
  | .ref l => M.bnd (M.lst l) fun ds => M.ret (wkL l ds.length)
  | _ => M.stop
def tupW : D → M Wk
  | .tup ds => M.ret (wkOf ds)
  | _ => M.stop
def iL (a : CE) : CI := ⟨fun ρ => M.bnd (a.run ρ) seqW, fun I _ e => a.chk I e⟩
def iT (a : CE) : CI := ⟨fun ρ => M.bnd (a.run ρ) tupW, fun I _ e => a.chk I e⟩
theorem jok_tup {K : PySem.W.Frag} {α : List Addr} {H : Hp} {ds : List D} {vs : List V} {p : Addr} (t : SqT K H p vs) (r : Reps K α H ds vs) : JOk K α H (wkOf ds) (Itt K p) := by
  intro α1 H1 μ i x s
  have t1 := x.sqT t
  have r1 := r.up x
  dsimp only [wkOf]
  cases e : ds[i]? with
  | none => exact ⟨vs, t1, by rw [r1.len]; exact List.getElem?_eq_none_iff.mp e⟩
  | some d =>
    obtain ⟨v, h1, h2⟩ := r1.get e
    refine ⟨⟨vs, v, t1, h1⟩, fun y H' hy => ?_⟩
    obtain ⟨eh, q⟩ := hy
    subst eh
    have q1 := q vs t1
    rw [h1] at q1
    cases q1
    exact ⟨Ext.refl _ _, s, h2⟩
theorem jok_fro {K : PySem.W.Frag} {α : List Addr} {H : Hp} {ds : List D} {vs : List V} {p : Addr} (t : FqL K H p vs) (r : Reps K α H ds vs) : JOk K α H (wkOf ds) (Itl K p) := by
  intro α1 H1 μ i x s
  have t1 := (x.fqL t).sq
  have r1 := r.up x
  dsimp only [wkOf]
  cases e : ds[i]? with
  | none => exact ⟨vs, t1, by rw [r1.len]; exact List.getElem?_eq_none_iff.mp e⟩
  | some d =>
    obtain ⟨v, h1, h2⟩ := r1.get e
    refine ⟨⟨vs, v, t1, h1⟩, fun y H' hy => ?_⟩
    obtain ⟨eh, q⟩ := hy
    subst eh
    have q1 := q vs t1
    rw [h1] at q1
    cases q1
    exact ⟨Ext.refl _ _, s, h2⟩
theorem jok_lst {K : PySem.W.Frag} {α : List Addr} {H : Hp} {l n : Nat} {p : Addr} (a : α[l]? = some p) : JOk K α H (wkL l n) (Itl K p) := by
  intro α1 H1 μ i x s
  have a1 := x.pre l p a
  dsimp only [wkL]
  cases e0 : μ[l]? with
  | none => trivial
  | some o =>
    cases o with
    | dct _ => trivial
    | lst ds =>
      obtain ⟨vs, hp, r1⟩ := s.at_ l _ p e0 a1
      dsimp only
      cases e : ds[i]? with
      | none => exact ⟨vs, SqL.of hp, by rw [r1.len]; exact List.getElem?_eq_none_iff.mp e⟩
      | some d =>
        obtain ⟨v, h1, h2⟩ := r1.get e
        refine ⟨⟨vs, v, SqL.of hp, h1⟩, fun y H' hy => ?_⟩
        obtain ⟨eh, q⟩ := hy
        subst eh
        have q1 := q vs (SqL.of hp)
        rw [h1] at q1
        cases q1
        exact ⟨Ext.refl _ _, s, h2⟩
theorem g_iT {a : CE} (ha : GE Kn k a) : GI Kn k (iT a) := by
  intro X W cb bs tg e h
  refine PI.imp (pi_tup (ha X W cb bs e h)) ?_
  rintro σ H R ⟨α, ρ, μ, q, μ', g, run, aft⟩
  refine rd_seq g run aft fun d v α1 H1 μ1 g1 k1 r1 run1 aft1 => ?_
  cases d with
  | tup ds =>
    obtain ⟨p, vs, e, t, w⟩ := r1
    exact ⟨p, e, ⟨vs, t⟩, rd_ret (R := fun α H w J => JOk X.K α H w J) g1.s run1 aft1 (jok_tup t w)⟩
  | _ => cases run1
theorem g_iL {a : CE} (ha : GE Kn k a) : GI Kn k (iL a) := by
  intro X W cb bs tg e h
  refine PI.imp (pi_list (ha X W cb bs e h)) ?_
  rintro σ H R ⟨α, ρ, μ, q, μ', g, run, aft⟩
  refine rd_seq g run aft fun d v α1 H1 μ1 g1 k1 r1 run1 aft1 => ?_
  cases d with
  | fro ds =>
    obtain ⟨p, vs, e, t, w⟩ := r1
    exact ⟨p, e, ⟨vs, t.sq⟩, rd_ret (R := fun α H w J => JOk X.K α H w J) g1.s run1 aft1 (jok_fro t w)⟩
  | ref l =>
    obtain ⟨ds, h1, run1⟩ := bnd_lst run1
    obtain ⟨p1, v1, e1, a1, b1, c1⟩ := lst_at g1.s r1 h1
    exact ⟨p1, e1, ⟨v1, SqL.of b1⟩, rd_ret (R := fun α H w J => JOk X.K α H w J) g1.s run1 aft1 (jok_lst a1)⟩
  | _ => cases run1
def wkR (lo : Int) (n : Nat) : Wk := ⟨fun i _ => if i < n then some (some (.int (lo + i))) else some none, n⟩
def ok62 (i : Int) : Prop := -(2 ^ 62) ≤ i ∧ i < 2 ^ 62
instance (i : Int) : Decidable (ok62 i) := by unfold ok62; infer_instance
def rngW1 : D → M Wk
  | .int n => if ok62 n then M.ret (wkR 0 n.toNat) else M.stop
  | _ => M.stop
def rngW2 : D → D → M Wk
  | .int a, .int b => if ok62 a ∧ ok62 b then M.ret (wkR a (b - a).toNat) else M.stop
  | _, _ => M.stop
theorem jok_rng {K : PySem.W.Frag} {α : List Addr} {H : Hp} {lo : Int} {n : Nat} : JOk K α H (wkR lo n) (Itr lo n) := by
  intro α1 H1 μ i x s
  dsimp only [wkR]
  by_cases h : i < n
  · rw [if_pos h]
    refine ⟨h, fun y H' hy => ?_⟩
    obtain ⟨eh, q⟩ := hy
    subst eh
    exact ⟨Ext.refl _ _, s, q⟩
  · rw [if_neg h]
    exact Nat.le_of_not_lt h
def iR1 (a : CE) : CI := ⟨fun ρ => M.bnd (a.run ρ) rngW1, fun I _ e => match e with
  | .Call (.Name y _) [x] [] _ => decide (y = ("range" : Str)) && (glo I.sc y && (noStar x && a.chk I x))
  | _ => false⟩
theorem g_iR1 {a : CE} (hb : Bare Kn "range") (ha : GE Kn k a) : GI Kn k (iR1 a) := by
  intro X W cb bs tg e h
  dsimp only [iR1] at h
  split at h
  · simp only [Bool.and_eq_true, decide_eq_true_eq, glo] at h
    obtain ⟨h1, h2, h3, h4⟩ := h
    subst h1
    refine PI.imp (pi_range1 h2 (hb _ _ _ _ _ bs.kn) (pa_cons (ha X W cb bs _ h4) pa_nil (star_cons h3)) (star_cons h3)) ?_
    rintro σ H R ⟨α, ρ, μ, q, μ', g, run, aft⟩
    refine rd_seq g run aft fun d v α1 H1 μ1 g1 k1 r1 run1 aft1 => ?_
    cases d with
    | int n =>
      dsimp only [rngW1] at run1
      split at run1
      · rename_i hn
        exact ⟨n, by rw [show v = .int n from r1], hn.1, hn.2, rd_ret (R := fun α H w J => JOk X.K α H w J) g1.s run1 aft1 jok_rng⟩
      · cases run1
    | _ => cases run1
  · cases h
def iR2 (a b : CE) : CI := ⟨fun ρ => M.bnd (a.run ρ) fun x => M.bnd (b.run ρ) fun y => rngW2 x y, fun I _ e => match e with
  | .Call (.Name y _) [x, z] [] _ => decide (y = ("range" : Str)) && (glo I.sc y && (noStar x && (noStar z && (a.chk I x && b.chk I z))))
  | _ => false⟩
theorem g_iR2 {a b : CE} (hbr : Bare Kn "range") (ha : GE Kn k a) (hb : GE Kn k b) : GI Kn k (iR2 a b) := by
  intro X W cb bs tg e h
  dsimp only [iR2] at h
  split at h
  · simp only [Bool.and_eq_true, decide_eq_true_eq, glo] at h
    obtain ⟨h1, h2, h3, h3', h4, h5⟩ := h
    subst h1
    refine PI.imp (pi_range2 h2 (hbr _ _ _ _ _ bs.kn) (pa_cons (ha X W cb bs _ h4) (pa_cons (hb X W cb bs _ h5) pa_nil (star_cons h3')) (star_cons h3)) (by rw [star_cons h3, star_cons h3']; rfl) (by rw [star_cons h3']; rfl)) ?_
    rintro σ H R ⟨α, ρ, μ, q, μ', g, run, aft⟩
    refine rd_seq g run aft fun d v α1 H1 μ1 g1 k1 r1 run1 aft1 => ?_
    refine rd_seq g1 run1 aft1 fun d2 v2 α2 H2 μ2 g2 k2 r2 run2 aft2 => ?_
    have r1' := r1.up k2
    cases d with
    | int n =>
      cases d2 with
      | int m =>
        dsimp only [rngW2] at run2
        split at run2
        · rename_i hn
          exact ⟨n, m, by rw [show v = .int n from r1', show v2 = .int m from r2], ⟨hn.1.1, hn.1.2, hn.2.1, hn.2.2⟩, rd_ret (R := fun α H w J => JOk X.K α H w J) g2.s run2 aft2 jok_rng⟩
        · cases run2
      | _ => cases run2
    | _ => cases run2
  · cases h
end
end Mi
/-! Mi, part F: a def by its code; the law's end. -/
namespace Mi
open PySem L2 PyProof.Rows
variable [Tb]

/-- the function of data that a def's code is: N slots, np parameters -/
def mir (N np : Nat) (run : Env → Ms) : List D → M D := fun ds μ =>
  if ds.length = np then match run (ds.map some ++ List.replicate (N - np) none) μ with
    | some (.nx _, μ') => some (.ok .non, μ')
    | some (.rt d, μ') => some (.ok d, μ')
    | some (.er x _, μ') => some (.error x, μ')
    | _ => none
  else none
theorem mir_len {N np : Nat} {run : Env → Ms} {ds : List D} {μ : List O} {p : Except Ex D × List O} (h : mir N np run ds μ = some p) : ds.length = np := by
  unfold mir at h
  split at h
  · assumption
  · cases h
section
variable {P : Program} {w : World} {K : PySem.W.Frag} {mg : Str → Option Value} {base : Heap}
/-- THE RULE: a def whose code is good is worth its function -/
theorem fnGL {Kn : Kno} {x qual : Str} {st : Stmt} {f : Addr} {fd : FuncData} {N ps : List Str} {k : Nat} {c : CB} {cb : Str → Bool} (hcb : cb Str.empty = true → LamC base mg fd.code (qual ++ ".<locals>.")) (F : Fun K x qual st f fd) (S : FnScope N ps (defScope st)) (hk : Kn P w K mg base) (sys : SysOk P base) (hg : GB Kn k c)
    (hc : c.chk ⟨N, defScope st, cb⟩ (defBody st) = true) : FnG P w K mg base (k + 1) f fd ps (spOf K mg (mir N.length ps.length c.run)) := by
  obtain ⟨oc, od, kV, doc, pm, an, cdv, ct, osl, rfl, lk, hcd⟩ := F.ex
  have len : ∀ vs H Q E, spOf K mg (mir N.length ps.length c.run) vs H Q E → vs.length = ps.length := by
    rintro vs H Q E ⟨α, μ, ds, r, μ', s, w, run, _⟩
    rw [w.len]
    exact mir_len run
  refine ⟨len, fun A outer s H args us vs Q E hr hgd e0 hb r hsp => ?_⟩
  have hl := len _ _ _ _ hsp
  have lim : s.heap.NoLimit := e0.mod.nolimit.keeps fun b o e => (e0.bs b o e).1
  have KX : K.In s.heap := e0.mod.kin.keeps fun b o e => (e0.bs b o e).1
  have kinds : ∀ y ∈ ps.zip us, (defScope st).names.lookup y.1 = some .local ∨ ((defScope st).names.lookup y.1 = some .cell ∧ ((cellsFrom (s.heap.objs.size + 1) (defScope st).names []).lookup y.1).isSome = true) := fun y hy => by
    rcases S.par y.1 (List.of_mem_zip (a := y.1) (b := y.2) hy).1 with q | q
    · exact .inl q
    · exact .inr ⟨q, PySem.W.cellsFrom_some _ _ _ (.inl q)⟩
  obtain ⟨α, μ, ds, r0, μ', sS, w0, run, aft⟩ := hsp
  have hdl := mir_len run
  unfold mir at run
  rw [if_pos hdl] at run
  refine codeAny_call_function hr.r.depth (KX _ _ lk) rfl S.co S.gen rfl (PySem.W.codeRec_of KX hcd) (hb _ _ _ _ (wpAny_newFunctionEnv_cells S.kind kinds fun env he s1 x => ?_))
  subst he
  refine ⟨lim.keeps x.toInCall.keep, codeAny_func ?_⟩
  have I : Inv (cxOf (CXr P w) P w K mg base N qual (defScope st) f cdv A outer s H E) [] (L2.start N vs) H s1 := inv_start S hr.r.hd e0 hl r x
  have bas : Bas Kn k cb (cxOf (CXr P w) P w K mg base N qual (defScope st) f cdv A outer s H E) (fun c d _ H' => E c d H') :=
    ⟨hk, rfl, S.nd, hr.deeper _, hgd, takes_of rfl rfl rfl rfl, sys, ⟨_, _, rfl, S.gen, S.co, rfl, rfl⟩, fun _ _ => rfl, hcb⟩
  have body := hg _ _ _ bas (passes_of rfl) (defBody st) hc
  have e1 : RepE K α H (ds.map some ++ List.replicate (N.length - ps.length) none) (L2.start N vs) := by
    have := RepE.start (N := N) w0
    rwa [hdl] at this
  cases hrun : c.run (ds.map some ++ List.replicate (N.length - ps.length) none) μ with
  | none => rw [hrun] at run; cases run
  | some p =>
    obtain ⟨sr, μ1⟩ := p
    rw [hrun] at run
    have q : rdS K mg (fun c d _ H' => E c d H') c.run { nx := fun _ H' => Q .non H', rt := Q } (L2.start N vs) H := by
      refine ⟨α, _, μ, sr, μ1, ⟨sS, e1⟩, hrun, ?_⟩
      cases sr with
      | nx ρ => cases run; exact fun α' σ' H' k' s' _ => aft α' .non H' k' s' rfl
      | rt d => cases run; exact fun α' v H' k' s' r' => aft α' v H' k' s' r'
      | er x ρ => cases run; exact fun α' cc dd σ' H' k' s' _ x' => aft α' cc dd H' k' s' x'
      | bk ρ => cases run
      | ct ρ => cases run
    refine wpAny_mono (body.run [] s1 _ H _ I q) (fun fl s' hs => ?_) fun e s' z => z
    have done : ∀ {σ' : L2.St} {H' : Hp} {v : V} {u : Value}, Inv (cxOf (CXr P w) P w K mg base N qual (defScope st) f cdv A outer s H E) [] σ' H' s' → RelV v u → Q v H' → L2.CE outer P w H s Q u s' :=
      fun {σ' H' v u} J rv z => ⟨v, H', J.os, J.bare, J.base, J.hok, rv, z⟩
    cases fl with
    | ret u =>
      obtain ⟨v, σ', H', J, rv, z⟩ := hs
      exact done J rv z
    | next =>
      obtain ⟨σ', H', J, z⟩ := hs
      exact done (v := V.non) (u := Value.none) J rfl z
    | brk =>
      obtain ⟨_, _, _, z⟩ := hs
      exact z.elim
    | cont =>
      obtain ⟨_, _, _, z⟩ := hs
      exact z.elim
theorem fnG {Kn : Kno} {x qual : Str} {st : Stmt} {f : Addr} {fd : FuncData} {N ps : List Str} {k : Nat} {c : CB} (F : Fun K x qual st f fd) (S : FnScope N ps (defScope st)) (hk : Kn P w K mg base) (sys : SysOk P base) (hg : GB Kn k c)
    (hc : c.chk ⟨N, defScope st, nlam⟩ (defBody st) = true) : FnG P w K mg base (k + 1) f fd ps (spOf K mg (mir N.length ps.length c.run)) :=
  fnGL (cb := nlam) (fun z => by cases (show false = true from z)) F S hk sys hg hc
end

/-! ### the law's end -/
/-- the script as data -/
def scr (ns : List Int) : D := .fro (ns.map .int)
theorem reps_ints {K : PySem.W.Frag} {α : List Addr} {H : Hp} : ∀ ns : List Int, Reps K α H (ns.map D.int) (ns.map V.int)
  | [] => rfl
  | n :: ns => ⟨.int n, ns.map V.int, rfl, rfl, reps_ints ns⟩
/-- the law's call, with tables: cs, the code objects and their tables -/
theorem lawGT {P : Program} {w : World} {K : PySem.W.Frag} {mg mb : Str → Option Value} {k : Nat} {fa a : Addr} {cs : List (Addr × Addr)} {fd : FuncData} {x : Str} {m : List D → M D} {s₁ : Shared} {vs : List Value} {ns : List Int}
    (KX : K.In s₁.heap) (hns : s₁.heap.Ns mainGlobals mg) (hb : s₁.heap.Ns builtinsNs mb) (hbb : ∀ x : Str, x ≠ "__name__" → mb x = bootBuiltins x) (hlim : s₁.heap.NoLimit) (hseer : s₁.heap.NoSeer) (hg : s₁.gens = #[])
    (hT : ∀ p ∈ cs, s₁.heap.get? p.2 = some { cls := .none, data := .fields #[] }) (nT : ∀ p ∈ cs, K.lookup p.2 = none) (C : ∀ p ∈ cs, PySem.W.CodeHd s₁.heap p.1 p.2)
    (hbm : ∃ (bm : Addr) (ob : Obj), mg "__builtins__" = some (.ref bm) ∧ bm ≠ builtinsNs ∧ s₁.heap.get? bm = some ob ∧ ob.cls = .type "module" ∧ ob.dict = some builtinsNs ∧ ob.data = .plain) (htb : ∀ p ∈ Tb.T, p.1 ∈ cs.map (·.2))
    (ha : s₁.heap.get? a = some { cls := .type "list", data := .seq vs.toArray }) (hi : IntsAre vs ns) (hl : ns.length ≤ sizeLine) (hr : RoomB k callerA) (htree : P.given.tree = none)
    (F : ∀ base : Heap, K.In base → base.Ns mainGlobals mg → SysOk P base → (∀ p ∈ cs, LamX.TabB base mg p.1 p.2) → FnG P w K mg base k fa fd [x] (spOf K mg m)) (hbind : ∀ (s : Shared) (u : Value), BindsTo s fd ⟨[u], []⟩ [(x, u)])
    (hm : ∃ μ', m [scr ns] [] = some (.ok (.bl true), μ')) :
    codeAny (model P w) callerA (.call (.ref fa) ⟨[.ref a], []⟩) (fun r s' => r = .ok (.ret (.bool true)) ∧ OldK s₁.heap s'.heap ∧ s'.os = s₁.os ∧ AllBare s'.gens) s₁ := by
  have rv := vals_ints hi
  have lenV := hi.length
  obtain ⟨μ', hm⟩ := hm
  have isT : ∀ b : Addr, b ∈ cs.map (·.2) → s₁.heap.get? b = some { cls := .none, data := .fields #[] } := fun b hb => by
    obtain ⟨p, hp, e⟩ := List.mem_map.mp hb
    rw [← e]
    exact hT p hp
  have aT : a ∉ cs.map (·.2) := fun z => by
    have q := isT a z
    rw [ha] at q
    have z' : Data.seq vs.toArray _ = Data.fields #[] := congrArg Obj.data (Option.some.inj q)
    cases z'
  have memT : ∀ p ∈ cs, p.2 ∈ cs.map (·.2) := fun p hp => List.mem_map.mpr ⟨p, hp, rfl⟩
  have main : ∀ H : Hp, (∀ p ∈ cs, H p.2 = some (.tbl #[])) → (∀ b, H b = none ∨ b ∈ cs.map (·.2) ∨ ∃ o xs, H b = some (.frz o (.lst xs))) → FqL K H a (ns.map V.int) → HOk P w H s₁.heap → (∀ b, H b ≠ none → b = a ∨ b ∈ cs.map (·.2)) → (H a ≠ none → K.lookup a = none) →
      codeAny (model P w) callerA (.call (.ref fa) ⟨[.ref a], []⟩) (fun r s' => r = .ok (.ret (.bool true)) ∧ OldK s₁.heap s'.heap ∧ s'.os = s₁.os ∧ AllBare s'.gens) s₁ := by
    intro H hH hO hS hok hA hK
    have noD : ∀ {b : Addr} {o : Obj}, s₁.heap.get? b = some o → (∀ vs n, o.data ≠ .seq vs n) → o.data ≠ .fields #[] → H b = none := fun {b o} e h1 h2 => by
      cases q : H b with
      | none => rfl
      | some u =>
        rcases hA b (by rw [q]; simp) with e' | e'
        · rw [e', ha] at e
          cases e
          exact (h1 _ _ rfl).elim
        · rw [isT b e'] at e
          cases e
          exact (h2 rfl).elim
    have notA : ∀ {b : Addr} {o : Obj} {es : Array DictEntry} {ep : Nat}, s₁.heap.get? b = some o → o.data = .dict es ep → H b = none := fun {b o es ep} e d => by
      refine noD e (fun vs n z => ?_) fun z => ?_
      · rw [d] at z
        cases z
      · rw [d] at z
        cases z
    have ns_at : ∀ {b : Addr} {m : Str → Option Value}, s₁.heap.Ns b m → (hidT s₁.heap H).Ns b m := fun {b m} z => by
      obtain ⟨o, es, ep, e, d, r⟩ := z
      exact ⟨o, es, ep, hidT_get e (notA e d), d, r⟩
    have kin : K.In (hidT s₁.heap H) := fun b o e => hidT_get (KX b o e) (by
      cases q : H b with
      | none => rfl
      | some u =>
        rcases hA b (by rw [q]; simp) with e' | e'
        · subst e'
          rw [hK (by rw [q]; simp)] at e
          cases e
        · obtain ⟨p, hp, ep⟩ := List.mem_map.mp e'
          rw [← ep, nT p hp] at e
          cases e)
    have lim : (hidT s₁.heap H).NoLimit := by
      obtain ⟨mc, h1, h2⟩ := hlim
      exact ⟨mc, ns_at h1, h2⟩
    have seer_hid : (hidT s₁.heap H).NoSeer := by
      refine ⟨?_, ?_, ?_, ?_⟩
      · obtain ⟨mc, h1, h2⟩ := hseer.statics
        exact ⟨mc, ns_at h1, h2⟩
      · obtain ⟨mc, h1, h2⟩ := hseer.mods
        exact ⟨mc, ns_at h1, h2⟩
      · obtain ⟨mc, h1, h2⟩ := hseer.imp
        exact ⟨mc, ns_at h1, h2⟩
      · obtain ⟨mg, bm, ob, h1, h2, h3, h4, h5⟩ := hseer.main
        refine ⟨mg, bm, ob, ns_at h1, h2, hidT_get h3 ?_, h4, h5⟩
        cases q : H bm with
        | none => rfl
        | some u =>
          rcases hA bm (by rw [q]; simp) with e' | e'
          · subst e'
            rw [ha] at h3
            cases h3
            simp at h4
          · rw [isT bm e'] at h3
            cases h3
            simp at h4
    have sysT : ∃ o, (hidT s₁.heap H).get? sysModules = some o := by
      obtain ⟨mm, ⟨o, es, ep, e, d, _⟩, _⟩ := hseer.mods
      exact ⟨o, hidT_get e (notA e d)⟩
    have TBs : ∀ p ∈ cs, LamX.TabB (hidT s₁.heap H) mg p.1 p.2 := fun p hp => by
      have hTp := hT p hp
      refine ⟨?_, ?_, fun z => ?_⟩
      · obtain ⟨o, us, file, tf, flags, tg, inF, text, tt, e1, r1, r2, r3, r4, r5, r6, r7, r8, hne⟩ := C p hp
        refine ⟨o, us, file, tf, flags, tg, inF, text, tt, hidT_get e1 (noD e1 (fun vs n z => ?_) fun z => ?_), r1, r2, r3, r4, r5, r6, r7, r8, hne⟩
        · rw [r2] at z
          cases z
        · rw [r2] at z
          cases z
          simp at r3
      · obtain ⟨bm, ob, b1, b2, b3, b4, b5, b6⟩ := hbm
        have nG : bm ≠ mainGlobals := fun q => by
          obtain ⟨o, es, ep, e, hd, _⟩ := hns
          rw [q, e] at b3
          cases b3
          rw [hd] at b6
          cases b6
        have nP : bm ≠ p.2 := fun q => by
          rw [q, hTp] at b3
          cases b3
          cases b6
        refine ⟨bm, ob, b1, b2, nG, nP, hidT_get b3 (noD b3 (fun vs n z => ?_) fun z => ?_), b4, b5, b6⟩
        · rw [b6] at z
          cases z
        · rw [b6] at z
          cases z
      · obtain ⟨o, es, ep, e, hd, _⟩ := hns
        rw [z, hTp] at e
        cases e
        cases hd
    have tabs : LamX.Tabs Tb.T H := fun p hp => by
      obtain ⟨c, hc, e⟩ := List.mem_map.mp (htb p hp)
      exact LamX.TabS.nil (by rw [← e]; exact hH c hc)
    have mod : Mod K mg (hidT s₁.heap H) := ⟨kin, ns_at hns, ⟨mb, ns_at hb, hbb⟩, lim⟩
    have e0 : Env0 P w K mg (hidT s₁.heap H) callerA [] s₁ H := ⟨rfl, mod, fun b o e => of_hidT e, Nat.le_of_eq (hidT_size _ _), trivial, fun b z => (List.not_mem_nil z).elim, hok, .of_eq hg⟩
    have sp : spOf K mg m [.ref a] H (fun v _ => v = .bl true) (fun _ _ _ => False) := by
      refine ⟨[], [], [scr ns], .ok (.bl true), μ', ⟨rfl, List.nodup_nil, fun l o p h => by simp at h, tabs⟩, ⟨.ref a, [], rfl, ⟨a, ns.map V.int, rfl, hS, reps_ints ns⟩, rfl⟩, hm, fun α' v H' _ _ r => r⟩
    refine codeAny_mono ((F _ kin (ns_at hns) ⟨sysT, seer_hid, htree⟩ TBs).run callerA [] s₁ H ⟨[.ref a], []⟩ [.ref a] [.ref a] _ _ hr rfl e0 (hbind s₁ (.ref a)) (.cons rfl .nil) sp) fun r s' h => ?_
    cases r with
    | error e =>
      obtain ⟨_, _, _, _, _, _, _, _, _, _, _, _, z⟩ := h
      exact z.elim
    | ok fl =>
      cases fl with
      | next => exact False.elim h
      | brk => exact False.elim h
      | cont => exact False.elim h
      | ret u =>
        obtain ⟨v, H', os, bare, un, hok', r', q⟩ := h
        subst q
        obtain rfl : u = Value.bool true := r'
        have key : ∀ b o, b ∉ cs.map (·.2) → s₁.heap.get? b = some o → s'.heap.get? b = some o := fun b o nb e => by
          cases q : H b with
          | none => exact un.keep b o e q (List.not_mem_nil) (List.not_mem_nil)
          | some u =>
            rcases hO b with z | z | ⟨ob, xs, z⟩
            · rw [q] at z; cases z
            · exact absurd z nb
            · have z2 := un.frzs b ob _ z
              obtain ⟨e1, _⟩ := hok b _ z
              obtain ⟨e2, _⟩ := hok' b _ z2
              rw [e] at e1; cases e1
              exact e2
        have grown : ∀ p ∈ cs, ∃ more : Array Value, s'.heap.get? p.2 = some { cls := .none, data := .fields more } := fun p hp => by
          obtain ⟨more, z⟩ := un.tbls p.2 #[] (hH p hp)
          exact ⟨_, hok' p.2 _ z⟩
        refine ⟨rfl, ⟨fun b o e => ?_, fun b o e => ?_⟩, os, bare⟩
        · by_cases hb : b ∈ cs.map (·.2)
          · obtain ⟨p, hp, ep⟩ := List.mem_map.mp hb
            obtain ⟨more, hm⟩ := grown p hp
            rw [← ep] at e ⊢
            rw [hT p hp] at e
            cases e
            exact .inr (.inl ⟨((C p hp).tab (hT p hp)).isCodeTable, rfl, #[], more, rfl, by rw [Array.empty_append]; exact hm⟩)
          · exact .inl (key b o hb e)
        · by_cases hb : b ∈ cs.map (·.2)
          · obtain ⟨p, hp, ep⟩ := List.mem_map.mp hb
            obtain ⟨more, hm⟩ := grown p hp
            rw [← ep]
            exact ⟨_, hm⟩
          · exact ⟨o, key b o hb e⟩
  cases hk : K.lookup a with
  | some o =>
    have e := KX a o hk
    rw [ha] at e
    cases e
    refine main (fun b => if b ∈ cs.map (·.2) then some (.tbl #[]) else none) (fun p hp => if_pos (memT p hp)) (fun b => ?_) (.inr (.inr ⟨_, vs.toArray, _, hk, rfl, rfl, rfl, by rw [List.size_toArray, lenV]; exact hl, by simpa using rv⟩)) (fun b u z => ?_) (fun b z => ?_) fun z => absurd (show (if a ∈ cs.map (·.2) then some (HO.tbl #[]) else none) = none from if_neg aT) z
    · by_cases hb : b ∈ cs.map (·.2)
      · exact .inr (.inl hb)
      · exact .inl (if_neg hb)
    · by_cases hb : b ∈ cs.map (·.2)
      · have z' := (if_pos hb).symm.trans z
        cases z'
        exact isT b hb
      · have z' := (if_neg hb).symm.trans z
        cases z'
    · by_cases hb : b ∈ cs.map (·.2)
      · exact .inr hb
      · exact absurd (if_neg hb) z
  | none =>
    refine main (fun b => if b = a then some (.frz { cls := .type "list", data := .seq vs.toArray } (.lst (ns.map V.int))) else if b ∈ cs.map (·.2) then some (.tbl #[]) else none) (fun p hp => (if_neg (show ¬ p.2 = a from fun z => aT (by rw [← z]; exact memT p hp))).trans (if_pos (memT p hp))) (fun b => ?_)
      (.inl ⟨{ cls := .type "list", data := .seq vs.toArray }, if_pos rfl⟩) (fun b u z => ?_) (fun b z => ?_) fun _ => hk
    · by_cases hb : b = a
      · exact .inr (.inr ⟨_, _, if_pos hb⟩)
      · by_cases hb2 : b ∈ cs.map (·.2)
        · exact .inr (.inl hb2)
        · exact .inl ((if_neg hb).trans (if_neg hb2))
    · by_cases hb : b = a
      · have z' := (if_pos hb).symm.trans z
        cases z'
        rw [hb]
        exact ⟨ha, by rw [List.length_map]; exact hl, vs, _, rv, ha⟩
      · have z1 := (if_neg hb).symm.trans z
        by_cases hb2 : b ∈ cs.map (·.2)
        · have z' := (if_pos hb2).symm.trans z1
          cases z'
          exact isT b hb2
        · have z' := (if_neg hb2).symm.trans z1
          cases z'
    · by_cases hb : b = a
      · exact .inl hb
      · by_cases hb2 : b ∈ cs.map (·.2)
        · exact .inr hb2
        · exact absurd ((if_neg hb).trans (if_neg hb2)) z
/-- the tables that stand empty: those of the program's defs -/
def OwnTabs (q : Program) (K : PySem.W.Frag) (mg : Str → Option Value) (h : Heap) : Prop := ∀ (x : Str), ((recsOf q).any fun e => e.name == x) = true → ∀ fa, mg x = some (.ref fa) → LamX.OwnTab K fa h
/-- from the law's function to the walk: the same for every script of the length that the row allows -/
theorem walkGT {l : PySem.W.OpenLaw} {n k : Nat} {q : Program} {loose : List Str} {XP : (Str → Option Value) → Heap → Prop} {YP : World → Heap → Prop} {d : DefRec} {K : Params → PySem.W.Frag} {m : List D → M D} {x : Str}
    (hn : l.most = some n) (hn2 : n ≤ sizeLine) (hdf : d.params.defaults = []) (hr : RoomB k callerA) (htree : l.prog.given.tree = none) (hi : importsNone q = true) (hY : ∀ (w : World) (h : Heap), YP w h → (K w.params).In h)
    (F : ∀ (w : World) (mg : Str → Option Value) (fa : Addr) (h : Heap), (K w.params).In h → h.Ns mainGlobals mg → mg d.name = some (.ref fa) → OwnTabs q (K w.params) mg h →
      ∃ (fd : FuncData) (cs : List (Addr × Addr)) (_ : Tb), (∀ (s : Shared) (u : Value), BindsTo s fd ⟨[u], []⟩ [(x, u)]) ∧ (∀ p ∈ cs, h.get? p.2 = some { cls := .none, data := .fields #[] }) ∧ (∀ p ∈ cs, (K w.params).lookup p.2 = none) ∧ (∀ p ∈ cs, PySem.W.CodeHd h p.1 p.2) ∧ (∀ p ∈ Tb.T, p.1 ∈ cs.map (·.2)) ∧
        ∀ base : Heap, (K w.params).In base → base.Ns mainGlobals mg → SysOk l.prog base → (∀ p ∈ cs, LamX.TabB base mg p.1 p.2) → FnG l.prog w (K w.params) mg base k fa fd [x] (spOf (K w.params) mg m))
    (hm : ∀ ns : List Int, ns.length ≤ n → ∃ μ', m [scr ns] [] = some (.ok (.bl true), μ')) :
    PySem.W.WalkO q loose XP YP l.row.toRowW d [] (fun f vs => PySem.call f vs) := by
  refine Att.attach_call hn hdf fun w s₀ s₁ mg mb fa o pm cd doc a vs ns G Y ho hd hcd hmg hobj hints hlen hg => ?_
  have KX := hY w _ Y
  have own : OwnTabs q (K w.params) mg s₁.heap := fun x hx fa' hfa c P o1 fd1 e dd vs1 sl k1 k2 k3 k4 k5 => by
    obtain ⟨dL, hm, hn1⟩ := List.any_eq_true.mp hx
    have hn2 : dL.name = x := beq_iff_eq.mp hn1
    obtain ⟨a', o', fd', c', P', h1, h2, h3, h4, h5, h6⟩ := G.T.tab dL hm
    rw [hn2, hfa] at h1
    cases h1
    have g1 := KX _ _ k1
    rw [g1] at h2
    cases h2
    rw [k2] at h3
    cases h3
    rw [k3] at h4
    cases h4
    obtain ⟨⟨oc, vc, e1, _, e3, e4⟩, hP⟩ := h6
    have g2 := KX _ _ k4
    rw [g2] at e1
    cases e1
    cases e3
    rw [k5] at e4
    cases e4
    exact hP
  obtain ⟨fd, cs, tbI, hb, hT, nT, C, htb, hF⟩ := F w mg fa _ KX G.T.g hmg own
  exact lawGT KX G.T.g G.T.b G.T.builtins G.T.nolimit (G.T.seer hi) hg hT nT C G.T.bmain htb hobj hints (Nat.le_trans hlen hn2) hr htree hF hb (hm ns hlen)
theorem walkG {l : PySem.W.OpenLaw} {n k : Nat} {q : Program} {loose : List Str} {XP : (Str → Option Value) → Heap → Prop} {YP : World → Heap → Prop} {d : DefRec} {K : Params → PySem.W.Frag} {m : List D → M D} {x : Str}
    (hn : l.most = some n) (hn2 : n ≤ sizeLine) (hdf : d.params.defaults = []) (hr : RoomB k callerA) (htree : l.prog.given.tree = none) (hi : importsNone q = true) (hY : ∀ (w : World) (h : Heap), YP w h → (K w.params).In h)
    (F : ∀ (w : World) (mg : Str → Option Value) (fa : Addr) (h : Heap), (K w.params).In h → h.Ns mainGlobals mg → mg d.name = some (.ref fa) →
      ∃ fd : FuncData, (∀ (s : Shared) (u : Value), BindsTo s fd ⟨[u], []⟩ [(x, u)]) ∧
        ∀ base : Heap, (K w.params).In base → base.Ns mainGlobals mg → SysOk l.prog base → @FnG l.prog w (K w.params) mg base k fa fd [x] (@spOf tb0 (K w.params) mg m))
    (hm : ∀ ns : List Int, ns.length ≤ n → ∃ μ', m [scr ns] [] = some (.ok (.bl true), μ')) :
    PySem.W.WalkO q loose XP YP l.row.toRowW d [] (fun f vs => PySem.call f vs) :=
  walkGT hn hn2 hdf hr htree hi hY (fun w mg fa h KX G hfa _ => by
    obtain ⟨fd, hb, hF⟩ := F w mg fa h KX G hfa
    exact ⟨fd, [], tb0, hb, fun p hp => (by cases hp), fun p hp => (by cases hp), fun p hp => (by cases hp), fun p hp => (by cases hp), fun base k1 k2 k3 _ => hF base k1 k2 k3⟩) hm
end Mi
namespace Mi
open PySem L2 PyProof.Rows
variable [Tb]
theorem Knw.up {Kn : Kno} {x : Str} {ps : List Str} {m : List D → M D} {j k : Nat} (h : Knw Kn x ps m j) (l : j ≤ k) : Knw Kn x ps m k := fun P w K mg base q => by
  obtain ⟨f, fd, F, a, b, c⟩ := h P w K mg base q
  exact ⟨f, fd, F.up l, a, b, c⟩
/-- as many turns as a slot's number is great -/
def gas (i : Nat) (ρ : Env) : Nat := match ρ[i]? with
  | some (some (.int n)) => n.natAbs + 1
  | _ => 0
end Mi
/-! Mi, part I: comprehensions, more walkers, calls with names, methods. -/
namespace Mi
open PySem L2 PyProof.Rows
variable [Tb]

/-! ### own slots of a block -/
def wipeE (ρ : Env) : List Nat → Env
  | [] => ρ
  | v :: vs => (wipeE ρ vs).set v none
section
variable {K : PySem.W.Frag} {α : List Addr} {H : Hp} {ρ : Env} {σ : L2.St}
theorem RepE.none (e : RepE K α H ρ σ) (i : Nat) : RepE K α H (ρ.set i none) (σ.set i none) :=
  ⟨by simp [e.len], fun j d h => by
    by_cases hj : j = i
    · subst hj
      have hl := (List.getElem?_eq_some_iff.mp h).1
      rw [List.length_set] at hl
      rw [List.getElem?_set_self hl] at h
      cases h
    · rw [List.getElem?_set_ne (Ne.symm hj)] at h
      obtain ⟨w, h1, h2⟩ := e.at_ j d h
      exact ⟨w, by rw [List.getElem?_set_ne (Ne.symm hj)]; exact h1, h2⟩⟩
theorem RepE.wipe (e : RepE K α H ρ σ) : ∀ vs : List Nat, RepE K α H (wipeE ρ vs) (L2.wipe σ vs)
  | [] => e
  | v :: vs => (e.wipe vs).none v
end
theorem wipe_at {σ : L2.St} {i : Nat} : ∀ {vs : List Nat}, i ∈ vs → (wipe σ vs)[i]? = if i < σ.length then some none else none
  | [], h => by cases h
  | v :: vs, h => by
    unfold wipe
    by_cases hv : v = i
    · subst hv
      by_cases hl : v < σ.length
      · rw [List.getElem?_set_self (by rw [wipe_length]; exact hl), if_pos hl]
      · rw [if_neg hl, List.getElem?_eq_none (by rw [List.length_set, wipe_length]; omega)]
    · rw [List.getElem?_set_ne hv]
      rcases List.mem_cons.mp h with e | e
      · exact (hv e.symm).elim
      · exact wipe_at e
theorem wipe_eq {σ τ : L2.St} {vs : List Nat} (hl : σ.length = τ.length) (h : ∀ i, i ∉ vs → σ[i]? = τ[i]?) : wipe σ vs = wipe τ vs := by
  apply List.ext_getElem?
  intro i
  by_cases hi : i ∈ vs
  · rw [wipe_at hi, wipe_at hi, hl]
  · rw [wipe_out hi, wipe_out hi, h i hi]
theorem wipe_set {σ : L2.St} {vs : List Nat} {i : Nat} {a : Option V} (h : i ∈ vs) : wipe (σ.set i a) vs = wipe σ vs :=
  wipe_eq (by rw [List.length_set]) fun j hj => List.getElem?_set_ne fun e => hj (by rw [← e]; exact h)
theorem wipe_wipe {σ : L2.St} {vs : List Nat} : wipe (wipe σ vs) vs = wipe σ vs := wipe_eq (wipe_length σ vs) fun j hj => wipe_out hj

/-! ### targets that set own slots alone -/
def rdGc (K : PySem.W.Frag) (m : D → Env → List O → Option (Env × List O)) (vs : List Nat) : TG := fun v σ H Q => ∃ α ρ μ d ρ' μ', Cfg K α H ρ σ μ ∧ Rep K α H d v ∧ m d ρ μ = some (ρ', μ') ∧ ∀ α' σ' H', Ext α H α' H' → RepS K α' H' μ' → RepE K α' H' ρ' σ' → wipe σ' vs = wipe σ vs → Q σ' H'
def GGc (Kn : Kno) (k : Nat) (vs : List Nat) (c : CG) : Prop := ∀ X W b, Bas Kn k b X W → ∀ e, c.chk ⟨X.N, X.env.scope, b⟩ e = true → PG X e (rdGc X.K c.run vs)
def rdGsc (K : PySem.W.Frag) (m : List D → Env → List O → Option (Env × List O)) (vs : List Nat) : TGs := fun xs σ H Q => ∃ α ρ μ ds ρ' μ', Cfg K α H ρ σ μ ∧ Reps K α H ds xs ∧ m ds ρ μ = some (ρ', μ') ∧ ∀ α' σ' H', Ext α H α' H' → RepS K α' H' μ' → RepE K α' H' ρ' σ' → wipe σ' vs = wipe σ vs → Q σ' H'
def GGsc (Kn : Kno) (k : Nat) (vs : List Nat) (c : CGs) : Prop := ∀ X W b, Bas Kn k b X W → ∀ e, c.chk ⟨X.N, X.env.scope, b⟩ e = true → PGs X e (rdGsc X.K c.run vs)
section
variable {Kn : Kno} {k : Nat} {vs : List Nat}
theorem c_gN {i : Nat} (hi : i ∈ vs) : GGc Kn k vs (gN i) := by
  intro X W cb b e h
  dsimp only [gN] at h
  split at h
  · rename_i x pos
    obtain ⟨h1, h2, h3⟩ := place_loc h
    have hf : X.fn x = true ∨ X.env.scope.names.lookup x = some .local := h3.elim Or.inr fun z => Or.inl (b.cells x z)
    refine PG.imp (pg_name b.nd h1 h2 hf) ?_
    rintro v σ H Q ⟨α, ρ, μ, d, ρ', μ', g, r, run, q⟩
    cases run
    exact q α _ H (Ext.refl α H) g.s (g.e.set i r) (wipe_set hi)
  · cases h
theorem c_gsNil : GGsc Kn k vs gsNil := by
  intro X W cb b e h
  dsimp only [gsNil] at h
  split at h
  · refine PGs.imp pgs_nil ?_
    rintro v σ H Q ⟨α, ρ, μ, ds, ρ', μ', g, r, run, q⟩
    cases ds with
    | nil =>
      cases run
      exact ⟨r, q α σ H (Ext.refl α H) g.s g.e rfl⟩
    | cons _ _ => cases run
  · cases h
theorem c_gsCons {a : CG} {r : CGs} (ha : GGc Kn k vs a) (hr : GGsc Kn k vs r) : GGsc Kn k vs (gsCons a r) := by
  intro X W cb b e h
  dsimp only [gsCons] at h
  split at h
  · simp only [Bool.and_eq_true] at h
    obtain ⟨h1, h2, h3⟩ := h
    refine PGs.imp (pgs_cons (ha X W cb b _ h2) (hr X W cb b _ h3) (by rw [asg_cons h1]; rfl)) ?_
    rintro vs σ H Q ⟨α, ρ, μ, ds, ρ', μ', g, w, run, q⟩
    cases ds with
    | nil => cases run
    | cons d dr =>
      obtain ⟨v, vr, e, w1, w2⟩ := w
      subst e
      dsimp only [gsCons] at run
      cases e1 : a.run d ρ μ with
      | none => rw [e1] at run; cases run
      | some p =>
        obtain ⟨ρ1, μ1⟩ := p
        rw [e1] at run
        refine ⟨v, vr, rfl, α, ρ, μ, d, ρ1, μ1, g, w1, e1, fun α1 σ1 H1 k1 s1 r1 z1 => ?_⟩
        exact ⟨α1, ρ1, μ1, dr, ρ', μ', ⟨s1, r1⟩, w2.up k1, run, fun α' σ' H' k' s' r' z' => q α' σ' H' (k1.trans k') s' r' (z'.trans z1)⟩
  · cases h
theorem c_gT {r : CGs} {n : Nat} (hr : GGsc Kn k vs r) : GGc Kn k vs (gT r n) := by
  intro X W cb b e h
  dsimp only [gT] at h
  split at h
  · simp only [Bool.and_eq_true, decide_eq_true_eq] at h
    obtain ⟨h1, h2, h3⟩ := h
    obtain ⟨l1, l2⟩ := asg_len (env := X.env) h2
    refine PG.imp (pg_tup (n := n) b.calm (hr X W cb b _ h3) (l1.trans h1) l2) ?_
    rintro v σ H Q ⟨α, ρ, μ, d, ρ', μ', g, w, run, q⟩
    cases d with
    | tup ds =>
      dsimp only [gT] at run
      split at run
      · rename_i hl
        obtain ⟨p, vs, e, t, w2⟩ := w
        exact ⟨p, vs, e, t, w2.len.trans hl, α, ρ, μ, ds, ρ', μ', g, w2, run, q⟩
      · cases run
    | _ => cases run
  · cases h
end

/-! ### a comprehension -/
/-- the ifs of a clause: none, or one -/
structure CF where
  run : Env → M Bool
  chk : Inf → List Expr → Bool
def GF (Kn : Kno) (k : Nat) (c : CF) : Prop := ∀ X W b, Bas Kn k b X W → ∀ e, c.chk ⟨X.N, X.env.scope, b⟩ e = true → PTs X e (rdT X.K X.mg W c.run)
theorem PTs.imp {X : Cx} {e : List Expr} {t t' : TT} (h : PTs X e t) (i : ∀ σ H Q, t' σ H Q → t σ H Q) : PTs X e t' := ⟨fun pins s σ H Q I q => h.run pins s σ H Q I (i σ H Q q)⟩
def fNil : CF := ⟨fun _ => M.ret true, fun _ es => match es with
  | [] => true
  | _ => false⟩
def fOne (t : CT) : CF := ⟨t.run, fun I es => match es with
  | [e] => t.chk I e
  | _ => false⟩
section
variable {Kn : Kno} {k : Nat}
theorem g_fNil : GF Kn k fNil := by
  intro X W cb b e h
  dsimp only [fNil] at h
  split at h
  · refine PTs.imp pts_nil ?_
    rintro σ H Q ⟨α, ρ, μ, r, μ', g, run, aft⟩
    exact rd_ret g.s run aft rfl
  · cases h
theorem g_fOne {t : CT} (ht : GT Kn k t) : GF Kn k (fOne t) := by
  intro X W cb b e h
  dsimp only [fOne] at h
  split at h
  · exact pts_one (ht X W cb b _ h)
  · cases h
end
def lcRun (w : Wk) (g : CG) (f : Env → M Bool) (e : Env → M D) (l : Nat) (ρ : Env) : Nat → Nat → M D
  | 0, i => fun μ => match w.get i μ with
    | some none => some (.ok (.ref l), μ)
    | _ => none
  | n + 1, i => fun μ => match w.get i μ with
    | some none => some (.ok (.ref l), μ)
    | some (some d) => match g.run d ρ μ with
      | some (ρ1, μ1) => match f ρ1 μ1 with
        | some (.ok true, μ2) => match e ρ1 μ2 with
          | some (.ok y, μ3) => match μ3[l]? with
            | some (.lst acc) => if acc.length < sizeLine then lcRun w g f e l ρ n (i + 1) (μ3.set l (.lst (acc ++ [y]))) else none
            | _ => none
          | _ => none
        | some (.ok false, μ2) => lcRun w g f e l ρ n (i + 1) μ2
        | _ => none
      | none => none
    | none => none
/-- where a block's code stands -/
def relS (sc scope : Scope) : Scope := { scope with names := scope.names.map fun (n, k) => if (k == NameKind.free && sc.kind == .function && sc.names.lookup n == some .cell) then (n, NameKind.cell) else (n, k) }
def cellB (scope : Scope) (x : Str) : Bool := nlam x && (scope.names.lookup x == some .cell)
def inB (I : Inf) (scope : Scope) : Inf := ⟨I.N, relS I.sc scope, cellB scope⟩
/-- [e for g in it if f]; vs: the block's names and their slots -/
def cLc (it : CI) (g : CG) (f : CF) (e : CE) (vs : List (Str × Nat)) : CE :=
  ⟨fun ρ => M.bnd (it.run ρ) fun w μ => lcRun w g f.run e.run μ.length (wipeE ρ (vs.map (·.2))) w.fuel 0 (μ ++ [.lst []]), fun I x => match x with
  | .ListComp elt [⟨tg, iter, ifs, 0⟩] scope _ => noSetI iter && (it.chk I tg iter && (blkC I.N I.sc scope vs && (g.chk (inB I scope) tg && (f.chk (inB I scope) ifs && e.chk (inB I scope) elt))))
  | _ => false⟩
theorem lc_bridge {K : PySem.W.Frag} {mg : Str → Option Value} {W : WX} {it : CI} {g : CG} {f : CF} {e : CE} {vs : List (Str × Nat)} :
    ∀ σ H Q, rdE K mg W (cLc it g f e vs).run σ H Q → tLc (rd (fun α H w J => JOk K α H w J) K mg W it.run) (rdGc K g.run (vs.map (·.2))) (rdT K mg (fun _ _ _ _ => False) f.run) (rdE K mg (fun _ _ _ _ => False) e.run) (vs.map (·.2)) σ H Q := by
  rintro σ H Q ⟨α, ρ, μ, q, μ', g0, run, aft⟩
  refine rd_seq g0 run aft fun w J α1 H1 μ1 g1 k1 jok run1 aft1 => fun D0 hD => ?_
  have xD : Ext α1 H1 (α1 ++ [D0]) (upd H1 D0 (.lst [])) := Ext.push hD
  have sD : RepS K (α1 ++ [D0]) (upd H1 D0 (.lst [])) (μ1 ++ [.lst []]) := g1.s.push hD ⟨[], upd_same, Reps.nil⟩
  have aD : (α1 ++ [D0])[μ1.length]? = some D0 := by
    rw [← g1.s.len, List.getElem?_append_right (Nat.le_refl _)]
    simp
  refine ⟨fun i n H' => ∃ α' μ2, RepS K α' H' μ2 ∧ Ext (α1 ++ [D0]) (upd H1 D0 (.lst [])) α' H' ∧ lcRun w g f.run e.run μ1.length (wipeE ρ (vs.map (·.2))) n i μ2 = some (q, μ'), ⟨w.fuel, _, _, sD, Ext.refl _ _, run1⟩, ?_⟩
  rintro i n H2 ⟨α2, μ2, s2, x2, run2⟩
  have x12 := xD.trans x2
  have j2 := jok α2 H2 μ2 i x12 s2
  have a2 : α2[μ1.length]? = some D0 := x2.pre _ _ aD
  have fin : w.get i μ2 = some none → (some (.ok (.ref μ1.length), μ2) : Option (Except Ex D × List O)) = some (q, μ') → J.stop i H2 ∧ Q (.ref D0) H2 := by
    intro e1 z
    rw [e1] at j2
    cases z
    exact ⟨j2, aft1 α2 _ H2 x12 s2 ⟨D0, rfl, a2⟩⟩
  cases n with
  | zero =>
    dsimp only [lcRun] at run2
    cases e1 : w.get i μ2 with
    | none => rw [e1] at run2; cases run2
    | some o =>
      cases o with
      | none => rw [e1] at run2; exact .inl (fin e1 run2)
      | some d => rw [e1] at run2; cases run2
  | succ n =>
    dsimp only [lcRun] at run2
    cases e1 : w.get i μ2 with
    | none => rw [e1] at run2; cases run2
    | some o =>
      cases o with
      | none => rw [e1] at run2; exact .inl (fin e1 run2)
      | some d =>
        rw [e1] at run2 j2
        obtain ⟨jg, jy⟩ := j2
        refine .inr ⟨jg, fun H' => ∃ α' μ2, RepS K α' H' μ2 ∧ Ext (α1 ++ [D0]) (upd H1 D0 (.lst [])) α' H' ∧ lcRun w g f.run e.run μ1.length (wipeE ρ (vs.map (·.2))) n (i + 1) μ2 = some (q, μ'), fun H' z => ⟨n, Nat.lt_succ_self n, z⟩, fun x H' y => ?_⟩
        obtain ⟨y1, y2, y3⟩ := jy x H' y
        dsimp only at run2
        cases e2 : g.run d (wipeE ρ (vs.map (·.2))) μ2 with
        | none => rw [e2] at run2; cases run2
        | some p =>
          obtain ⟨ρ3, μ3⟩ := p
          rw [e2] at run2
          dsimp only at run2
          have ew : RepE K α2 H' (wipeE ρ (vs.map (·.2))) (wipe σ (vs.map (·.2))) := ((g1.e.up (x12.trans y1))).wipe _
          refine ⟨α2, _, μ2, d, ρ3, μ3, ⟨y2, ew⟩, y3, e2, fun α3 σ3 H3 k3 s3 r3 z3 => ⟨z3.trans wipe_wipe, ?_⟩⟩
          have x3 := (x2.trans y1).trans k3
          cases e3 : f.run ρ3 μ3 with
          | none => rw [e3] at run2; cases run2
          | some p =>
            obtain ⟨r4, μ4⟩ := p
            rw [e3] at run2
            cases r4 with
            | error _ => cases run2
            | ok b =>
              refine ⟨α3, ρ3, μ3, .ok b, μ4, ⟨s3, r3⟩, e3, fun α4 b' H4 k4 s4 eb => ?_⟩
              subst eb
              have x4 := x3.trans k4
              cases b with
              | false =>
                rw [if_neg Bool.false_ne_true]
                exact ⟨α4, μ4, s4, x4, run2⟩
              | true =>
                rw [if_pos rfl]
                dsimp only at run2
                cases e4 : e.run ρ3 μ4 with
                | none => rw [e4] at run2; cases run2
                | some p =>
                  obtain ⟨r5, μ5⟩ := p
                  rw [e4] at run2
                  cases r5 with
                  | error _ => cases run2
                  | ok dy =>
                    refine ⟨α4, ρ3, μ4, .ok dy, μ5, ⟨s4, r3.up k4⟩, e4, fun α5 y' H5 k5 s5 ry => ?_⟩
                    have x5 := x4.trans k5
                    have a5 : α5[μ1.length]? = some D0 := x5.pre _ _ aD
                    dsimp only at run2
                    cases e5 : μ5[μ1.length]? with
                    | none => rw [e5] at run2; cases run2
                    | some ob =>
                      rw [e5] at run2
                      cases ob with
                      | dct _ => cases run2
                      | lst acc =>
                        dsimp only at run2
                        split at run2
                        · rename_i hz
                          obtain ⟨accv, hp, rp⟩ := s5.at_ _ _ _ e5 a5
                          have x6 : Ext α5 H5 α5 (upd H5 D0 (.lst (accv ++ [y']))) := Ext.put a5 hp fun z => z
                          refine ⟨accv, hp, by rw [rp.len]; exact hz, α5, _, s5.put (o := .lst (acc ++ [dy])) a5 ⟨_, upd_same, (rp.app (Reps.cons ry Reps.nil)).up x6⟩, x5.trans x6, run2⟩
                        · cases run2
section
variable {Kn : Kno} {k : Nat}
theorem Bas.blk {cb : Str → Bool} {X : Cx} {W : WX} (b : Bas Kn k cb X W) (s : Shared) (H : Hp) (scope : Scope) (C : Addr) (cl : List (Str × Addr)) (fp : List Addr) : Bas Kn k (cellB scope) (X.blk s H scope (compEnvC scope cl C X.env) fp) (fun _ _ _ _ => False) :=
  ⟨b.kn, b.calm, b.nd, b.room, b.grd, takes0, b.sys, b.top, fun x hx => ((Bool.and_eq_true _ _).mp hx).2, fun z => by cases (show false = true from z)⟩
theorem g_lc {it : CI} {g : CG} {f : CF} {e : CE} {vs : List (Str × Nat)} (hi : GI Kn k it) (hg : GGc Kn k (vs.map (·.2)) g) (hf : GF Kn k f) (he : GE Kn k e) : GE Kn k (cLc it g f e vs) := by
  intro X W cb b x h
  dsimp only [cLc] at h
  split at h
  · rename_i elt tg iter ifs scope pos
    simp only [Bool.and_eq_true] at h
    obtain ⟨h1, h2, h3, h4, h5, h6⟩ := h
    refine PE.imp (pe_lc (g := rdGc X.K g.run (vs.map (·.2))) (tt := rdT X.K X.mg (fun _ _ _ _ => False) f.run) (te := rdE X.K X.mg (fun _ _ _ _ => False) e.run) b.calm b.nd (hi X W cb b _ _ h2) (blkOk_by h3) (fun s H C cl fp => hg _ _ _ (b.blk s H scope C cl fp) _ h4) (fun s H C cl fp => hf _ _ _ (b.blk s H scope C cl fp) _ h5)
      (fun s H C cl fp => he _ _ _ (b.blk s H scope C cl fp) _ h6) (noSetI_eq h1)) ?_
    exact lc_bridge
  · cases h
end

/-! ### stores: a comprehension, a display -/
def lcScope : Expr → Option Scope
  | .ListComp _ _ s _ => some s
  | .SetComp _ _ s _ => some s
  | .DictComp _ _ _ s _ => some s
  | _ => none
/-- the value is a comprehension that is put into a plain local name on its row -/
def swaps1 (sc : Scope) (t e : Expr) : Bool := match t with
  | .Name y p => decide (sc.names.lookup y = some .local) && p.line == e.pos.line && (match lcScope e with
    | some s => !(s.names.any fun (n, k) => n == y && (k == .local || k == .cell))
    | none => false)
  | _ => false
theorem swaps1_yes {sc : Scope} {t e : Expr} {l : Nat} {env : PySem.Env} (he : env.scope = sc) (hf : sc.kind = .function) (h : swaps1 sc t e = true) : swapsWith e (some t) l env = pure true := by
  subst he
  unfold swaps1 at h
  split at h
  · rename_i y p
    simp only [Bool.and_eq_true, decide_eq_true_eq] at h
    obtain ⟨⟨h1, h2⟩, h3⟩ := h
    have ky : env.kindOf y = some .local := h1
    have hb := fn_block hf
    cases e with
    | ListComp a b s q => dsimp only [lcScope] at h3; unfold swapsWith; simp only [hb, ky, h2, h3]; rfl
    | SetComp a b s q => dsimp only [lcScope] at h3; unfold swapsWith; simp only [hb, ky, h2, h3]; rfl
    | DictComp a b c s q => dsimp only [lcScope] at h3; unfold swapsWith; simp only [hb, ky, h2, h3]; rfl
    | _ => cases h3
  · cases h
theorem swaps1_no {sc : Scope} {t e : Expr} {l : Nat} {env : PySem.Env} (he : env.scope = sc) (h : swaps1 sc t e = false) : swapsWith e (some t) l env = pure false := by
  subst he
  cases hs : lcScope e with
  | none => cases e <;> first | rfl | cases hs
  | some s =>
    cases t with
    | Name y p =>
      have ky : (env.kindOf y == some .local) = decide (env.scope.names.lookup y = some .local) := by
        show (env.scope.names.lookup y == some .local) = _
        by_cases z : env.scope.names.lookup y = some .local
        · rw [z]; rfl
        · rw [decide_eq_false z]
          simp [z]
      unfold swaps1 at h
      dsimp only at h
      rw [hs] at h
      dsimp only at h
      have fin : ∀ b : Bool, (pure (b && (env.kindOf y == some .local) && p.line == e.pos.line && !(s.names.any fun (n, k) => n == y && (k == .local || k == .cell))) : Sem Bool) = pure false := by
        intro b
        rw [ky]
        cases b with
        | false => rfl
        | true => rw [Bool.true_and]; rw [h]
      cases e with
      | ListComp a b s q => cases hs; exact fin _
      | SetComp a b s q => cases hs; exact fin _
      | DictComp a b c s q => cases hs; exact fin _
      | _ => cases hs
    | _ =>
      cases e with
      | ListComp a b s q => rfl
      | SetComp a b s q => rfl
      | DictComp a b c s q => rfl
      | _ => cases hs
/-- no stores are exchanged -/
def parNo (sc : Scope) (t e : Expr) : Bool := match t with
  | .Tuple ts _ _ => (match e with
    | .Tuple vs _ _ => (!(ts.length == 2 || ts.length == 3) || vs.length != ts.length) || (decide ((ts.filterMap fun
      | .Name id pos => if sc.names.lookup id == some .local && pos.line == (ts.head?.map (·.pos.line)).getD 0 then some id else none
      | _ => none).length ≠ ts.length) || vs.all (foldedForSure 8))
    | _ => true)
  | .List _ _ => false
  | _ => true
theorem parNo_sw {sc : Scope} {t e : Expr} {env : PySem.Env} (he : env.scope = sc) (h : parNo sc t e = true) : swappedStores [t] e env = pure none := by
  subst he
  cases t with
  | Tuple ts k1 p1 =>
    cases e with
    | Tuple vs k2 p2 =>
      dsimp only [parNo] at h
      unfold swappedStores
      dsimp only
      by_cases h1 : (!(ts.length == 2 || ts.length == 3) || vs.length != ts.length || env.blockKind != .function) = true
      · simp only [h1, if_true]
      · have h1' := Bool.eq_false_iff.mpr h1
        simp only [h1', Bool.false_eq_true, if_false]
        simp only [Bool.or_eq_false_iff] at h1'
        rw [h1'.1.1, h1'.1.2] at h
        simp only [Bool.or_false, Bool.false_or, Bool.or_eq_true, decide_eq_true_eq] at h
        split
        · rfl
        · rcases h with h | h
          · rw [if_pos]
            rw [Bool.or_eq_true]
            left
            rw [bne_iff_ne]
            intro e
            refine h (Eq.trans ?_ e)
            congr 2
          · split
            · rfl
            · simp only [h, if_true]
    | _ => rfl
  | List _ _ => cases h
  | _ => rfl
section
variable {Kn : Kno} {k : Nat}
/-- a store of any target, where nothing is exchanged -/
def sAsg2 (g : CG) (a : CE) : CS := ⟨asgRun g a, fun I st => match st with
  | .Assign [t] e _ => !swaps1 I.sc t e && (noStar t && (parNo I.sc t e && (g.chk I t && a.chk I e)))
  | _ => false⟩
theorem g_sAsg2 {g : CG} {a : CE} (hg : GG Kn k g) (ha : GE Kn k a) : GS Kn k (sAsg2 g a) := by
  intro X W cb bs po e h
  dsimp only [sAsg2] at h
  split at h
  · simp only [Bool.and_eq_true, Bool.not_eq_true'] at h
    obtain ⟨h0, h1, h2, h3, h4⟩ := h
    exact PS.imp (ps_asg (ha X W cb bs _ h4) (hg X W cb bs _ h3) (swaps1_no rfl h0) (parNo_sw rfl h2) (by rw [asg_cons h1]; rfl)) (asg_fin)
  · cases h
/-- a plain local name and a comprehension on its row -/
def sSetLc (i : Nat) (it : CI) (g : CG) (f : CF) (e : CE) (vs : List (Str × Nat)) : CS := ⟨asgRun (gN i) (cLc it g f e vs), fun I st => match st with
  | .Assign [.Name y p] (.ListComp elt [⟨tg, iter, ifs, 0⟩] scope q) _ => decide (I.sc.kind = .function) && (decide (I.N[i]? = some y) && (decide (I.sc.names.lookup y = some .local) && (swaps1 I.sc (.Name y p) (.ListComp elt [⟨tg, iter, ifs, 0⟩] scope q) && (cLc it g f e vs).chk I (.ListComp elt [⟨tg, iter, ifs, 0⟩] scope q))))
  | _ => false⟩
theorem g_sSetLc {i : Nat} {it : CI} {g : CG} {f : CF} {e : CE} {vs : List (Str × Nat)} (hi : GI Kn k it) (hg : GGc Kn k (vs.map (·.2)) g) (hf : GF Kn k f) (he : GE Kn k e) : GS Kn k (sSetLc i it g f e vs) := by
  intro X W cb b po x h
  dsimp only [sSetLc] at h
  split at h
  · rename_i y p elt tg iter ifs scope q spos
    simp only [Bool.and_eq_true, decide_eq_true_eq] at h
    obtain ⟨z1, z2, z3, z4, h⟩ := h
    dsimp only [cLc] at h
    simp only [Bool.and_eq_true] at h
    obtain ⟨h1, h2, h3, h4, h5, h6⟩ := h
    refine PS.imp (ps_setLc (g := rdGc X.K g.run (vs.map (·.2))) (tt := rdT X.K X.mg (fun _ _ _ _ => False) f.run) (te := rdE X.K X.mg (fun _ _ _ _ => False) e.run) b.calm b.nd z2 z3 (swaps1_yes rfl z1 z4) (hi X W cb b _ _ h2) (blkOk_by h3) (fun s H C cl fp => hg _ _ _ (b.blk s H scope C cl fp) _ h4)
      (fun s H C cl fp => hf _ _ _ (b.blk s H scope C cl fp) _ h5) (fun s H C cl fp => he _ _ _ (b.blk s H scope C cl fp) _ h6) (noSetI_eq h1)) ?_
    rintro σ H Dn ⟨α, ρ, μ, q, μ', g0, run, aft⟩
    have z := asg_fin (g := gN i) (a := cLc it g f e vs) (X := X) (W := W) σ H Dn ⟨α, ρ, μ, q, μ', g0, run, aft⟩
    refine lc_bridge σ H _ ?_
    obtain ⟨α, ρ, μ, r, μ1, c1, c2, c3⟩ := z
    refine ⟨α, ρ, μ, r, μ1, c1, c2, ?_⟩
    cases r with
    | error x => exact c3
    | ok d =>
      intro α' v H' k' s' r'
      obtain ⟨α4, ρ4, μ4, d4, ρ5, μ5, g4, r4, e4, q4⟩ := c3 α' v H' k' s' r'
      cases e4
      exact q4 α4 _ H' (Ext.refl _ _) g4.s (g4.e.set i r4)
  · cases h
end
end Mi
/-! Mi, part J: enumerate over a tuple. -/
namespace Mi
open PySem L2 PyProof.Rows
variable [Tb]

theorem enumT_new (t : Addr) (items : Array Value) (n : Nat) (dct : Option Addr) (sl : Array (Option Value)) :
    Meets (Builtin.«enumerate.__new__» ⟨[.type "enumerate", .ref t], []⟩) (fun _ R s => s.heap.get? t = some { cls := .type "tuple", dict := dct, data := .seq items n, slots := sl } ∧
      R (.ok (.ret (.ref (s.heap.push { cls := .type "tuple_iterator", data := .fields #[.ref t, .int 0 0] }).objs.size)))
        { s with heap := (s.heap.push { cls := .type "tuple_iterator", data := .fields #[.ref t, .int 0 0] }).push { cls := .type "enumerate", data := .fields #[.none, .bool false, .ref s.heap.objs.size, rawInt 0, .none, .none] } }) :=
  .of_wp fun prog w A R s hh => by
    obtain ⟨hp, g, d, tk, os⟩ := s
    obtain ⟨ht, hh⟩ := hh
    have hs1 := sub_enumerate
    have hT : Heap.IsTuple (Shared.heap ⟨hp, g, d, tk, os⟩) t items := ⟨_, ht, rfl, n, rfl⟩
    wp_walk using AutoSeq1.wpAny_loadPart' ht
    refine wpAny_stack_any fun st => wpAny_pure ?_
    split
    · rename_i c _ _ _ _ _
      cases (c == Value.type "enumerate")
      · wp_walk using AutoSeq1.wpAny_loadPart' ht, wpAny_pyIter_tuple hT
        exact ⟨_, rfl, hh⟩
      · wp_walk using AutoSeq1.wpAny_loadPart' ht, wpAny_pyIter_tuple hT
        exact ⟨_, rfl, hh⟩
    · wp_walk using AutoSeq1.wpAny_loadPart' ht, wpAny_pyIter_tuple hT
      exact ⟨_, rfl, hh⟩
section
variable {prog : Program} {w : World} {A : Around} {E : Value → Shared → Prop} {s : Shared}
theorem enumT_call {t : Addr} {items : Array Value} {Q : Value → Shared → Prop} (hT : s.heap.IsTuple t items)
    (h : ∀ h', IsEnum h' (s.heap.objs.size + 1) s.heap.objs.size 0 .none → h'.IsTupleIter s.heap.objs.size t 0 → h'.objs.size = s.heap.objs.size + 2 →
      (∀ b o, s.heap.get? b = some o → h'.get? b = some o) → Q (.ref (s.heap.objs.size + 1)) { s with heap := h' }) :
    wpAny (model prog w) A (call (.type "enumerate") [.ref t]) Q E s := by
  obtain ⟨⟨c, dct, dt, sl⟩, ht, hc, n, hd⟩ := hT
  replace hc : c = .type "tuple" := hc
  replace hd : dt = .seq items n := hd
  subst hc hd
  refine callType_new F.called_enumerate (by decide) (F.typeCall_enumerate_1 _) (F.newCall_enumerate_1 _) (fun obj => F.args_object_init_2 obj _) F.entry_enumerate_new (enumT_new t items n dct sl) ⟨ht, ?_⟩
  have hz : (s.heap.push { cls := .type "tuple_iterator", data := .fields #[.ref t, .int 0 0] }).objs.size = s.heap.objs.size + 1 := Heap.size_push ..
  show _ ∧ _
  rw [hz]
  have he : IsEnum ((s.heap.push { cls := .type "tuple_iterator", data := .fields #[.ref t, .int 0 0] }).push
      { cls := .type "enumerate", data := .fields #[.none, .bool false, .ref s.heap.objs.size, rawInt 0, .none, .none] }) (s.heap.objs.size + 1) s.heap.objs.size 0 .none := by
    have := Heap.get?_push_size (s.heap.push { cls := .type "tuple_iterator", data := .fields #[.ref t, .int 0 0] })
      (o := { cls := .type "enumerate", data := .fields #[.none, .bool false, .ref s.heap.objs.size, rawInt 0, .none, .none] }) rfl
    rw [hz] at this; exact this
  refine ⟨⟨_, he, rfl⟩, h _ he ⟨_, Heap.get?_push_of_some _ (Heap.get?_push_size _ rfl), rfl, rfl⟩ (by rw [Heap.size_push, hz]) fun b o x => Heap.get?_push_of_some _ (Heap.get?_push_of_some _ x)⟩
end
/-- the tuple at a, each item in a new pair -/
def ItT (K : PySem.W.Frag) (a : Addr) (n : Nat) : It :=
  ⟨fun i H => ∃ (xs : List V) (x : V), SqT K H a xs ∧ xs.length = n ∧ xs[i]? = some x, fun i H v H' => ∃ T x, v = .ref T ∧ H T = none ∧ H' = upd H T (.tup [.int (i : Nat), x]) ∧ ∀ xs, SqT K H a xs → xs[i]? = some x, fun i H => ∃ xs : List V, SqT K H a xs ∧ xs.length = n ∧ xs.length ≤ i⟩
theorem turn_enT {P : Program} {w : World} {K : PySem.W.Frag} {elts : List Expr} {kk : Nat} {tpos : Pos} (a e it : Addr) (n : Nat) (hai : a ≠ it) (hae : a ≠ e) (hne : e ≠ it) :
    Turn P w K (.Tuple elts kk tpos) (ItT K a n) [e, it] e (fun i h => i ≤ n ∧ (∃ old, IsEnum h e it ((i : Nat) : Int) old) ∧ h.IsTupleIter it a i) where
  mem := by simp
  obj := fun i h st b hb => by
    obtain ⟨_, ⟨old, he⟩, ⟨o, ho, hc, hd⟩⟩ := st
    have e' : b = e ∨ b = it := by simpa using hb
    rcases e' with z | z
    · rw [z]; exact ⟨_, he, fun v q => nomatch q⟩
    · rw [z]; exact ⟨o, ho, fun v q => by rw [hd] at q; cases q⟩
  keep := fun i h h' st k => let ⟨hi, ⟨old, he⟩, ht⟩ := st; ⟨hi, ⟨old, k e (by simp) _ he⟩, ht.at fun o q => k it (by simp) o q⟩
  item := by
    intro X hP hw hK hc i pins s σ H E I hf st hg
    subst hP hw hK
    obtain ⟨hi, ⟨old, he⟩, hit⟩ := st
    obtain ⟨xs, x, hq, hn, hx⟩ := hg
    obtain ⟨its, rv, p, hz⟩ := I.tuple hq
    obtain ⟨u, hu, ru⟩ := rv.get hx
    have hel : e < s.heap.objs.size := Heap.lt_size he
    have hil : it < s.heap.objs.size := by obtain ⟨_, q, _⟩ := hit; exact Heap.lt_size q
    have D := Draws.tuple (prog := X.prog) (w := X.w) (A := X.A.in1) (I.ok.hd hc) it a hai its.toArray
    have hlt : i < its.toArray.size := by
      have := (List.getElem?_eq_some_iff.mp hu).1
      simpa using this
    refine wpAny_pyNext_enum_itemD D he ⟨hit, p⟩ hlt hne (by simp [hne, Ne.symm hae]) fun y h' tk hy ho hit' hT hsz hk => ?_
    have eu : y = u := by
      have h1 : its[i]? = some y := by simpa using hy
      rw [h1] at hu
      exact Option.some.inj hu
    subst eu
    refine ⟨_, rfl, wpAny_letOwnedTupleGo_enum (s := { s with heap := h', toks := tk + 1 }) ho fun h'' he' sb => ?_⟩
    have hT2 : h''.get? s.heap.objs.size = some { cls := .type "tuple", data := .seq #[.int i tk, y] } := (sb.2 _ (Nat.ne_of_gt hel)).trans hT
    have new : ObjOk X.prog X.w (upd H s.heap.objs.size (.tup [.int (i : Nat), x])) h'' s.heap.objs.size (.tup [.int (i : Nat), x]) :=
      ⟨by show 2 ≤ sizeLine; decide, [.int i tk, y], .cons ⟨_, rfl⟩ (.cons ru .nil), ⟨_, hT2, rfl, _, rfl⟩⟩
    have I1 : Inv X pins σ (upd H s.heap.objs.size (.tup [.int (i : Nat), x])) { s with heap := h'', toks := tk + 1 } :=
      I.turnedNew (ch := [e, it]) (fun b ob hb q => (sb.2 b (fun z => hb (by simp [z]))).trans (hk b ob (fun z => hb (by simp [z])) (fun z => hb (by simp [z])) q)) hf (Nat.le_refl _) new
    have hit2 : h''.IsTupleIter it a (i + 1) := hit'.1.at fun o q => (sb.2 it (Ne.symm hne)).trans q
    refine ⟨.ref s.heap.objs.size, _, I1, rfl, ⟨_, x, rfl, I.hok.fresh (Nat.le_refl _), rfl, fun ys hy => by rw [I.tuple_inj hy hq]; exact hx⟩, ⟨?_, ⟨y, ?_⟩, hit2⟩, fun b hb => ?_⟩
    · have := (List.getElem?_eq_some_iff.mp hx).1
      omega
    · have e1 : ((i + 1 : Nat) : Int) = (i : Int) + 1 := by omega
      rw [e1]; exact he'
    · have hb' : b < s.heap.objs.size := by
        have e' : b = e ∨ b = it := by simpa using hb
        rcases e' with z | z
        · rw [z]; exact hel
        · rw [z]; exact hil
      rw [upd_ne (Nat.ne_of_lt hb')]
      exact (hf b hb).1
  done := by
    intro X hP hw hK hc i pins s σ H E I hf st hg
    subst hP hw hK
    obtain ⟨hi, ⟨old, he⟩, hit⟩ := st
    obtain ⟨xs, hq, hn, hx⟩ := hg
    obtain ⟨its, rv, p, hz⟩ := I.tuple hq
    obtain ⟨f0, f1, f2, f3, f4, f5⟩ := hf it (by simp)
    have hl := rv.length
    have D := Draws.tuple (prog := X.prog) (w := X.w) (A := X.A.in1) (I.ok.hd hc) it a hai its.toArray
    have hz2 : its.toArray.size = i := by
      show its.length = i
      omega
    refine wpAny_pyNext_enum_endD D he ⟨by rw [hz2]; exact hit, p⟩ fun h' eb => ⟨rfl, I.turned (t' := s.toks) (fun b o hb q => eb b o hb q) f0 f1 f3 f4 f5⟩
  self := fun A i s Q E st h => let ⟨_, ⟨_, he⟩, _⟩ := st; wpAny_pyIter_enum he h

def iEnT (K : PySem.W.Frag) (ta : TA) : TI := fun σ H R => ta σ H fun vs H1 => ∃ a xs, vs = [.ref a] ∧ ((SqL K H1 a xs ∧ R (Ite K a) H1) ∨ (SqT K H1 a xs ∧ R (ItT K a xs.length) H1))
/-- enumerate of a list, a tuple -/
theorem pi_enT {X : Cx} {e : Expr} {ta : TA} {p pos tpos : Pos} {elts : List Expr} {kk : Nat} (hg : Gl X "enumerate") (hm : X.mg "enumerate" = none) (ha : PA X [e] ta) (hs : starEach [e] X.env = [(false, eval e X.env)] := by rfl) :
    PI X (.Tuple elts kk tpos) (.Call (.Name "enumerate" p) [e] [] pos) (iEnT X.K ta) := by
  refine ⟨fun pins s σ H R I h => ?_⟩
  refine Call_ (ld_blt I hg hm boot_enumerate (PyProof.Rows.callWith_type1 (thn (ha.run pos pins s σ H _ I h) fun us s1 ⟨vs, H1, I1, r1, q1⟩ => ?_) hs rfl))
  obtain ⟨a, xs, ex, q1⟩ := q1
  subst ex
  have fr : ∀ b ∈ [s1.heap.objs.size + 1, s1.heap.objs.size], FpOk X pins H1 b := fun b hb => by
    have e' : b = s1.heap.objs.size + 1 ∨ b = s1.heap.objs.size := by simpa using hb
    have hle : s1.heap.objs.size ≤ b := by
      rcases e' with z | z
      · rw [z]; exact Nat.le_add_right _ _
      · rw [z]; exact Nat.le_refl _
    exact I1.fpOk hle (I1.hok.fresh hle)
  cases r1 with
  | cons r rr =>
    cases rr
    cases r
    rcases q1 with ⟨hq, q⟩ | ⟨hq, q⟩
    · obtain ⟨its, rv, p', hz⟩ := I1.list hq
      refine call_enumerate_list p'.isList fun h' he hit hsz hk => wpAny_pyIter_enum he ?_
      have I2 : Inv X pins σ H1 { s1 with heap := h' } := I1.kept (t' := s1.toks) hk
      exact ⟨s1.heap.objs.size + 1, [s1.heap.objs.size + 1, s1.heap.objs.size], _, _, H1, rfl, I2, turn_enum a (s1.heap.objs.size + 1) s1.heap.objs.size, ⟨⟨.none, he⟩, hit, Nat.succ_ne_self _⟩, fr, q⟩
    · obtain ⟨its, rv, p', hz⟩ := I1.tuple hq
      obtain ⟨o1, ho1, _⟩ := id p'
      have hlt := Heap.lt_size ho1
      refine enumT_call p' fun h' he hit hsz hk => wpAny_pyIter_enum he ?_
      have I2 : Inv X pins σ H1 { s1 with heap := h' } := I1.kept (t' := s1.toks) hk
      exact ⟨s1.heap.objs.size + 1, [s1.heap.objs.size + 1, s1.heap.objs.size], _, _, H1, rfl, I2, turn_enT a (s1.heap.objs.size + 1) s1.heap.objs.size xs.length (Nat.ne_of_lt hlt) (Nat.ne_of_lt (Nat.lt_succ_of_lt hlt)) (Nat.succ_ne_self _), ⟨Nat.zero_le _, ⟨.none, he⟩, hit⟩, fr, q⟩

/-! ### walkers: enumerate, zip -/
def wkE (w : Wk) : Wk := ⟨fun i μ => match w.get i μ with
  | some (some d) => some (some (.tup [.int i, d]))
  | some none => some none
  | none => none, w.fuel⟩
def wkZ (w u : Wk) : Wk := ⟨fun i μ => match w.get i μ, u.get i μ with
  | some (some d), some (some e) => some (some (.tup [d, e]))
  | some none, some _ => some none
  | some _, some none => some none
  | _, _ => none, w.fuel⟩
def enW : D → M Wk
  | .tup ds => M.ret (wkE (wkOf ds))
  | .fro ds => M.ret (wkE (wkOf ds))
  | .ref l => M.bnd (M.lst l) fun ds => M.ret (wkE (wkL l ds.length))
  | _ => M.stop
def zipW : D → D → M Wk
  | .tup ds, .tup es => M.ret (wkZ (wkOf ds) (wkOf es))
  | .fro ds, .fro es => M.ret (wkZ (wkOf ds) (wkOf es))
  | .ref l, .fro es => M.bnd (M.lst l) fun ds => M.ret (wkZ (wkL l ds.length) (wkOf es))
  | .fro ds, .ref m => M.bnd (M.lst m) fun es => M.ret (wkZ (wkOf ds) (wkL m es.length))
  | .ref l, .ref m => M.bnd (M.lst l) fun ds => M.bnd (M.lst m) fun es => M.ret (wkZ (wkL l ds.length) (wkL m es.length))
  | _, _ => M.stop
theorem pair_in {K : PySem.W.Frag} {α : List Addr} {H : Hp} {μ : List O} {T : Addr} {x y : V} {d e : D} (s : RepS K α H μ) (hT : H T = none) (r1 : Rep K α H d x) (r2 : Rep K α H e y) :
    Ext α H α (upd H T (.tup [x, y])) ∧ RepS K α (upd H T (.tup [x, y])) μ ∧ Rep K α (upd H T (.tup [x, y])) (.tup [d, e]) (.ref T) :=
  ⟨Ext.lay hT, s.lay hT, T, [x, y], rfl, SqT.of upd_same, (Reps.cons r1 (Reps.cons r2 Reps.nil)).up (Ext.lay hT)⟩
/-- a source that is a sequence -/
def SOk (K : PySem.W.Frag) (α0 : List Addr) (H0 : Hp) (w : Wk) (Sq : Hp → List V → Prop) : Prop := ∀ α H μ i, Ext α0 H0 α H → RepS K α H μ → match w.get i μ with
  | some none => ∃ xs, Sq H xs ∧ xs.length ≤ i
  | some (some d) => ∃ xs x, Sq H xs ∧ xs[i]? = some x ∧ Rep K α H d x
  | none => True
section
variable {K : PySem.W.Frag} {α : List Addr} {H : Hp} {w u : Wk} {p q : Addr} {ds : List D} {vs : List V} {n m : Nat}
theorem SOk.up {α' : List Addr} {H' : Hp} {Sq : Hp → List V → Prop} (h : SOk K α H w Sq) (x : Ext α H α' H') : SOk K α' H' w Sq := fun α1 H1 μ i x1 => h α1 H1 μ i (x.trans x1)
theorem s_tup (t : SqT K H p vs) (r : Reps K α H ds vs) : SOk K α H (wkOf ds) fun H xs => SqT K H p xs ∧ xs.length = vs.length := by
  intro α1 H1 μ i x s
  have t1 := x.sqT t
  have r1 := r.up x
  dsimp only [wkOf]
  cases e : ds[i]? with
  | none => exact ⟨vs, ⟨t1, rfl⟩, by rw [r1.len]; exact List.getElem?_eq_none_iff.mp e⟩
  | some d =>
    obtain ⟨v, h1, h2⟩ := r1.get e
    exact ⟨vs, v, ⟨t1, rfl⟩, h1, h2⟩
theorem s_fro (t : FqL K H p vs) (r : Reps K α H ds vs) : SOk K α H (wkOf ds) fun H xs => SqL K H p xs := by
  intro α1 H1 μ i x s
  have t1 := (x.fqL t).sq
  have r1 := r.up x
  dsimp only [wkOf]
  cases e : ds[i]? with
  | none => exact ⟨vs, t1, by rw [r1.len]; exact List.getElem?_eq_none_iff.mp e⟩
  | some d =>
    obtain ⟨v, h1, h2⟩ := r1.get e
    exact ⟨vs, v, t1, h1, h2⟩
theorem s_lst {l : Nat} (a : α[l]? = some p) : SOk K α H (wkL l n) fun H xs => SqL K H p xs := by
  intro α1 H1 μ i x s
  have a1 := x.pre l p a
  dsimp only [wkL]
  cases e0 : μ[l]? with
  | none => trivial
  | some o =>
    cases o with
    | dct _ => trivial
    | lst ds =>
      obtain ⟨vs, hp, r1⟩ := s.at_ l _ p e0 a1
      dsimp only
      cases e : ds[i]? with
      | none => exact ⟨vs, SqL.of hp, by rw [r1.len]; exact List.getElem?_eq_none_iff.mp e⟩
      | some d =>
        obtain ⟨v, h1, h2⟩ := r1.get e
        exact ⟨vs, v, SqL.of hp, h1, h2⟩
theorem jok_enL (j : SOk K α H w fun H xs => SqL K H p xs) : JOk K α H (wkE w) (Ite K p) := by
  intro α1 H1 μ i x s
  have j1 := j α1 H1 μ i x s
  dsimp only [wkE]
  cases e : w.get i μ with
  | none => trivial
  | some o =>
    rw [e] at j1
    cases o with
    | none => exact j1
    | some d =>
      obtain ⟨xs, v, t1, h1, r1⟩ := j1
      refine ⟨⟨xs, v, t1, h1⟩, ?_⟩
      rintro y H' ⟨T, x0, rfl, hT, rfl, hx⟩
      have e0 := hx xs t1
      rw [h1] at e0
      cases e0
      exact pair_in s hT rfl r1
theorem jok_enT (j : SOk K α H w fun H xs => SqT K H p xs ∧ xs.length = n) : JOk K α H (wkE w) (ItT K p n) := by
  intro α1 H1 μ i x s
  have j1 := j α1 H1 μ i x s
  dsimp only [wkE]
  cases e : w.get i μ with
  | none => trivial
  | some o =>
    rw [e] at j1
    cases o with
    | none =>
      obtain ⟨xs, ⟨t1, t2⟩, h⟩ := j1
      exact ⟨xs, t1, t2, h⟩
    | some d =>
      obtain ⟨xs, v, ⟨t1, t2⟩, h1, r1⟩ := j1
      refine ⟨⟨xs, v, t1, t2, h1⟩, ?_⟩
      rintro y H' ⟨T, x0, rfl, hT, rfl, hx⟩
      have e0 := hx xs t1
      rw [h1] at e0
      cases e0
      exact pair_in s hT rfl r1
theorem jok_zipL (j : SOk K α H w fun H xs => SqL K H p xs) (j' : SOk K α H u fun H xs => SqL K H q xs) : JOk K α H (wkZ w u) (Itz K p q) := by
  intro α1 H1 μ i x s
  have j1 := j α1 H1 μ i x s
  have j2 := j' α1 H1 μ i x s
  dsimp only [wkZ]
  cases e : w.get i μ with
  | none => trivial
  | some o =>
    rw [e] at j1
    cases e' : u.get i μ with
    | none => cases o <;> trivial
    | some o' =>
      rw [e'] at j2
      cases o with
      | none =>
        obtain ⟨xs, t1, h1⟩ := j1
        cases o' with
        | none =>
          obtain ⟨ys, t2, h2⟩ := j2
          exact ⟨xs, ys, t1, t2, .inl h1⟩
        | some d' =>
          obtain ⟨ys, y, t2, h2, r2⟩ := j2
          exact ⟨xs, ys, t1, t2, .inl h1⟩
      | some d =>
        obtain ⟨xs, v, t1, h1, r1⟩ := j1
        cases o' with
        | none =>
          obtain ⟨ys, t2, h2⟩ := j2
          exact ⟨xs, ys, t1, t2, .inr h2⟩
        | some d' =>
          obtain ⟨ys, v', t2, h2, r2⟩ := j2
          refine ⟨⟨xs, ys, v, v', t1, t2, h1, h2⟩, ?_⟩
          rintro y H' ⟨T, x0, y0, rfl, hT, rfl, hx, hy⟩
          have e0 := hx xs t1
          rw [h1] at e0
          cases e0
          have e1 := hy ys t2
          rw [h2] at e1
          cases e1
          exact pair_in s hT r1 r2
theorem jok_zipT (j : SOk K α H w fun H xs => SqT K H p xs ∧ xs.length = n) (j' : SOk K α H u fun H xs => SqT K H q xs ∧ xs.length = m) : JOk K α H (wkZ w u) (RZ.ItzT K p q) := by
  intro α1 H1 μ i x s
  have j1 := j α1 H1 μ i x s
  have j2 := j' α1 H1 μ i x s
  dsimp only [wkZ]
  cases e : w.get i μ with
  | none => trivial
  | some o =>
    rw [e] at j1
    cases e' : u.get i μ with
    | none => cases o <;> trivial
    | some o' =>
      rw [e'] at j2
      cases o with
      | none =>
        obtain ⟨xs, ⟨t1, _⟩, h1⟩ := j1
        cases o' with
        | none =>
          obtain ⟨ys, ⟨t2, _⟩, h2⟩ := j2
          exact ⟨xs, ys, t1, t2, .inl h1⟩
        | some d' =>
          obtain ⟨ys, y, ⟨t2, _⟩, h2, r2⟩ := j2
          exact ⟨xs, ys, t1, t2, .inl h1⟩
      | some d =>
        obtain ⟨xs, v, ⟨t1, _⟩, h1, r1⟩ := j1
        cases o' with
        | none =>
          obtain ⟨ys, ⟨t2, _⟩, h2⟩ := j2
          exact ⟨xs, ys, t1, t2, .inr h2⟩
        | some d' =>
          obtain ⟨ys, v', ⟨t2, _⟩, h2, r2⟩ := j2
          refine ⟨⟨xs, ys, v, v', t1, t2, h1, h2⟩, ?_⟩
          rintro y H' ⟨T, x0, y0, rfl, hT, rfl, hx, hy⟩
          have e0 := hx xs t1
          rw [h1] at e0
          cases e0
          have e1 := hy ys t2
          rw [h2] at e1
          cases e1
          exact pair_in s hT r1 r2
end
def isTup : Expr → Bool
  | .Tuple _ _ _ => true
  | _ => false
section
variable {Kn : Kno} {k : Nat}
def iEn (a : CE) : CI := ⟨fun ρ => M.bnd (a.run ρ) enW, fun I tg e => match tg, e with
  | .Tuple _ _ _, .Call (.Name y _) [x] [] _ => decide (y = ("enumerate" : Str)) && (glo I.sc y && (noStar x && a.chk I x))
  | _, _ => false⟩
theorem g_iEn {a : CE} (hb : Bare Kn "enumerate") (ha : GE Kn k a) : GI Kn k (iEn a) := by
  intro X W cb bs tg e h
  dsimp only [iEn] at h
  split at h
  · simp only [Bool.and_eq_true, decide_eq_true_eq, glo] at h
    obtain ⟨h1, h2, h3, h4⟩ := h
    subst h1
    refine PI.imp (pi_enT h2 (hb _ _ _ _ _ bs.kn) (pa_cons (ha X W cb bs _ h4) pa_nil (star_cons h3)) (star_cons h3)) ?_
    rintro σ H R ⟨α, ρ, μ, q, μ', g, run, aft⟩
    refine rd_seq g run aft fun d v α1 H1 μ1 g1 k1 r1 run1 aft1 => ?_
    cases d with
    | tup ds =>
      obtain ⟨p, vs, e, t, w⟩ := r1
      subst e
      exact ⟨p, vs, rfl, .inr ⟨t, rd_ret (R := fun α H w J => JOk X.K α H w J) g1.s run1 aft1 (jok_enT (s_tup t w))⟩⟩
    | fro ds =>
      obtain ⟨p, vs, e, t, w⟩ := r1
      subst e
      exact ⟨p, vs, rfl, .inl ⟨t.sq, rd_ret (R := fun α H w J => JOk X.K α H w J) g1.s run1 aft1 (jok_enL (s_fro t w))⟩⟩
    | ref l =>
      obtain ⟨ds, h1, run1⟩ := bnd_lst run1
      obtain ⟨p1, v1, e1, a1, b1, c1⟩ := lst_at g1.s r1 h1
      subst e1
      exact ⟨p1, v1, rfl, .inl ⟨SqL.of b1, rd_ret (R := fun α H w J => JOk X.K α H w J) g1.s run1 aft1 (jok_enL (s_lst a1))⟩⟩
    | _ => cases run1
  · cases h
def iZp (a b : CE) : CI := ⟨fun ρ => M.bnd (a.run ρ) fun x => M.bnd (b.run ρ) fun y => zipW x y, fun I tg e => match tg, e with
  | .Tuple _ _ _, .Call (.Name n _) [x, y] [] _ => decide (n = ("zip" : Str)) && (glo I.sc n && (noStar x && (noStar y && (a.chk I x && b.chk I y))))
  | _, _ => false⟩
theorem g_iZp {a b : CE} (hz : Bare Kn "zip") (ha : GE Kn k a) (hb : GE Kn k b) : GI Kn k (iZp a b) := by
  intro X W cb bs tg e h
  dsimp only [iZp] at h
  split at h
  · simp only [Bool.and_eq_true, decide_eq_true_eq, glo] at h
    obtain ⟨h1, h2, h3, h3', h4, h5⟩ := h
    subst h1
    refine PI.imp (RZ.pi_zipA h2 (hz _ _ _ _ _ bs.kn) (pa_cons (ha X W cb bs _ h4) (pa_cons (hb X W cb bs _ h5) pa_nil (star_cons h3')) (star_cons h3)) (by rw [star_cons h3]) (by rw [star_cons h3']; rfl)) ?_
    rintro σ H R ⟨α, ρ, μ, q, μ', g, run, aft⟩
    refine rd_seq g run aft fun d v α1 H1 μ1 g1 k1 r1 run1 aft1 => ?_
    refine rd_seq g1 run1 aft1 fun d2 v2 α2 H2 μ2 g2 k2 r2 run2 aft2 => ?_
    have r1' := r1.up k2
    cases d with
    | tup ds =>
      cases d2 with
      | tup es =>
        obtain ⟨p, vs, e, t, w⟩ := r1'
        obtain ⟨p', vs', e', t', w'⟩ := r2
        subst e e'
        exact ⟨p, p', vs, vs', rfl, .inr ⟨t, t', rd_ret (R := fun α H w J => JOk X.K α H w J) g2.s run2 aft2 (jok_zipT (s_tup t w) (s_tup t' w'))⟩⟩
      | _ => cases run2
    | fro ds =>
      obtain ⟨p, vs, e, t, w⟩ := r1'
      subst e
      cases d2 with
      | fro es =>
        obtain ⟨p', vs', e', t', w'⟩ := r2
        subst e'
        exact ⟨p, p', vs, vs', rfl, .inl ⟨t.sq, t'.sq, rd_ret (R := fun α H w J => JOk X.K α H w J) g2.s run2 aft2 (jok_zipL (s_fro t w) (s_fro t' w'))⟩⟩
      | ref m =>
        obtain ⟨es, h1, run2⟩ := bnd_lst run2
        obtain ⟨p1, v1, e1, a1, b1, c1⟩ := lst_at g2.s r2 h1
        subst e1
        exact ⟨p, p1, vs, v1, rfl, .inl ⟨t.sq, SqL.of b1, rd_ret (R := fun α H w J => JOk X.K α H w J) g2.s run2 aft2 (jok_zipL (s_fro t w) (s_lst a1))⟩⟩
      | _ => cases run2
    | ref l =>
      cases d2 with
      | fro es =>
        obtain ⟨p', vs', e', t', w'⟩ := r2
        subst e'
        obtain ⟨ds, h1, run2⟩ := bnd_lst run2
        obtain ⟨p1, v1, e1, a1, b1, c1⟩ := lst_at g2.s r1' h1
        subst e1
        exact ⟨p1, p', v1, vs', rfl, .inl ⟨SqL.of b1, t'.sq, rd_ret (R := fun α H w J => JOk X.K α H w J) g2.s run2 aft2 (jok_zipL (s_lst a1) (s_fro t' w'))⟩⟩
      | ref m =>
        obtain ⟨ds, h1, run2⟩ := bnd_lst run2
        obtain ⟨es, h2, run2⟩ := bnd_lst run2
        obtain ⟨p1, v1, e1, a1, b1, c1⟩ := lst_at g2.s r1' h1
        obtain ⟨p2, v2', e2, a2, b2, c2⟩ := lst_at g2.s r2 h2
        subst e1 e2
        exact ⟨p1, p2, v1, v2', rfl, .inl ⟨SqL.of b1, SqL.of b2, rd_ret (R := fun α H w J => JOk X.K α H w J) g2.s run2 aft2 (jok_zipL (s_lst a1) (s_lst a2))⟩⟩
      | _ => cases run2
    | _ => cases run2
  · cases h
end
end Mi
/-! Mi, part L: calls with names, methods, more built-ins. -/
namespace Mi
open PySem L2 PyProof.Rows
variable [Tb]

/-! ### a def of the module, called with names -/
def permL {a : Type} (perm : List Nat) (xs : List a) : List a := perm.filterMap (xs[·]?)
theorem vals_get : ∀ {vs : List V} {us : List Value} {i : Nat}, Vals vs us → (vs[i]? = none ∧ us[i]? = none) ∨ ∃ v u, vs[i]? = some v ∧ us[i]? = some u ∧ RelV v u
  | _, _, _, .nil => .inl ⟨rfl, rfl⟩
  | _, _, 0, .cons r t => .inr ⟨_, _, rfl, rfl, r⟩
  | _, _, i + 1, .cons r t => vals_get (i := i) t
theorem perm_vals {vs : List V} {us : List Value} (r : Vals vs us) : ∀ perm : List Nat, Vals (permL perm vs) (permL perm us)
  | [] => .nil
  | i :: p => by
    unfold permL
    rcases vals_get (i := i) r with ⟨h1, h2⟩ | ⟨v, u, h1, h2, h3⟩
    · rw [List.filterMap_cons, List.filterMap_cons, h1, h2]
      exact perm_vals r p
    · rw [List.filterMap_cons, List.filterMap_cons, h1, h2]
      exact .cons h3 (perm_vals r p)
theorem perm_reps {K : PySem.W.Frag} {α : List Addr} {H : Hp} {ds : List D} {vs : List V} (r : Reps K α H ds vs) : ∀ perm : List Nat, Reps K α H (permL perm ds) (permL perm vs)
  | [] => rfl
  | i :: p => by
    unfold permL
    rw [List.filterMap_cons, List.filterMap_cons]
    cases h : ds[i]? with
    | none =>
      have h2 : vs[i]? = none := by
        rw [List.getElem?_eq_none_iff] at h ⊢
        rw [r.len]
        exact h
      rw [h2]
      exact perm_reps r p
    | some d =>
      obtain ⟨v, h1, h2⟩ := r.get h
      rw [h1]
      exact Reps.cons h2 (perm_reps r p)
/-- how a call with names binds: np values by place, then the names ks -/
def KwB (K : PySem.W.Frag) (fd : FuncData) (ps ks : List Str) (np : Nat) (perm : List Nat) : Prop := ∀ (s : Shared) (us ws : List Value), us.length = np → ws.length = ks.length → BindsTo s fd ⟨us, ks.zip ws⟩ (ps.zip (permL perm (us ++ ws)))
theorem _root_.L2.Fun.kw {K : PySem.W.Frag} {x qual : Str} {st : Stmt} {f : Addr} {fd : FuncData} {ps ks : List Str} {np : Nat} {perm : List Nat} (F : Fun K x qual st f fd)
    (h : ∀ (kV doc pm : Value) (an : Option Addr) (cdv ct : Value) (us ws : List Value), us.length = np → ws.length = ks.length → bindArgs (PySem.W.fnOf x qual (defArgs st) (defBody st) (defScope st) .none kV doc pm an cdv ct) ⟨us, ks.zip ws⟩ = pure (ps.zip (permL perm (us ++ ws)))) : KwB K fd ps ks np perm := by
  obtain ⟨oc, od, kV, doc, pm, an, cdv, ct, osl, rfl, lk, hcd⟩ := F.ex
  exact fun s us ws h1 h2 => .of_eq (h kV doc pm an cdv ct us ws h1 h2)
def Knk (Kn : Kno) (x : Str) (ps ks : List Str) (np : Nat) (perm : List Nat) (m : List D → M D) (k : Nat) : Prop := ∀ P w K mg base, Kn P w K mg base →
  ∃ f fd, FnG P w K mg base k f fd ps (spOf K mg m) ∧ mg x = some (.ref f) ∧ PySem.W.keepIn K (.ref f) = true ∧ KwB K fd ps ks np perm
theorem Knk.up {Kn : Kno} {x : Str} {ps ks : List Str} {np : Nat} {perm : List Nat} {m : List D → M D} {j k : Nat} (h : Knk Kn x ps ks np perm m j) (hj : j ≤ k) : Knk Kn x ps ks np perm m k := fun P w K mg base q => by
  obtain ⟨f, fd, F, r⟩ := h P w K mg base q
  exact ⟨f, fd, F.up hj, r⟩
theorem runGw {X : Cx} {W : WX} {k np : Nat} {f : Addr} {fd : FuncData} {ps ks : List Str} {perm : List Nat} {sp : Sp} {pins : List (Addr × Obj)} {σ : L2.St} {H : Hp} {s : Shared} {Q : VK} {us ws : List Value} {vs zs : List V} (F : FnG X.prog X.w X.K X.mg X.base k f fd ps sp) (hr : RoomB k X.A) (hg : X.A.guards = some []) (hb : KwB X.K fd ps ks np perm) (tk : Takes X W) (I : Inv X pins σ H s)
    (r : Vals vs us) (rz : Vals zs ws) (h1 : us.length = np) (h2 : ws.length = ks.length) (h : sp (permL perm (vs ++ zs)) H Q fun c d H' => W c d σ H') : wpAny (model X.prog X.w) X.A (call (.ref f) us (ks.zip ws)) (EP X pins σ Q) X.xe s := by
  refine wpAny_call (codeAny_mono (F.run X.A X.stack s H ⟨us, ks.zip ws⟩ _ (permL perm (vs ++ zs)) Q _ hr hg I.env0 (hb s us ws h1 h2) (perm_vals (r.append rz) perm) h) fun r s' hq => ?_)
  have z := ended tk I hq
  cases r with
  | error e => exact z
  | ok fl => cases fl <;> exact z
/-- the names' values -/
structure CK where
  run : Env → M (List D)
  chk : Inf → List Keyword → Bool
def GK (Kn : Kno) (k : Nat) (c : CK) : Prop := ∀ X W b, Bas Kn k b X W → ∀ e, c.chk ⟨X.N, X.env.scope, b⟩ e = true → PK X e (rdA X.K X.mg W c.run)
section
variable {Kn : Kno} {k : Nat}
def kNil : CK := ⟨fun _ => M.ret [], fun _ es => match es with
  | [] => true
  | _ => false⟩
def kCons (c : CE) (cs : CK) : CK := ⟨fun ρ => M.bnd (c.run ρ) fun d => M.bnd (cs.run ρ) fun ds => M.ret (d :: ds), fun I es => match es with
  | ⟨_, e, _⟩ :: r => c.chk I e && cs.chk I r
  | _ => false⟩
theorem g_kNil : GK Kn k kNil := by
  intro X W cb b e h
  dsimp only [kNil] at h
  split at h
  · exact PK.imp pk_nil fun σ H Q ⟨α, ρ, μ, r, μ', g, run, aft⟩ => rd_ret g.s run aft Reps.nil
  · cases h
theorem g_kCons {c : CE} {cs : CK} (hc : GE Kn k c) (hs : GK Kn k cs) : GK Kn k (kCons c cs) := by
  intro X W cb b e h
  dsimp only [kCons] at h
  split at h
  · simp only [Bool.and_eq_true] at h
    obtain ⟨h1, h2⟩ := h
    refine PK.imp (pk_cons (hc X W cb b _ h1) (hs X W cb b _ h2)) ?_
    rintro σ H Q ⟨α, ρ, μ, r, μ', g, run, aft⟩
    refine rd_seq g run aft fun d v α1 H1 μ1 g1 k1 r1 run1 aft1 => ?_
    refine rd_seq g1 run1 aft1 fun ds vs α2 H2 μ2 g2 k2 r2 run2 aft2 => ?_
    exact rd_ret g2.s run2 aft2 (Reps.cons (r1.up k2) r2)
  · cases h
def kwNames (kws : List Keyword) : List (Option Str) := kws.map (·.arg)
theorem kw_facts {kws : List Keyword} {ks : List Str} {pos : Pos} {env : PySem.Env} (h : kwNames kws = ks.map some) : (backToKw pos (keywordEach kws env)).all (·.1.isSome) = true ∧ (backToKw pos (keywordEach kws env)).filterMap (·.1) = ks ∧ (backToKw pos (keywordEach kws env)).any (·.1.isNone) = false := by
  induction kws generalizing ks with
  | nil =>
    cases ks with
    | nil => exact ⟨rfl, rfl, rfl⟩
    | cons _ _ => cases h
  | cons c r ih =>
    cases ks with
    | nil => cases h
    | cons k0 ks =>
      obtain ⟨a, e, p⟩ := c
      simp only [kwNames, List.map_cons, List.cons.injEq] at h
      obtain ⟨h1, h2⟩ := h
      subst h1
      obtain ⟨i1, i2, i3⟩ := ih h2
      refine ⟨?_, ?_, ?_⟩
      · show (true && _) = true
        rw [Bool.true_and]; exact i1
      · show k0 :: _ = _
        exact congrArg _ i2
      · show (false || _) = false
        rw [Bool.false_or]; exact i3
/-- x(k1 = e1, ..): all by names -/
def cCallK (x : Str) (ks : List Str) (perm : List Nat) (m : List D → M D) (a : CK) : CE := ⟨fun ρ => M.bnd (a.run ρ) fun ds => if ds.length = ks.length then m (permL perm ds) else M.stop, fun I e => match e with
  | .Call (.Name y _) [] kws _ => decide (y = x) && (glo I.sc y && (unmarked y && (decide (kwNames kws = ks.map some) && a.chk I kws)))
  | _ => false⟩
theorem g_callK {x : Str} {ps ks : List Str} {perm : List Nat} {m : List D → M D} {a : CK} (hm : Knk Kn x ps ks 0 perm m k) (ha : GK Kn k a) : GE Kn k (cCallK x ks perm m a) := by
  intro X W cb bs e h
  dsimp only [cCallK] at h
  split at h
  · rename_i y p kws pos
    simp only [Bool.and_eq_true, decide_eq_true_eq, glo] at h
    obtain ⟨h1, h2, h3, h4, h5⟩ := h
    subst h1
    obtain ⟨f, fd, F, m1, m2, m3⟩ := hm _ _ _ _ _ bs.kn
    obtain ⟨k1, k2, k3⟩ := kw_facts (pos := pos) (env := X.env) h4
    refine ⟨fun pins s σ H Q I h => ?_⟩
    obtain ⟨α, ρ, μ, q, μ', g, run, aft⟩ := h
    refine wpAny_Call_Name_kw (ld_glob I h2 m1 (PySem.W.callWith_KW0 (h₀ := X.base) I.ok.mod.kin m2 k1 (thn ((ha X W cb bs _ h5).run pos pins s σ H (fun vs H1 => vs.length = ks.length ∧ spOf X.K X.mg m (permL perm ([] ++ vs)) H1 Q fun c d H' => W c d σ H') I ?_) fun ws s1 z => ?_) (by rw [k3]; rfl)) (unmarked1 h3))
    · refine rd_seq g run aft fun d v α1 H1 μ1 g1 x1 w1 run1 aft1 => ?_
      split at run1
      · rename_i hl
        exact ⟨w1.len.trans hl, α1, μ1, permL perm d, q, μ', g1.s, perm_reps w1 perm, run1, aft1⟩
      · cases run1
    · obtain ⟨zs, H1, I1, rz, hl, q1⟩ := z
      refine ⟨I1.kIn, ?_⟩
      rw [k2]
      exact runGw F bs.room bs.grd m3 bs.tk I1 .nil rz rfl (by rw [← rz.length]; exact hl) q1
  · cases h
end

/-! ### methods -/
def plainO : Expr → Bool
  | .Call (.Name _ _) [] [] _ => false
  | _ => true
theorem plainO_eq {o : Expr} {attr : Str} {env : PySem.Env} (h : plainO o = true) : attributeBase o attr env (eval o env) = eval o env := by
  cases o with
  | Call f a k p =>
    cases f with
    | Name x q =>
      cases a with
      | cons _ _ => rfl
      | nil =>
        cases k with
        | cons _ _ => rfl
        | nil => cases h
    | _ => rfl
  | _ => rfl
/-- a value of a type that has methods -/
def isT (T : String) : D → M Unit
  | .str _ => if T = "str" then M.ret () else M.stop
  | .ref l => fun μ => match μ[l]? with
    | some (.lst _) => if T = "list" then some (.ok (), μ) else none
    | some (.dct _) => if T = "dict" then some (.ok (), μ) else none
    | none => none
  | .fro _ => if T = "list" then M.ret () else M.stop
  | _ => M.stop
theorem isT_ty {T : String} {K : PySem.W.Frag} {α : List Addr} {H : Hp} {μ : List O} {d : D} {v : V} {p : Except Ex Unit × List O} (s : RepS K α H μ) (r : Rep K α H d v) (run : isT T d μ = some p) : tyV K T v H ∧ p = (.ok (), μ) := by
  cases d with
  | str x =>
    dsimp only [isT] at run
    split at run
    · rename_i ht
      cases (show v = .str _ from r)
      cases run
      exact ⟨ht, rfl⟩
    · cases run
  | fro ds =>
    dsimp only [isT] at run
    split at run
    · rename_i ht
      obtain ⟨a, vs, e, t, w⟩ := r
      subst e
      cases run
      exact ⟨.inl ⟨ht, vs, t.sq⟩, rfl⟩
    · cases run
  | ref l =>
    dsimp only [isT] at run
    cases h : μ[l]? with
    | none => rw [h] at run; cases run
    | some o =>
      rw [h] at run
      obtain ⟨a, e, ha⟩ := r
      subst e
      have ho := s.at_ l o a h ha
      cases o with
      | lst ds =>
        dsimp only at run
        split at run
        · rename_i ht
          obtain ⟨vs, hp, _⟩ := ho
          cases run
          exact ⟨.inl ⟨ht, vs, SqL.of hp⟩, rfl⟩
        · cases run
      | dct ds =>
        dsimp only at run
        split at run
        · rename_i ht
          obtain ⟨ws, hp, _⟩ := ho
          cases run
          exact ⟨.inr (.inr (.inl ⟨ht, .inl ⟨ws, hp⟩⟩)), rfl⟩
        · cases run
  | _ => cases run
def MtD (K : PySem.W.Frag) (r : V → List V → Hp → VK → Prop) (f : D → List D → M D) : Prop := ∀ (mg : Str → Option Value) (E : XK) (α : List Addr) (H : Hp) (μ μ' : List O) (d : D) (x : V) (ds : List D) (xs : List V) (q : Except Ex D) (Q : VK),
  RepS K α H μ → Rep K α H d x → Reps K α H ds xs → f d ds μ = some (q, μ') → Aft (Rep K) K mg E α H q μ' Q → r x xs H Q
def OkMt (id : String) (f : D → List D → M D) : Prop := ∀ X : Cx, Here X → ∃ r, MtR X id r ∧ MtD X.K r f
/-- what is known of a method -/
structure MtK (T name id : String) : Prop where
  pa : PlainAttrs T
  slot : Slot T name id
  ty : typeOf (.builtin id) = pure (.type "method_descriptor")
section
variable {Kn : Kno} {k : Nat}
def cM0 (T name : String) (f : D → List D → M D) (o : CE) : CE := ⟨fun ρ => M.bnd (o.run ρ) fun x => M.bnd (isT T x) fun _ => f x [], fun I e => match e with
  | .Call (.Attribute o1 n apos) [] [] cpos => decide (n = (name : Str)) && (plainO o1 && (apos.endLine == cpos.line && o.chk I o1))
  | _ => false⟩
def cM (T name : String) (f : D → List D → M D) (o : CE) (a : CA) : CE := ⟨fun ρ => M.bnd (o.run ρ) fun x => M.bnd (isT T x) fun _ => M.bnd (a.run ρ) fun ds => f x ds, fun I e => match e with
  | .Call (.Attribute o1 n apos) (e1 :: es) [] cpos => decide (n = (name : Str)) && (plainO o1 && (apos.endLine == cpos.line && (decide ((e1 :: es).length < 30) && ((e1 :: es).all noStar && (o.chk I o1 && a.chk I (e1 :: es))))))
  | _ => false⟩
theorem g_m0 {T name id : String} {f : D → List D → M D} {o : CE} (hk : MtK T name id) (hf : OkMt id f) (ho : GE Kn k o) : GE Kn k (cM0 T name f o) := by
  intro X W cb bs e h
  dsimp only [cM0] at h
  split at h
  · simp only [Bool.and_eq_true, decide_eq_true_eq] at h
    obtain ⟨h1, h2, h3, h4⟩ := h
    subst h1
    obtain ⟨r, c1, c2⟩ := hf X bs.here
    refine PE.imp (pe_bm0 hk.pa hk.slot hk.ty c1 (ho X W cb bs _ h4) (plainO_eq h2) h3) ?_
    rintro σ H Q ⟨α, ρ, μ, q, μ', g, run, aft⟩
    refine rd_seq g run aft fun d v α1 H1 μ1 g1 k1 r1 run1 aft1 => ?_
    unfold M.bnd at run1
    cases e1 : isT T d μ1 with
    | none => rw [e1] at run1; cases run1
    | some p =>
      obtain ⟨ty, rfl⟩ := isT_ty g1.s r1 e1
      rw [e1] at run1
      exact ⟨ty, c2 _ _ _ _ _ _ _ _ _ _ _ _ g1.s r1 Reps.nil run1 aft1⟩
  · cases h
theorem star_all {pos : Pos} {env : PySem.Env} : ∀ {es : List Expr}, es.all noStar = true → (backTo pos (starEach es env)).all (fun x => !x.1) = true
  | [], _ => rfl
  | e :: es, h => by
    rw [List.all_cons, Bool.and_eq_true] at h
    rw [star_cons h.1]
    show (true && (backTo pos (starEach es env)).all (fun x => !x.1)) = true
    rw [star_all h.2]; rfl
theorem g_m {T name id : String} {f : D → List D → M D} {o : CE} {a : CA} (hk : MtK T name id) (hf : OkMt id f) (ho : GE Kn k o) (ha : GA Kn k a) : GE Kn k (cM T name f o a) := by
  intro X W cb bs e h
  dsimp only [cM] at h
  split at h
  · rename_i o1 n apos e1 es cpos
    simp only [Bool.and_eq_true, decide_eq_true_eq] at h
    obtain ⟨h1, h2, h3, h6, h7, h4, h5⟩ := h
    subst h1
    obtain ⟨r, c1, c2⟩ := hf X bs.here
    have h7' := h7
    rw [List.all_cons, Bool.and_eq_true] at h7'
    refine PE.imp (pe_bm hk.pa hk.slot hk.ty c1 (ho X W cb bs _ h4) (ha X W cb bs _ h5) (plainO_eq h2) (by rw [star_all h7]; exact decide_eq_true h6) h3 (star_cons h7'.1) (star_any h7'.2)) ?_
    rintro σ H Q ⟨α, ρ, μ, q, μ', g, run, aft⟩
    refine rd_seq g run aft fun d v α1 H1 μ1 g1 k1 r1 run1 aft1 => ?_
    unfold M.bnd at run1
    cases e1 : isT T d μ1 with
    | none => rw [e1] at run1; cases run1
    | some p =>
      obtain ⟨ty, rfl⟩ := isT_ty g1.s r1 e1
      rw [e1] at run1
      refine ⟨ty, ?_⟩
      refine rd_seq (f := fun ds => f d ds) g1 run1 aft1 fun ds vs α2 H2 μ2 g2 k2 r2 run2 aft2 => ?_
      exact c2 _ _ _ _ _ _ _ _ _ _ _ _ g2.s (r1.up k2) r2 run2 aft2
  · cases h
end
/-! ### list.append, list.pop, list.extend -/
def appD : D → List D → M D := fun x ds μ => match x, ds with
  | .ref l, [y] => match μ[l]? with
    | some (.lst xs) => if xs.length < sizeLine then some (.ok .non, μ.set l (.lst (xs ++ [y]))) else none
    | _ => none
  | _, _ => none
theorem ok_app : OkMt "list.append" appD := by
  intro X _
  refine ⟨rAppend, mt_append, ?_⟩
  intro mg E α H μ μ' d x ds xs q Q s rx r run aft
  unfold appD at run
  split at run
  · rename_i l y
    cases h : μ[l]? with
    | none => rw [h] at run; cases run
    | some o =>
      rw [h] at run
      cases o with
      | dct _ => cases run
      | lst ys =>
        dsimp only at run
        split at run
        · rename_i hz
          obtain ⟨v, vr, e, r1, r2⟩ := r
          cases (show vr = [] from r2)
          obtain ⟨p1, v1, e1, a1, b1, c1⟩ := lst_at s rx h
          subst e e1
          refine ⟨p1, v1, v, rfl, rfl, b1, by rw [c1.len]; exact hz, ?_⟩
          cases run
          have x3 : Ext α H α (upd H p1 (.lst (v1 ++ [v]))) := Ext.put a1 b1 fun z => z
          exact aft α _ _ x3 (s.put (o := .lst (ys ++ [y])) a1 ⟨_, upd_same, (c1.app (Reps.cons r1 Reps.nil)).up x3⟩) rfl
        · cases run
  · cases run
def popD : D → List D → M D := fun x ds μ => match x, ds with
  | .ref l, [] => match μ[l]? with
    | some (.lst xs) => match xs[xs.length - 1]? with
      | some y => some (.ok y, μ.set l (.lst xs.dropLast))
      | none => none
    | _ => none
  | _, _ => none
theorem Reps.dropLast {K : PySem.W.Frag} {α : List Addr} {H : Hp} : ∀ {ds : List D} {vs : List V}, Reps K α H ds vs → Reps K α H ds.dropLast vs.dropLast
  | [], _, r => by cases (show _ = [] from r); rfl
  | [d], _, r => by
    obtain ⟨v, vr, e, r1, r2⟩ := r
    cases (show vr = [] from r2)
    subst e
    rfl
  | d :: e :: r, _, h => by
    obtain ⟨v, vr, e1, r1, r2⟩ := h
    subst e1
    obtain ⟨v2, vr2, e2, r3, r4⟩ := r2
    subst e2
    exact Reps.cons r1 (Reps.dropLast (ds := e :: r) (Reps.cons r3 r4))
theorem ok_pop : OkMt "list.pop" popD := by
  intro X _
  refine ⟨rPop, mt_pop, ?_⟩
  intro mg E α H μ μ' d x ds xs q Q s rx r run aft
  unfold popD at run
  split at run
  · rename_i l
    cases h : μ[l]? with
    | none => rw [h] at run; cases run
    | some o =>
      rw [h] at run
      cases o with
      | dct _ => cases run
      | lst ys =>
        dsimp only at run
        cases hy : ys[ys.length - 1]? with
        | none => rw [hy] at run; cases run
        | some y =>
          rw [hy] at run
          cases (show xs = [] from r)
          obtain ⟨p1, v1, e1, a1, b1, c1⟩ := lst_at s rx h
          subst e1
          obtain ⟨v, h1, h2⟩ := c1.get hy
          refine ⟨p1, v1, v, rfl, rfl, b1, by rw [c1.len]; exact h1, ?_⟩
          cases run
          have x3 : Ext α H α (upd H p1 (.lst v1.dropLast)) := Ext.put a1 b1 fun z => z
          exact aft α _ _ x3 (s.put (o := .lst ys.dropLast) a1 ⟨_, upd_same, (Reps.dropLast c1).up x3⟩) (h2.up x3)
  · cases run
theorem k_append : MtK "list" "append" "list.append" := ⟨F.plainAttrs_list, F.slot_list_append, F.type_list_append⟩
theorem k_pop : MtK "list" "pop" "list.pop" := ⟨F.plainAttrs_list, F.slot_list_pop, F.type_list_pop⟩
end Mi
/-! Mi, part N: a sequence turned about; max, min, all, any, in. -/
namespace Mi
open PySem L2 PyProof.Rows
variable [Tb]

/-! ### xs[::-1] of a tuple -/
section
variable {prog : Program} {w : World} {A : Around} {E : Value → Shared → Prop} {s : Shared}
theorem applied_rev {sl : Addr} {u : Tok} {n : Nat} {Q : Int × Int × Nat → Shared → Prop} (hs : s.heap.IsSliceOf sl .none .none (.int (-1) u))
    (h : Q ((n : Int) - 1, -1, n) s) : wpAny (model prog w) A (Builtin.Slice.sliceApplied (.ref sl) (pure (n : Int))) Q E s := by
  obtain ⟨os, hos, hcs, hds⟩ := id hs
  unfold Builtin.Slice.sliceApplied Builtin.Slice.sliceFields
  refine wpAny_bind (wpAny_bind (wpAny_field hos hds (x := .none) rfl (wpAny_bind (wpAny_field hos hds (x := .none) rfl (wpAny_bind (wpAny_field hos hds (x := .int (-1) u) rfl (wpAny_pure ?_)))))))
  refine wpAny_bind (slicePart_int ?_)
  show wpAny _ _ (if ((-1 : Int) == 0) = true then _ else _) _ _ s
  rw [if_neg (by decide)]
  refine wpAny_bind (slicePart_none (wpAny_bind (slicePart_none (wpAny_bind (wpAny_pure ?_)))))
  have e : Builtin.Slice.slicePlaces ((n : Int) - 1) (-1) (-1) = n := by
    unfold Builtin.Slice.slicePlaces
    rw [if_neg (by decide)]
    by_cases h0 : (n : Int) - 1 > -1
    · rw [if_pos h0]
      have : ((n : Int) - 1 - -1 - 1) / (- -1) = (n : Int) - 1 := by
        rw [show (- -1 : Int) = 1 by decide, Int.ediv_one]
        omega
      rw [this]
      omega
    · rw [if_neg h0]
      have : n = 0 := by omega
      rw [this]
      rfl
  show wpAny _ _ (pure ((n : Int) - 1, (-1 : Int), Builtin.Slice.slicePlaces ((n : Int) - 1) (-1) (-1))) _ _ s
  rw [e]
  exact wpAny_pure h
theorem fm_map {a b : Type} {f : a → Option b} {g : a → b} : ∀ {l : List a}, (∀ x ∈ l, f x = some (g x)) → l.filterMap f = l.map g
  | [], _ => rfl
  | x :: r, h => by
    rw [List.filterMap_cons, h x List.mem_cons_self, List.map_cons]
    exact congrArg _ (fm_map fun y hy => h y (List.mem_cons_of_mem _ hy))
theorem pick_rev (xs : Array Value) : ((List.range xs.size).filterMap fun (m : Nat) => xs[((xs.size : Int) - 1 + (m : Int) * -1).toNat]?).toArray = xs.toList.reverse.toArray := by
  congr 1
  apply List.ext_getElem?
  intro i
  have e : (List.range xs.size).filterMap (fun (m : Nat) => xs[((xs.size : Int) - 1 + (m : Int) * -1).toNat]?) = (List.range xs.size).map fun m => (xs.toList.reverse[m]?).getD .none := by
    apply fm_map
    intro m hm
    have hm' := List.mem_range.mp hm
    have h1 : ((xs.size : Int) - 1 + (m : Int) * -1).toNat = xs.size - 1 - m := by omega
    have h2 : xs.toList.reverse[m]? = xs[xs.size - 1 - m]? := by
      rw [List.getElem?_reverse (by simpa using hm')]
      simp
    show xs[((xs.size : Int) - 1 + (m : Int) * -1).toNat]? = some _
    rw [h1, h2, Array.getElem?_eq_getElem (by omega)]
    rfl
  rw [e, List.getElem?_map]
  by_cases hi : i < xs.size
  · rw [List.getElem?_range hi]
    have : i < xs.toList.reverse.length := by simpa using hi
    rw [List.getElem?_eq_getElem this]
    show some (xs.toList.reverse[i]?.getD Value.none) = _
    rw [List.getElem?_eq_getElem this]
    rfl
  · rw [List.getElem?_eq_none (by simp; omega), List.getElem?_eq_none (by simp; omega)]
    rfl
theorem item_rev {t sl : Addr} {items : Array Value} {u : Tok} {Q : Value → Shared → Prop} (ht : IsTup s.heap t items) (hs : s.heap.IsSliceOf sl .none .none (.int (-1) u))
    (h : Q (.ref s.heap.objs.size) { s with heap := s.heap.push { cls := .type "tuple", data := .seq items.toList.reverse.toArray } })
    (hsz : items.size ≤ sizeLine) : wpAny (model prog w) A (getItem (.ref t) (.ref sl)) Q E s := by
  have hok : sizeOk (.seq items.toList.reverse.toArray) := by
    show items.toList.reverse.toArray.size ≤ sizeLine
    rw [List.size_toArray, List.length_reverse, Array.length_toList]
    exact hsz
  obtain ⟨os, hos, hcs, hds⟩ := id hs
  have hTs : s.TypeIs (.ref sl) "slice" := ⟨os, hos, hcs⟩
  unfold getItem
  try with_reducible refine wpAny_holding ?_
  first | refine wpAny_bind (wpAny_pure ?_) | skip
  refine wpAny_bind (wpAny_sequenceKey ht.typeIs (by decide) ?_)
  refine wpAny_bind (wpAny_callSpecial?_slot (name := Str.ofString "__getitem__") ht.typeIs PyProof.Rows.slot_tuple_getitem
    (wpAny_call_entry PyProof.Rows.slot_tuple_getitem ht.typeIs entry_tuple_getitem ?_ (args_tuple_getitem _ _)))
  show wpAny _ _ (Builtin.Tuple.tupleItemsOf (.ref t) >>= _) _ _ s
  refine wpAny_bind (tupleItemsOf_ ht ?_)
  refine wpAny_bind (wpAny_typeOf hTs ?_)
  rw [if_pos (by decide)]
  refine wpAny_bind (applied_rev hs ?_)
  have hno : ¬ (((items.size : Int) - 1 == 0 && (-1 : Int) == 1 && items.size == items.size) = true) := by
    intro q
    rw [Bool.and_eq_true, Bool.and_eq_true] at q
    exact absurd q.1.2 (by decide)
  show wpAny _ _ (if (((items.size : Int) - 1 == 0 && (-1 : Int) == 1 && items.size == items.size) = true) then _ else _) _ _ s
  rw [if_neg hno, pick_rev]
  first
    | exact wpAny_bind (m := Builtin.Tuple.tupleExact _) (wpAny_newObj_type (wpAny_pure ⟨_, rfl, wpAny_pure h⟩) hok)
    | exact wpAny_bind (m := Builtin.Tuple.tupleExact _) (wpAny_newObj_type (wpAny_bind (wpAny_pure (wpAny_pure ⟨_, rfl, wpAny_pure h⟩))) hok)
    | exact wpAny_bind (wpAny_bind (m := Builtin.Tuple.tupleExact _) (wpAny_newObj_type (wpAny_pure (wpAny_pure ⟨_, rfl, wpAny_pure h⟩)) hok))
    | exact wpAny_bind (wpAny_bind (m := Builtin.Tuple.tupleExact _) (wpAny_newObj_type (wpAny_pure ⟨_, rfl, wpAny_pure h⟩) hok))
end
def tRev (K : PySem.W.Frag) (te : TE) : TE := fun σ H Q => te σ H fun x H1 => ∃ a xs, x = .ref a ∧ ((SqL K H1 a xs ∧ ∀ p, H1 p = none → Q (.ref p) (upd H1 p (.lst xs.reverse))) ∨ (SqT K H1 a xs ∧ ∀ p, H1 p = none → Q (.ref p) (upd H1 p (.tup xs.reverse))))
theorem pe_rev {X : Cx} {e : Expr} {te : TE} {k : Nat} {p1 p2 p3 pos : Pos} (he : PE X e te) : PE X (.Subscript e (.Slice none none (some (.UnaryOp .USub (.Constant (.int 1) k p1) p2)) p3) pos) (tRev X.K te) := by
  refine ⟨fun pins s σ H Q I h => ?_⟩
  refine Subscript_ (thn (he.run pins s σ H _ I h) fun v s1 ⟨x, H1, I1, r1, q1⟩ => ?_)
  obtain ⟨a, xs, ex, q1⟩ := q1
  subst ex
  cases r1
  have hst : PO X (some (.UnaryOp .USub (.Constant (.int 1) k p1) p2)) (tPart (tUn (rU fun i => .int (-i)) (tC (.int 1)))) := po_some (pe_un un_neg pe_int)
  refine wpAny_Slice (thn (po_none.run pins s1 σ H1 (fun o H2 => o = none ∧ H2 = H1) I1 ⟨rfl, rfl⟩) fun vl s2 ⟨l, H2, I2, pl, el, e2⟩ => ?_)
  subst el e2
  refine thn (po_none.run pins s2 σ H2 (fun o H3 => o = none ∧ H3 = H2) I2 ⟨rfl, rfl⟩) fun vu s3 ⟨u, H3, I3, pu, eu, e3⟩ => ?_
  subst eu e3
  refine thn (hst.run pins s3 σ H3 (fun o H4 => o = some (-1) ∧ H4 = H3) I3 ⟨1, rfl, -1, rfl, rfl, rfl⟩) fun vs s4 ⟨o, H4, I4, ps, eo, e4⟩ => ?_
  subst eo e4
  have I5 : Inv X pins σ H4 { s4 with heap := s4.heap.push { cls := .type "slice", data := .fields #[vl, vu, vs] } } := I4.kept (t' := s4.toks) fun b ob q => Heap.get?_push_of_some _ q
  show wpAny (model X.prog X.w) X.A (subscriptTail e (.Slice none none (some (.UnaryOp .USub (.Constant (.int 1) k p1) p2)) p3) (.ref a) (.ref s4.heap.objs.size)) (EP X pins σ Q) X.xe { s4 with heap := s4.heap.push { cls := .type "slice", data := .fields #[vl, vu, vs] } }
  rcases q1 with ⟨hx, q⟩ | ⟨hx, q⟩
  · obtain ⟨its, r, ht, hz⟩ := I5.list hx
    have hlen := r.length
    refine tail_any (ops := [.ref a, .ref s4.heap.objs.size]) ht.isList.typeIs (PySem.slot_list_getitem.lookup) ?_ (by with_unfolding_all rfl)
    refine wpAny_getItem_list_slice ht.isList (Heap.IsSliceOf.new _ vl vu vs) pl pu ps (by decide) ?_ (by rw [List.size_toArray]; omega)
    rw [PySem.W.krv_pick]
    refine ⟨.ref _, _, I5.laid (t' := s4.toks) (o := .lst xs.reverse) (fun b ob q => Heap.get?_push_of_some _ q) (Nat.le_refl _) ?_, rfl, q _ (I5.hok.fresh (Nat.le_refl _))⟩
    exact ⟨by rw [List.length_reverse]; exact hz, _, 0, r.reverse, Heap.get?_push_size _ rfl⟩
  · obtain ⟨its, r, ht, hz⟩ := I5.tuple hx
    have hlen := r.length
    cases pl
    cases pu
    cases ps with
    | int _ u =>
      refine tail_any (ops := [.ref a, .ref s4.heap.objs.size]) ht.typeIs (PyProof.Rows.slot_tuple_getitem.lookup) ?_ (by with_unfolding_all rfl)
      refine item_rev ht (Heap.IsSliceOf.new _ _ _ _) ?_ (by rw [List.size_toArray]; omega)
      refine ⟨.ref _, _, I5.laid (t' := s4.toks) (o := .tup xs.reverse) (fun b ob q => Heap.get?_push_of_some _ q) (Nat.le_refl _) ?_, rfl, q _ (I5.hok.fresh (Nat.le_refl _))⟩
      exact ⟨by rw [List.length_reverse]; exact hz, _, r.reverse, ⟨_, Heap.get?_push_size _ rfl, rfl, 0, by simp⟩⟩

section
variable {Kn : Kno} {k : Nat}
def revD : D → M D
  | .tup ds => M.ret (.tup ds.reverse)
  | .fro ds => M.new (.lst ds.reverse)
  | .ref l => M.bnd (M.lst l) fun ds => M.new (.lst ds.reverse)
  | _ => M.stop
theorem Reps.reverse {K : PySem.W.Frag} {α : List Addr} {H : Hp} : ∀ {ds : List D} {vs : List V}, Reps K α H ds vs → Reps K α H ds.reverse vs.reverse
  | [], _, r => by cases (show _ = [] from r); rfl
  | d :: ds, _, r => by
    obtain ⟨v, vr, e, r1, r2⟩ := r
    subst e
    rw [List.reverse_cons, List.reverse_cons]
    exact (Reps.reverse r2).app (Reps.cons r1 Reps.nil)
def cRev (a : CE) : CE := ⟨fun ρ => M.bnd (a.run ρ) revD, fun I e => match e with
  | .Subscript x (.Slice none none (some (.UnaryOp .USub (.Constant (.int 1) _ _) _)) _) _ => a.chk I x
  | _ => false⟩
theorem g_rev {a : CE} (ha : GE Kn k a) : GE Kn k (cRev a) := by
  intro X W cb bs e h
  dsimp only [cRev] at h
  split at h
  · refine PE.imp (pe_rev (ha X W cb bs _ h)) ?_
    rintro σ H Q ⟨α, ρ, μ, q, μ', g, run, aft⟩
    refine rd_seq g run aft fun d v α1 H1 μ1 g1 k1 r1 run1 aft1 => ?_
    cases d with
    | tup ds =>
      obtain ⟨p, vs, e, t, w⟩ := r1
      refine ⟨p, vs, e, .inr ⟨t, fun b hb => ?_⟩⟩
      cases run1
      exact aft1 α1 _ _ (Ext.lay hb) (g1.s.lay hb) ⟨b, _, rfl, SqT.of upd_same, (Reps.reverse w).up (Ext.lay hb)⟩
    | fro ds =>
      obtain ⟨p, vs, e, t, w⟩ := r1
      exact ⟨p, vs, e, .inl ⟨t.sq, fun b hb => new_lst g1.s run1 aft1 (Reps.reverse w) hb⟩⟩
    | ref l =>
      obtain ⟨ds, h1, run1⟩ := bnd_lst run1
      obtain ⟨p1, v1, e1, a1, b1, c1⟩ := lst_at g1.s r1 h1
      exact ⟨p1, v1, e1, .inl ⟨SqL.of b1, fun b hb => new_lst g1.s run1 aft1 (Reps.reverse c1) hb⟩⟩
    | _ => cases run1
  · cases h
end
/-! ### max, min of two numbers; all, any of a list of truths -/
def maxD : List D → M D
  | [.int i, .int j] => M.ret (.int (if j > i then j else i))
  | _ => M.stop
theorem ok_max : OkCall (.builtin "max") maxD := by
  intro X hx
  refine ⟨_, call_max2 hx.calm, ?_⟩
  intro mg E α H μ μ' ds xs q Q s r run aft
  unfold maxD at run
  split at run
  · obtain ⟨v, vr, e, r1, r2⟩ := r
    obtain ⟨v2, vr2, e2, r3, r4⟩ := r2
    cases (show vr2 = [] from r4)
    cases (show v = .int _ from r1)
    cases (show v2 = .int _ from r3)
    subst e2
    exact ⟨_, _, e, rd_ret s run aft rfl⟩
  · cases run
def minD : List D → M D
  | [.int i, .int j] => M.ret (.int (if j < i then j else i))
  | _ => M.stop
theorem ok_min : OkCall (.builtin "min") minD := by
  intro X hx
  refine ⟨_, call_min2 hx.calm, ?_⟩
  intro mg E α H μ μ' ds xs q Q s r run aft
  unfold minD at run
  split at run
  · obtain ⟨v, vr, e, r1, r2⟩ := r
    obtain ⟨v2, vr2, e2, r3, r4⟩ := r2
    cases (show vr2 = [] from r4)
    cases (show v = .int _ from r1)
    cases (show v2 = .int _ from r3)
    subst e2
    exact ⟨_, _, e, rd_ret s run aft rfl⟩
  · cases run
def blsOf : List D → Option (List Bool)
  | [] => some []
  | .bl b :: r => (blsOf r).map (b :: ·)
  | _ => none
theorem bls_rep {K : PySem.W.Frag} {α : List Addr} {H : Hp} : ∀ {ds : List D} {vs : List V} {bs : List Bool}, blsOf ds = some bs → Reps K α H ds vs → vs = bs.map V.bl
  | [], _, _, h, r => by cases h; exact r
  | .bl b :: ds, _, _, h, r => by
    unfold blsOf at h
    cases e : blsOf ds with
    | none => rw [e] at h; cases h
    | some cs =>
      rw [e] at h
      cases h
      obtain ⟨v, vr, e1, r1, r2⟩ := r
      subst e1
      cases (show v = .bl b from r1)
      rw [bls_rep e r2]
      rfl
def allD : List D → M D
  | [.ref l] => M.bnd (M.lst l) fun ds => match blsOf ds with
    | some bs => M.ret (.bl (bs.all id))
    | none => M.stop
  | _ => M.stop
def anyD : List D → M D
  | [.ref l] => M.bnd (M.lst l) fun ds => match blsOf ds with
    | some bs => M.ret (.bl (bs.any id))
    | none => M.stop
  | _ => M.stop
theorem ok_all : OkCall (.builtin "all") allD := by
  intro X hx
  refine ⟨_, cr_all hx.calm, ?_⟩
  intro mg E α H μ μ' ds xs q Q s r run aft
  unfold allD at run
  split at run
  · obtain ⟨v, vr, e, r1, r2⟩ := r
    cases (show vr = [] from r2)
    obtain ⟨ds, h1, run⟩ := bnd_lst run
    obtain ⟨p1, v1, e1, a1, b1, c1⟩ := lst_at s r1 h1
    subst e1
    cases hb : blsOf ds with
    | none => rw [hb] at run; cases run
    | some bs =>
      rw [hb] at run
      rw [bls_rep hb c1] at b1
      exact ⟨p1, bs, e, SqL.of b1, rd_ret s run aft rfl⟩
  · cases run
theorem ok_any : OkCall (.builtin "any") anyD := by
  intro X hx
  refine ⟨_, cr_any hx.calm, ?_⟩
  intro mg E α H μ μ' ds xs q Q s r run aft
  unfold anyD at run
  split at run
  · obtain ⟨v, vr, e, r1, r2⟩ := r
    cases (show vr = [] from r2)
    obtain ⟨ds, h1, run⟩ := bnd_lst run
    obtain ⟨p1, v1, e1, a1, b1, c1⟩ := lst_at s r1 h1
    subst e1
    cases hb : blsOf ds with
    | none => rw [hb] at run; cases run
    | some bs =>
      rw [hb] at run
      rw [bls_rep hb c1] at b1
      exact ⟨p1, bs, e, SqL.of b1, rd_ret s run aft rfl⟩
  · cases run
/-! ### in: a sign in a text; a flat value in a sequence of such -/
def flatD : D → Option V
  | .non => some .non
  | .bl b => some (.bl b)
  | .int i => some (.int i)
  | .str x => some (.str x)
  | _ => none
theorem flat_rep {K : PySem.W.Frag} {α : List Addr} {H : Hp} {d : D} {v u : V} (h : flatD d = some u) (r : Rep K α H d v) : v = u ∧ flatV u = true := by
  cases d with
  | non => cases h; exact ⟨r, rfl⟩
  | bl b => cases h; exact ⟨r, rfl⟩
  | int i => cases h; exact ⟨r, rfl⟩
  | str x => cases h; exact ⟨r, rfl⟩
  | _ => cases h
def flatsD : List D → Option (List V)
  | [] => some []
  | d :: r => match flatD d, flatsD r with
    | some a, some b => some (a :: b)
    | _, _ => none
theorem flats_rep {K : PySem.W.Frag} {α : List Addr} {H : Hp} : ∀ {ds : List D} {vs us : List V}, flatsD ds = some us → Reps K α H ds vs → vs = us ∧ us.all flatV = true
  | [], _, _, h, r => by cases h; exact ⟨r, rfl⟩
  | d :: ds, _, _, h, r => by
    unfold flatsD at h
    cases e1 : flatD d with
    | none => rw [e1] at h; cases h
    | some a =>
      cases e2 : flatsD ds with
      | none => rw [e1, e2] at h; cases h
      | some b =>
        rw [e1, e2] at h
        cases h
        obtain ⟨v, vr, e, r1, r2⟩ := r
        subst e
        obtain ⟨rfl, f1⟩ := flat_rep e1 r1
        obtain ⟨rfl, f2⟩ := flats_rep e2 r2
        exact ⟨rfl, by rw [List.all_cons, f1, f2]; rfl⟩
def inSq (neg : Bool) (d : D) (es : List D) : M D := match flatD d, flatsD es with
  | some x, some xs => M.ret (.bl (if neg then !inV x xs else inV x xs))
  | _, _ => M.stop
def inD (neg : Bool) : D → D → M D := fun d e => match d, e with
  | .str x, .str z => match x.cps.toList with
    | [c] => M.ret (.bl (if neg then !decide (c ∈ z.cps.toList) else decide (c ∈ z.cps.toList)))
    | _ => M.stop
  | d, .tup es => inSq neg d es
  | d, .fro es => inSq neg d es
  | d, .ref l => fun μ => match μ[l]? with
    | some (.lst es) => inSq neg d es μ
    | some (.dct kvs) => match keyD d with
      | some k => M.ret (.bl (if neg then !(valD kvs k).isSome else (valD kvs k).isSome)) μ
      | none => none
    | none => none
  | _, _ => M.stop
def rInDK (neg : Bool) : R2 := fun x y H Q => ∃ a o, y = .ref a ∧ DGet H a x o ∧ Q (.bl (if neg then !o.isSome else o.isSome)) H
theorem op_inDK {X : Cx} (hu : X.A.units + 1 < cLine) : OpR X (compareOp .In) (rInDK false) := by
  intro pins s σ H x y v u Q I rx ry h
  obtain ⟨a, o, rfl, g, q⟩ := h
  obtain rfl : u = Value.ref a := ry
  exact d_in hu I g rx fun s' I' => ⟨.bl o.isSome, H, I', rfl, q⟩
theorem op_notInDK {X : Cx} (hu : X.A.units + 1 < cLine) : OpR X (compareOp .NotIn) (rInDK true) := by
  intro pins s σ H x y v u Q I rx ry h
  obtain ⟨a, o, rfl, g, q⟩ := h
  obtain rfl : u = Value.ref a := ry
  exact d_notIn hu I g rx fun s' I' => ⟨.bl (!o.isSome), H, I', rfl, q⟩
theorem in_rule {K : PySem.W.Frag} {neg : Bool} : OpD K (fun x y H Q => (rIn K neg x y H Q ∨ rInDK neg x y H Q) ∨ ∃ (c : Nat) (z : Str), x = .str ⟨#[c]⟩ ∧ y = .str z ∧ Q (.bl (if neg then !decide (c ∈ z.cps.toList) else decide (c ∈ z.cps.toList))) H) (inD neg) := by
  intro mg E α H μ μ' d1 d2 x y q Q s r1 r2 run aft
  have sq : ∀ {es : List D} {p : Addr} {vs : List V}, y = .ref p → (SqL K H p vs ∨ SqT K H p vs) → Reps K α H es vs → inSq neg d1 es μ = some (q, μ') → rIn K neg x y H Q := by
    intro es p vs e t w run
    unfold inSq at run
    cases e1 : flatD d1 with
    | none => rw [e1] at run; cases run
    | some a =>
      cases e2 : flatsD es with
      | none => rw [e1, e2] at run; cases run
      | some b =>
        rw [e1, e2] at run
        obtain ⟨rfl, f1⟩ := flat_rep e1 r1
        obtain ⟨rfl, f2⟩ := flats_rep e2 w
        exact ⟨p, vs, e, t, f1, f2, rd_ret s run aft rfl⟩
  cases d2 with
  | tup es =>
    obtain ⟨p, vs, e, t, w⟩ := r2
    exact .inl (.inl (sq e (.inr t) w (by cases d1 <;> exact run)))
  | fro es =>
    obtain ⟨p, vs, e, t, w⟩ := r2
    exact .inl (.inl (sq e (.inl t.sq) w (by cases d1 <;> exact run)))
  | ref l =>
    have run : (match μ[l]? with
        | some (.lst es) => inSq neg d1 es μ
        | some (.dct kvs) => match keyD d1 with
          | some k => M.ret (.bl (if neg then !(valD kvs k).isSome else (valD kvs k).isSome)) μ
          | none => none
        | none => none) = some (q, μ') := by cases d1 <;> exact run
    cases h1 : μ[l]? with
    | none => rw [h1] at run; cases run
    | some o =>
      rw [h1] at run
      cases o with
      | lst es =>
        obtain ⟨p1, v1, e1, a1, b1, c1⟩ := lst_at s r2 h1
        exact .inl (.inl (sq e1 (.inl (SqL.of b1)) c1 run))
      | dct kvs =>
        dsimp only at run
        obtain ⟨p1, ws, e1, a1, b1, c1⟩ := dct_at s r2 h1
        cases hk : keyD d1 with
        | none => rw [hk] at run; cases run
        | some k =>
          rw [hk] at run
          have ev := key_rep r1 hk
          have hs : (valV ws k).isSome = (valD kvs k).isSome := by
            cases hv : valD kvs k with
            | none => rw [c1.none_ hv]; rfl
            | some d => obtain ⟨v, h2, _⟩ := c1.some_ hv; rw [h2]; rfl
          refine .inl (.inr ⟨p1, valV ws k, e1, .inl ⟨ws, k, .inl b1, ev, rfl⟩, ?_⟩)
          rw [hs]
          exact rd_ret s run aft rfl
  | str z =>
    cases d1 with
    | str x1 =>
      dsimp only [inD] at run
      generalize hc : x1.cps.toList = l at run
      cases l with
      | nil => cases run
      | cons c r =>
        cases r with
        | cons _ _ => cases run
        | nil =>
          refine .inr ⟨c, z, ?_, r2, rd_ret s run aft rfl⟩
          rw [show x = .str x1 from r1]
          obtain ⟨⟨cs⟩⟩ := x1
          have : cs = [c] := by simpa using hc
          rw [this]
    | _ => cases run
  | _ => cases d1 <;> cases run
theorem ok_in : OkCmp .In (inD false) := fun X h => ⟨_, OpR.or (OpR.or op_in_seq (op_inDK (hu0 h))) op_in_sign, in_rule⟩
theorem ok_notin : OkCmp .NotIn (inD true) := fun X h => ⟨_, OpR.or (OpR.or op_notIn_seq (op_notInDK (hu0 h))) op_notIn_sign, in_rule⟩
end Mi
/-! Mi, part O: any sequence walked; constants of the module. -/
namespace Mi
open PySem L2 PyProof.Rows
variable [Tb]

/-! ### a list, a tuple, a text walked -/
def iAny (K : PySem.W.Frag) (tl : TE) : TI := fun σ H R => tl σ H fun x H1 => (∃ a, x = .ref a ∧ (((∃ xs, SqL K H1 a xs) ∧ R (Itl K a) H1) ∨ ((∃ xs, SqT K H1 a xs) ∧ R (Itt K a) H1))) ∨ ∃ z, x = .str z ∧ R (Its z) H1
theorem pi_any {X : Cx} {tg l : Expr} {tl : TE} (hl : PE X l tl) : PI X tg l (iAny X.K tl) := by
  refine ⟨fun pins s σ H R I h => ?_⟩
  refine thn (hl.run pins s σ H _ I h) fun v s1 ⟨x, H1, I1, r1, q1⟩ => ?_
  rcases q1 with ⟨a, e, q1⟩ | ⟨z, e, q⟩
  · subst e
    cases r1
    have fr : ∀ b ∈ [s1.heap.objs.size], FpOk X pins H1 b := fun b hb => by
      have e : b = s1.heap.objs.size := by simpa using hb
      subst e
      exact I1.fpOk (Nat.le_refl _) (I1.hok.fresh (Nat.le_refl _))
    rcases q1 with ⟨⟨xs, hq⟩, q⟩ | ⟨⟨xs, hq⟩, q⟩
    · obtain ⟨its, rv, p, hz⟩ := I1.list hq
      refine wpAny_pyIter_list p.isList ?_
      exact ⟨s1.heap.objs.size, [s1.heap.objs.size], _, _, H1, rfl, I1.kept (t' := s1.toks) fun b o e => Heap.get?_push_of_some _ e, turn_list a _, ⟨_, Heap.get?_push_size _ rfl, rfl, rfl⟩, fr, q⟩
    · obtain ⟨its, rv, p, hz⟩ := I1.tuple hq
      refine wpAny_pyIter_tuple (show s1.heap.IsTuple a its.toArray from p) ?_
      exact ⟨s1.heap.objs.size, [s1.heap.objs.size], _, _, H1, rfl, I1.kept (t' := s1.toks) fun b o e => Heap.get?_push_of_some _ e, turn_tuple a _, ⟨_, Heap.get?_push_size _ rfl, rfl, rfl⟩, fr, q⟩
  · subst e
    obtain ⟨t, rfl⟩ := r1
    cases ha : z.cps.all (· < 128)
    · exact wpAny_pyIter_wide ha (pi_one (tk := s1.toks) I1 _ (turn_str _ z t "str_iterator" (.inr rfl)) ⟨_, Heap.get?_push_size _ rfl, rfl, rfl⟩ q)
    · exact wpAny_pyIter_ascii ha (pi_one (tk := s1.toks) I1 _ (turn_str _ z t "str_ascii_iterator" (.inl rfl)) ⟨_, Heap.get?_push_size _ rfl, rfl, rfl⟩ q)
def wkS (z : Str) : Wk := ⟨fun i _ => some (z.cps[i]?.map fun c => .str ⟨#[c]⟩), z.cps.size⟩
def anyW : D → M Wk
  | .tup ds => M.ret (wkOf ds)
  | .fro ds => M.ret (wkOf ds)
  | .ref l => M.bnd (M.lst l) fun ds => M.ret (wkL l ds.length)
  | .str z => M.ret (wkS z)
  | _ => M.stop
theorem jok_str {K : PySem.W.Frag} {α : List Addr} {H : Hp} {z : Str} : JOk K α H (wkS z) (Its z) := by
  intro α1 H1 μ i x s
  dsimp only [wkS]
  cases e : z.cps[i]? with
  | none => exact Array.getElem?_eq_none_iff.mp e
  | some c =>
    refine ⟨(Array.getElem?_eq_some_iff.mp e).1, ?_⟩
    rintro v H' ⟨rfl, c', hc, rfl⟩
    rw [e] at hc
    cases hc
    exact ⟨Ext.refl _ _, s, rfl⟩
section
variable {Kn : Kno} {k : Nat}
def iA (a : CE) : CI := ⟨fun ρ => M.bnd (a.run ρ) anyW, fun I _ e => a.chk I e⟩
theorem g_iA {a : CE} (ha : GE Kn k a) : GI Kn k (iA a) := by
  intro X W cb bs tg e h
  refine PI.imp (pi_any (ha X W cb bs e h)) ?_
  rintro σ H R ⟨α, ρ, μ, q, μ', g, run, aft⟩
  refine rd_seq g run aft fun d v α1 H1 μ1 g1 k1 r1 run1 aft1 => ?_
  cases d with
  | tup ds =>
    obtain ⟨p, vs, e, t, w⟩ := r1
    exact .inl ⟨p, e, .inr ⟨⟨vs, t⟩, rd_ret (R := fun α H w J => JOk X.K α H w J) g1.s run1 aft1 (jok_tup t w)⟩⟩
  | fro ds =>
    obtain ⟨p, vs, e, t, w⟩ := r1
    exact .inl ⟨p, e, .inl ⟨⟨vs, t.sq⟩, rd_ret (R := fun α H w J => JOk X.K α H w J) g1.s run1 aft1 (jok_fro t w)⟩⟩
  | ref l =>
    obtain ⟨ds, h1, run1⟩ := bnd_lst run1
    obtain ⟨p1, v1, e1, a1, b1, c1⟩ := lst_at g1.s r1 h1
    exact .inl ⟨p1, e1, .inl ⟨⟨v1, SqL.of b1⟩, rd_ret (R := fun α H w J => JOk X.K α H w J) g1.s run1 aft1 (jok_lst a1)⟩⟩
  | str z => exact .inr ⟨z, r1, rd_ret (R := fun α H w J => JOk X.K α H w J) g1.s run1 aft1 jok_str⟩
  | _ => cases run1
end
/-! ### constants of the module -/
/-- the value u of the module is the data d -/
def CR (K : PySem.W.Frag) (d : D) (u : Value) : Prop := ∃ v : V, RelV v u ∧ ∀ α H, Rep K α H d v
def CRs (K : PySem.W.Frag) (ds : List D) (us : List Value) : Prop := ∃ vs : List V, Vals vs us ∧ ∀ α H, Reps K α H ds vs
section
variable {K : PySem.W.Frag}
theorem cr_int {i : Int} {t : Tok} : CR K (.int i) (.int i t) := ⟨.int i, ⟨t, rfl⟩, fun _ _ => rfl⟩
theorem cr_str {x : Str} {t : Tok} : CR K (.str x) (.str x t) := ⟨.str x, ⟨t, rfl⟩, fun _ _ => rfl⟩
theorem cr_bl {b : Bool} : CR K (.bl b) (.bool b) := ⟨.bl b, rfl, fun _ _ => rfl⟩
theorem cr_non : CR K .non .none := ⟨.non, rfl, fun _ _ => rfl⟩
theorem crs_nil : CRs K [] [] := ⟨[], .nil, fun _ _ => rfl⟩
theorem crs_cons {d : D} {u : Value} {ds : List D} {us : List Value} (h : CR K d u) (hs : CRs K ds us) : CRs K (d :: ds) (u :: us) := by
  obtain ⟨v, r, q⟩ := h
  obtain ⟨vs, rs, qs⟩ := hs
  exact ⟨v :: vs, .cons r rs, fun α H => Reps.cons (q α H) (qs α H)⟩
theorem cr_tup {p : Addr} {od : Option Addr} {its : Array Value} {n : Nat} {sl : Array (Option Value)} {ds : List D} (l : K.lookup p = some ⟨.type "tuple", od, .seq its n, sl⟩) (hz : its.size ≤ 1000) (h : CRs K ds its.toList) : CR K (.tup ds) (.ref p) := by
  obtain ⟨vs, r, q⟩ := h
  exact ⟨.ref p, rfl, fun α H => ⟨p, vs, rfl, .inr ⟨_, its, n, l, rfl, rfl, Nat.le_trans hz (by decide), r⟩, q α H⟩⟩
end
theorem isGlo {Kn : Kno} {x : Str} {d : D} (h : ∀ P w K mg base, Kn P w K mg base → ∃ u, mg x = some u ∧ CR K d u) : IsGlo Kn x d := fun P w K mg base hk => by
  obtain ⟨u, hm, v, r, q⟩ := h P w K mg base hk
  exact ⟨v, u, hm, r, q⟩
end Mi
/-! Mi, part P: words of texts, f-strings, is of truths, count, three names at once, what is never come to. -/
namespace Mi
open PySem L2 PyProof.Rows
variable [Tb]

/-! ### a statement that is never come to -/
def sNever : CS := ⟨fun _ _ => none, fun _ _ => true⟩
theorem g_sNever {Kn : Kno} {k : Nat} : GS Kn k sNever := by
  intro X W cb bs po e h
  refine ⟨fun pins s σ H Q I h => ?_⟩
  obtain ⟨α, ρ, μ, r, μ', g, run, aft⟩ := h
  cases run
/-! ### is, is not of truths -/
def isBD (neg : Bool) : D → D → M D
  | .bl a, .bl b => M.ret (.bl (if neg then !decide (a = b) else decide (a = b)))
  | _, _ => M.stop
theorem ok_isB : OkCmp .Is (isBD false) := by
  intro X _
  refine ⟨_, op_isBl, ?_⟩
  intro mg E α H μ μ' d1 d2 x y q Q s r1 r2 run aft
  unfold isBD at run
  split at run
  · exact ⟨_, _, r1, r2, rd_ret s run aft rfl⟩
  · cases run
theorem ok_isnB : OkCmp .IsNot (isBD true) := by
  intro X _
  refine ⟨_, op_notBl, ?_⟩
  intro mg E α H μ μ' d1 d2 x y q Q s r1 r2 run aft
  unfold isBD at run
  split at run
  · exact ⟨_, _, r1, r2, rd_ret s run aft rfl⟩
  · cases run
/-! ### int(text) -/
def intTx : List D → M D
  | [.int i] => M.ret (.int i)
  | [.bl b] => M.ret (.int (if b then 1 else 0))
  | [.str z] => match PySem.intText? z with
    | some n => if z.length ≤ 640 then M.ret (.int n) else M.stop
    | none => M.stop
  | _ => M.stop
theorem ok_intTx : OkCall (.type "int") intTx := by
  intro X _
  refine ⟨_, CallR.or call_int1 call_int_str, ?_⟩
  intro mg E α H μ μ' ds xs q Q s r run aft
  unfold intTx at run
  split at run
  · obtain ⟨v, vr, e, r1, r2⟩ := r
    cases (show vr = [] from r2)
    cases (show v = .int _ from r1)
    exact .inl (.inl ⟨_, e, rd_ret s run aft rfl⟩)
  · obtain ⟨v, vr, e, r1, r2⟩ := r
    cases (show vr = [] from r2)
    cases (show v = .bl _ from r1)
    exact .inl (.inr ⟨_, e, rd_ret s run aft rfl⟩)
  · rename_i z
    obtain ⟨v, vr, e, r1, r2⟩ := r
    cases (show vr = [] from r2)
    cases (show v = .str _ from r1)
    cases hi : PySem.intText? z with
    | none => rw [hi] at run; cases run
    | some n =>
      rw [hi] at run
      dsimp only at run
      split at run
      · rename_i hz
        exact .inr ⟨_, _, e, hi, hz, rd_ret s run aft rfl⟩
      · cases run
  · cases run
/-! ### methods of texts -/
def swD : D → List D → M D
  | .str a, [.str b] => M.ret (.bl (Txt.startswith a b))
  | _, _ => M.stop
theorem ok_sw : OkMt "str.startswith" swD := by
  intro X _
  refine ⟨_, mt_startswith, ?_⟩
  intro mg E α H μ μ' d x ds xs q Q s rx r run aft
  unfold swD at run
  split at run
  · obtain ⟨v, vr, e, r1, r2⟩ := r
    cases (show vr = [] from r2)
    cases (show v = .str _ from r1)
    exact ⟨_, _, rx, e, rd_ret s run aft rfl⟩
  · cases run
def lsD : D → List D → M D
  | .str a, [.str b] => if a.length ≤ sizeLine then M.ret (.str (Txt.lstripChars a b)) else M.stop
  | _, _ => M.stop
theorem ok_ls : OkMt "str.lstrip" lsD := by
  intro X _
  refine ⟨_, mt_lstripChars, ?_⟩
  intro mg E α H μ μ' d x ds xs q Q s rx r run aft
  unfold lsD at run
  split at run
  · split at run
    · rename_i hz
      obtain ⟨v, vr, e, r1, r2⟩ := r
      cases (show vr = [] from r2)
      cases (show v = .str _ from r1)
      exact ⟨_, _, rx, e, hz, rd_ret s run aft rfl⟩
    · cases run
  · cases run
def partD : D → List D → M D
  | .str a, [.str b] => if (b.length == 0) = false ∧ a.length ≤ sizeLine then M.ret (.tup [.str (Txt.partition a b).1, .str (Txt.partition a b).2.1, .str (Txt.partition a b).2.2]) else M.stop
  | _, _ => M.stop
theorem ok_part : OkMt "str.partition" partD := by
  intro X _
  refine ⟨_, mt_partition, ?_⟩
  intro mg E α H μ μ' d x ds xs q Q s rx r run aft
  unfold partD at run
  split at run
  · split at run
    · rename_i hz
      obtain ⟨v, vr, e, r1, r2⟩ := r
      cases (show vr = [] from r2)
      cases (show v = .str _ from r1)
      refine ⟨_, _, rx, e, hz.1, hz.2, fun p hp => ?_⟩
      cases run
      exact aft α _ _ (Ext.lay hp) (s.lay hp) ⟨p, _, rfl, SqT.of upd_same, Reps.cons rfl (Reps.cons rfl (Reps.cons rfl Reps.nil))⟩
    · cases run
  · cases run
theorem k_sw : MtK "str" "startswith" "str.startswith" := ⟨F.plainAttrs_str, F.slot_str_startswith, F.type_str_startswith⟩
theorem k_ls : MtK "str" "lstrip" "str.lstrip" := ⟨F.plainAttrs_str, F.slot_str_lstrip, F.type_str_lstrip⟩
theorem k_part : MtK "str" "partition" "str.partition" := ⟨F.plainAttrs_str, F.slot_str_partition, F.type_str_partition⟩
/-! ### f-strings of two parts or more: texts, ints -/
structure CJ where
  run : Env → Str → M Str
  chk : Inf → List Expr → Bool
def rdJ (K : PySem.W.Frag) (mg : Str → Option Value) (W : WX) (m : Env → Str → M Str) (acc : Str) : L2.St → Hp → (Str → Hp → Prop) → Prop := rd (fun _ _ (a b : Str) => a = b) K mg W fun ρ => m ρ acc
def GJ (Kn : Kno) (k : Nat) (c : CJ) : Prop := ∀ X W b, Bas Kn k b X W → ∀ e, c.chk ⟨X.N, X.env.scope, b⟩ e = true → ∃ ts, PJ X e ts ∧ ∀ acc σ H Q, rdJ X.K X.mg W c.run acc σ H Q → tJs ts acc σ H Q
def jNil : CJ := ⟨fun _ acc => M.ret acc, fun _ es => match es with
  | [] => true
  | _ => false⟩
def putJ (acc y : Str) : M Str := if (acc ++ y).length ≤ sizeLine then M.ret (acc ++ y) else M.stop
/-- a written part -/
def jLit (z : Str) (r : CJ) : CJ := ⟨fun ρ acc => M.bnd (putJ acc z) fun a => r.run ρ a, fun I es => match es with
  | .Constant (.str y) _ _ :: er => decide (y = z) && r.chk I er
  | _ => false⟩
def fmtD : D → M Str
  | .str y => if y.length ≤ sizeLine then M.ret y else M.stop
  | .int i => if i.natAbs.log2 < 1920 then M.ret (Str.ofString (toString i)) else M.stop
  | _ => M.stop
/-- {a} -/
def jFmt (c : CE) (r : CJ) : CJ := ⟨fun ρ acc => M.bnd (c.run ρ) fun d => M.bnd (fmtD d) fun y => M.bnd (putJ acc y) fun a => r.run ρ a, fun I es => match es with
  | .FormattedValue e (-1) none _ :: er => c.chk I e && r.chk I er
  | _ => false⟩
def cJ (r : CJ) : CE := ⟨fun ρ => M.bnd (r.run ρ Str.empty) fun a => M.ret (.str a), fun I e => match e with
  | .JoinedStr (v1 :: v2 :: rest) _ => r.chk I (v1 :: v2 :: rest)
  | _ => false⟩
section
variable {Kn : Kno} {k : Nat}
theorem g_jNil : GJ Kn k jNil := by
  intro X W b bs e h
  dsimp only [jNil] at h
  split at h
  · refine ⟨[], .nil, ?_⟩
    rintro acc σ H Q ⟨α, ρ, μ, r, μ', g, run, aft⟩
    exact rd_ret g.s run aft rfl
  · cases h
theorem putJ_some {acc y : Str} {μ : List O} {p : Except Ex Str × List O} (h : putJ acc y μ = some p) : (acc ++ y).length ≤ sizeLine ∧ p = (.ok (acc ++ y), μ) := by
  unfold putJ at h
  split at h
  · cases h; exact ⟨by assumption, rfl⟩
  · cases h
theorem bnd_putJ {a : Type} {acc y : Str} {μ μ' : List O} {f : Str → M a} {r : Except Ex a} (h : M.bnd (putJ acc y) f μ = some (r, μ')) : (acc ++ y).length ≤ sizeLine ∧ f (acc ++ y) μ = some (r, μ') := by
  unfold M.bnd at h
  cases e : putJ acc y μ with
  | none => rw [e] at h; cases h
  | some p =>
    obtain ⟨h1, rfl⟩ := putJ_some e
    rw [e] at h
    exact ⟨h1, h⟩
theorem g_jLit {z : Str} {c : CJ} (hr : GJ Kn k c) : GJ Kn k (jLit z c) := by
  intro X W b bs e h
  dsimp only [jLit] at h
  split at h
  · simp only [Bool.and_eq_true, decide_eq_true_eq] at h
    obtain ⟨h1, h2⟩ := h
    subst h1
    obtain ⟨ts, p, q⟩ := hr X W b bs _ h2
    refine ⟨_, .cons pe_str p, ?_⟩
    rintro acc σ H Q ⟨α, ρ, μ, r, μ', g, run, aft⟩
    obtain ⟨hz, run⟩ := bnd_putJ run
    exact ⟨_, rfl, hz, q _ σ H Q ⟨α, ρ, μ, r, μ', g, run, aft⟩⟩
  · cases h
theorem g_jFmt {a : CE} {c : CJ} (ha : GE Kn k a) (hr : GJ Kn k c) : GJ Kn k (jFmt a c) := by
  intro X W b bs e h
  dsimp only [jFmt] at h
  split at h
  · simp only [Bool.and_eq_true] at h
    obtain ⟨h1, h2⟩ := h
    obtain ⟨ts, p, q⟩ := hr X W b bs _ h2
    refine ⟨_, .cons (pe_fmt (ha X W b bs _ h1)) p, ?_⟩
    rintro acc σ H Q ⟨α, ρ, μ, r, μ', g, run, aft⟩
    refine rd_seq g run aft fun d v α1 H1 μ1 g1 k1 r1 run1 aft1 => ?_
    cases d with
    | str y =>
      dsimp only [fmtD] at run1
      by_cases hy : y.length ≤ sizeLine
      · rw [if_pos hy] at run1
        obtain ⟨hz, run2⟩ := bnd_putJ (show M.bnd (putJ acc y) (fun a => c.run ρ a) μ1 = some (r, μ') from run1)
        exact .inl ⟨y, r1, hy, y, rfl, hz, q _ σ H1 Q ⟨α1, ρ, μ1, r, μ', g1, run2, aft1⟩⟩
      · rw [if_neg hy] at run1
        cases run1
    | int i =>
      dsimp only [fmtD] at run1
      by_cases hy : i.natAbs.log2 < 1920
      · rw [if_pos hy] at run1
        obtain ⟨hz, run2⟩ := bnd_putJ (show M.bnd (putJ acc (Str.ofString (toString i))) (fun a => c.run ρ a) μ1 = some (r, μ') from run1)
        exact .inr ⟨i, r1, hy, _, rfl, hz, q _ σ H1 Q ⟨α1, ρ, μ1, r, μ', g1, run2, aft1⟩⟩
      · rw [if_neg hy] at run1
        cases run1
    | _ => cases run1
  · cases h
theorem g_J {c : CJ} (hr : GJ Kn k c) : GE Kn k (cJ c) := by
  intro X W b bs e h
  dsimp only [cJ] at h
  split at h
  · obtain ⟨ts, p, q⟩ := hr X W b bs _ h
    refine PE.imp (pe_joined p) ?_
    rintro σ H Q ⟨α, ρ, μ, r, μ', g, run, aft⟩
    refine q _ σ H _ ?_
    refine rd_seq g run aft fun d v α1 H1 μ1 g1 k1 r1 run1 aft1 => ?_
    subst r1
    exact rd_ret g1.s run1 aft1 rfl
  · cases h
end
/-! ### list.count of flat items -/
def rCntF (K : PySem.W.Frag) : V → List V → Hp → VK → Prop := fun x xs H Q => ∃ (p : Addr) (ys : List V) (y : V), x = .ref p ∧ xs = [y] ∧ SqL K H p ys ∧ flatV y = true ∧ ys.all flatV = true ∧ Q (.int (ys.countP (fun z => eqV z y) : Nat)) H
theorem cnt_U {x : V} : ∀ {ys : List V} {us : List Value}, Vals ys us → ys.all flatV = true → us.countP (eqU x) = ys.countP (fun z => eqV z x)
  | _, _, .nil, _ => rfl
  | y :: ys, u :: us, .cons r t, f => by
    rw [List.all_cons, Bool.and_eq_true] at f
    rw [List.countP_cons, List.countP_cons, cnt_U t f.2, eqU_of r f.1]
theorem mt_cntF {X : Cx} : MtR X "list.count" (rCntF X.K) := by
  intro pins s σ H x xs v us Q I rx rxs h
  obtain ⟨p, ys, y, rfl, rfl, hs, fy, fs, q⟩ := h
  cases rx
  obtain ⟨u, rfl, ru⟩ := rxs.one
  obtain ⟨its, rv, ⟨⟨cls, dd, data, sl⟩, n, ho, hc, hdn, hd⟩, hlen⟩ := I.list hs
  simp only at hc hd
  subst hc hd
  refine call_meets PySem.F.slot_list_count ⟨_, ho, rfl⟩ PySem.F.entry_list_count (PySem.F.args_list_count_2 _ _)
    (SeqAt.list_countAt p its.toArray n dd sl u (eqU y)) ⟨ho, fun z hz => mem_eqAt ru fy rv fs z (by simpa using hz), ?_⟩
  refine ⟨.int (ys.countP (fun z => eqV z y) : Nat), H, I.tok _, ⟨s.toks, ?_⟩, q⟩
  show Value.int ((its.toArray.toList.countP (eqU y) : Nat) : Int) s.toks = _
  rw [show its.toArray.toList.countP (eqU y) = ys.countP (fun z => eqV z y) from cnt_U rv fs]
def cntD : D → List D → M D
  | .ref l, [d] => M.bnd (M.lst l) fun es => match flatD d, flatsD es with
    | some x, some xs => M.ret (.int (xs.countP (fun z => eqV z x) : Nat))
    | _, _ => M.stop
  | _, _ => M.stop
theorem ok_cnt : OkMt "list.count" cntD := by
  intro X _
  refine ⟨_, mt_cntF, ?_⟩
  intro mg E α H μ μ' d x ds xs q Q s rx r run aft
  unfold cntD at run
  split at run
  · rename_i l d1
    obtain ⟨es, h1, run⟩ := bnd_lst run
    obtain ⟨p1, v1, e1, a1, b1, c1⟩ := lst_at s rx h1
    obtain ⟨v, vr, e, r1, r2⟩ := r
    cases (show vr = [] from r2)
    cases h2 : flatD d1 with
    | none => rw [h2] at run; cases run
    | some y =>
      cases h3 : flatsD es with
      | none => rw [h2, h3] at run; cases run
      | some ys =>
        rw [h2, h3] at run
        obtain ⟨rfl, f1⟩ := flat_rep h2 r1
        obtain ⟨rfl, f2⟩ := flats_rep h3 c1
        exact ⟨p1, v1, v, e1, e, SqL.of b1, f1, f2, rd_ret s run aft rfl⟩
  · cases run
theorem k_cnt : MtK "list" "count" "list.count" := ⟨F.plainAttrs_list, F.slot_list_count, F.type_list_count⟩
/-! ### a, b, c = x, y, z with plain local names -/
def names3 (I : Inf) (i j l : Nat) (x y z : Expr) : Bool := match x, y, z with
  | .Name a p, .Name b q, .Name c r => decide (I.N[i]? = some a) && (decide (I.N[j]? = some b) && (decide (I.N[l]? = some c) && (decide (I.sc.names.lookup a = some .local) && (decide (I.sc.names.lookup b = some .local) && (decide (I.sc.names.lookup c = some .local) && (p.line == q.line && (p.line == r.line && (!(a == b) && (!(a == c) && !(b == c)))))))))) 
  | _, _, _ => false
def sPar3 (i j l : Nat) (a b c : CE) : CS := ⟨fun ρ => Ms.of (M.bnd (a.run ρ) fun x => M.bnd (b.run ρ) fun y => M.bnd (c.run ρ) fun z => M.ret (x, y, z)) ρ fun (p : D × D × D) μ => some (.nx (((ρ.set i (some p.1)).set j (some p.2.1)).set l (some p.2.2)), μ), fun I st => match st with
  | .Assign [.Tuple [t1, t2, t3] _ _] (.Tuple [e1, e2, e3] _ _) _ => decide (I.sc.kind = .function) && (!decide (i = j) && (!decide (i = l) && (!decide (j = l) && (names3 I i j l t1 t2 t3 && (foldFree [e1, e2, e3] && (a.chk I e1 && (b.chk I e2 && c.chk I e3)))))))
  | _ => false⟩
theorem swap3 {x y z : Str} {px py pz pt pt2 : Pos} {kt k2 : Nat} {e1 e2 e3 : Expr} {env : PySem.Env} (hk : env.scope.kind = .function) (hx : env.scope.names.lookup x = some .local) (hy : env.scope.names.lookup y = some .local) (hzl : env.scope.names.lookup z = some .local)
    (hl : (px.line == py.line) = true) (hl2 : (px.line == pz.line) = true) (h1 : (x == y) = false) (h2 : (x == z) = false) (h3 : (y == z) = false) (hf : foldFree [e1, e2, e3] = true) :
    swappedStores [.Tuple [.Name x px, .Name y py, .Name z pz] kt pt] (.Tuple [e1, e2, e3] k2 pt2) env = pure (some [x, y, z]) := by
  unfold foldFree at hf
  simp only [Bool.and_eq_true, Bool.not_eq_true'] at hf
  have kx : env.kindOf x = some .local := hx
  have ky : env.kindOf y = some .local := hy
  have kz : env.kindOf z = some .local := hzl
  have hl' : px.line = py.line := by simpa using hl
  have hl2' : px.line = pz.line := by simpa using hl2
  have n1 : ¬ y = x := fun z => by rw [z] at h1; simp at h1
  have n2 : ¬ z = x := fun z => by rw [z] at h2; simp at h2
  have n3 : ¬ z = y := fun z => by rw [z] at h3; simp at h3
  have v1 : noStar e1 = true ∧ noStar e2 = true ∧ noStar e3 = true := by simpa using hf.1
  unfold swappedStores
  have hl3 : pz.line = py.line := hl2'.symm.trans hl'
  have m1 : ¬ x = y := fun e => n1 e.symm
  have m2 : ¬ x = z := fun e => n2 e.symm
  have m3 : ¬ y = z := fun e => n3 e.symm
  simp [fn_block hk, kx, ky, kz, hf.2.1, hf.2.2, hl', hl3, n1, n2, n3, m1, m2, m3, List.eraseDups_cons, Expr.pos]
  intro q
  rcases q with q | q | q
  · exact (notSt q v1.1).elim
  · exact (notSt q v1.2.1).elim
  · exact (notSt q v1.2.2).elim
theorem g_sPar3 {Kn : Kno} {k : Nat} {i j l : Nat} {a b c : CE} (ha : GE Kn k a) (hb : GE Kn k b) (hc : GE Kn k c) : GS Kn k (sPar3 i j l a b c) := by
  intro X W cb bs po e h
  dsimp only [sPar3] at h
  split at h
  · rename_i t1 t2 t3 k1 p1 e1 e2 e3 k2 p2 pos
    simp only [Bool.and_eq_true, decide_eq_true_eq, Bool.not_eq_true', decide_eq_false_iff_not] at h
    obtain ⟨hk, hij, hil, hjl, hn, hf, c1, c2, c3⟩ := h
    unfold names3 at hn
    split at hn
    · simp only [Bool.and_eq_true, decide_eq_true_eq, Bool.not_eq_true'] at hn
      obtain ⟨n1, n2, n3, n4, n5, n6, n7, n8, n9, n10, n11⟩ := hn
      have hs : [e1, e2, e3].all noStar = true := by
        unfold foldFree at hf
        rw [Bool.and_eq_true] at hf
        exact hf.1
      simp only [List.all_cons, List.all_nil, Bool.and_true, Bool.and_eq_true] at hs
      refine PS.imp (ps_par3 bs.calm bs.nd n1 n2 n3 hij hil hjl n4 n5 n6 (pa_cons (ha X W cb bs _ c1) (pa_cons (hb X W cb bs _ c2) (pa_cons (hc X W cb bs _ c3) pa_nil (star_cons hs.2.2)) (star_cons hs.2.1)) (star_cons hs.1)) (swap3 hk n4 n5 n6 n7 n8 n9 n10 n11 hf)) ?_
      rintro σ H Dn ⟨α, ρ, μ, q, μ', g, run, aft⟩
      dsimp only [sPar3, Ms.of] at run
      cases e0 : M.bnd (a.run ρ) (fun x => M.bnd (b.run ρ) fun y => M.bnd (c.run ρ) fun z => M.ret (x, y, z)) μ with
      | none => rw [e0] at run; cases run
      | some pr =>
        obtain ⟨r0, μ0⟩ := pr
        rw [e0] at run
        refine rd_seq (R := fun _ _ (x : D × D × D) (y : V × V × V) => True) (Q := fun _ _ => True) (r := r0) (μ' := μ0) g e0 ?_ fun x1 v1 α1 H1 μ1 g1 x1' w1 run1 aft1 => ?_
        · cases r0 with
          | ok _ => exact fun _ _ _ _ _ _ => True.intro
          | error x =>
            cases run
            exact fun α' c dd H' k' s' x' => aft α' c dd σ H' k' s' (g.e.up k') x'
        · refine rd_seq (R := fun _ _ (x : D × D × D) (y : V × V × V) => True) (Q := fun _ _ => True) (r := r0) (μ' := μ0) g1 run1 aft1 fun x2 v2 α2 H2 μ2 g2 x2' w2 run2 aft2 => ?_
          refine rd_seq (R := fun _ _ (x : D × D × D) (y : V × V × V) => True) (Q := fun _ _ => True) (r := r0) (μ' := μ0) g2 run2 aft2 fun x3 v3 α3 H3 μ3 g3 x3' w3 run3 aft3 => ?_
          cases run3
          cases run
          refine ⟨v1, v2, v3, rfl, ?_⟩
          exact aft α3 _ H3 ((x1'.trans x2').trans x3') g3.s (((g3.e.set i ((w1.up x2').up x3')).set j (w2.up x3')).set l w3)
    · cases hn
  · cases h
end Mi
/-! Mi, part Q: displays of dicts, methods of dicts, more of lists and texts, sorted. -/
namespace Mi
open PySem L2 PyProof.Rows
variable [Tb]

/-! ### displays of dicts -/
/-- pairs -/
def Repp (K : PySem.W.Frag) (α : List Addr) (H : Hp) : List (D × D) → List (V × V) → Prop
  | [], vs => vs = []
  | (a, b) :: ds, vs => ∃ v u r, vs = (v, u) :: r ∧ Rep K α H a v ∧ Rep K α H b u ∧ Repp K α H ds r
structure CPs where
  run : Env → M (List (D × D))
  chk : Inf → List (Option Expr) → List Expr → Bool
def GPs (Kn : Kno) (k : Nat) (c : CPs) : Prop := ∀ X W b, Bas Kn k b X W → ∀ ks vs pos, c.chk ⟨X.N, X.env.scope, b⟩ ks vs = true → ∃ trs, PPs X pos ks vs trs ∧ ks.all (·.isSome) = true ∧ ks.length = vs.length ∧
  ∀ σ H Q, rd (fun α H => Repp X.K α H) X.K X.mg W c.run σ H Q → tPairs trs σ H Q
section
variable {Kn : Kno} {k : Nat}
def qNil : CPs := ⟨fun _ => M.ret [], fun _ ks vs => match ks, vs with
  | [], [] => true
  | _, _ => false⟩
def qCons (a b : CE) (r : CPs) : CPs := ⟨fun ρ => M.bnd (a.run ρ) fun x => M.bnd (b.run ρ) fun y => M.bnd (r.run ρ) fun ps => M.ret ((x, y) :: ps), fun I ks vs => match ks, vs with
  | some l :: ks, m :: vs => a.chk I l && (b.chk I m && r.chk I ks vs)
  | _, _ => false⟩
theorem g_qNil : GPs Kn k qNil := by
  intro X W cb bs ks vs pos h
  dsimp only [qNil] at h
  split at h
  · refine ⟨[], pps_nil, rfl, rfl, ?_⟩
    rintro σ H Q ⟨α, ρ, μ, q, μ', g, run, aft⟩
    exact rd_ret (v := []) g.s run aft rfl
  · cases h
theorem g_qCons {a b : CE} {r : CPs} (ha : GE Kn k a) (hb : GE Kn k b) (hr : GPs Kn k r) : GPs Kn k (qCons a b r) := by
  intro X W cb bs ks vs pos h
  dsimp only [qCons] at h
  split at h
  · simp only [Bool.and_eq_true] at h
    obtain ⟨h1, h2, h3⟩ := h
    obtain ⟨trs, p1, p2, p3, p4⟩ := hr X W cb bs _ _ pos h3
    refine ⟨_, pps_cons (ha X W cb bs _ h1) (hb X W cb bs _ h2) p1, by simpa using p2, by simpa using p3, ?_⟩
    rintro σ H Q ⟨α, ρ, μ, q, μ', g, run, aft⟩
    refine rd_seq g run aft fun d v α1 H1 μ1 g1 k1 w1 run1 aft1 => ?_
    refine rd_seq g1 run1 aft1 fun d2 v2 α2 H2 μ2 g2 k2 w2 run2 aft2 => ?_
    refine p4 σ H2 _ ?_
    refine rd_seq (R := fun α H => Repp X.K α H) g2 run2 aft2 fun ds vs α3 H3 μ3 g3 k3 w3 run3 aft3 => ?_
    exact rd_ret (R := fun α H => Repp X.K α H) g3.s run3 aft3 ⟨v, v2, vs, rfl, w1.up (k2.trans k3), w2.up k3, w3⟩
  · cases h
def keysD : List (D × D) → Option (List (Key × D))
  | [] => some []
  | (a, b) :: r => match keyD a, keysD r with
    | some k, some kvs => some ((k, b) :: kvs)
    | _, _ => none
theorem keys_rep {K : PySem.W.Frag} {α : List Addr} {H : Hp} : ∀ {ds : List (D × D)} {kvs : List (Key × D)} {ps : List (V × V)}, keysD ds = some kvs → Repp K α H ds ps → ∃ ws, ps = ws.map (fun kv => (kV kv.1, kv.2)) ∧ RepKv K α H kvs ws
  | [], _, _, h, r => by cases h; exact ⟨[], r, rfl⟩
  | (a, b) :: ds, _, _, h, ⟨v, u, r, e, r1, r2, r3⟩ => by
    unfold keysD at h
    cases e1 : keyD a with
    | none => rw [e1] at h; cases h
    | some kk =>
      cases e2 : keysD ds with
      | none => rw [e1, e2] at h; cases h
      | some ks =>
        rw [e1, e2] at h
        cases h
        obtain ⟨ws, q1, q2⟩ := keys_rep e2 r3
        exact ⟨(kk, u) :: ws, by rw [e, q1, key_rep r1 e1]; rfl, u, ws, rfl, r2, q2⟩
def mergeD (kvs more : List (Key × D)) : List (Key × D) := more.foldl (fun acc kv => putKD acc kv.1 kv.2) kvs
theorem RepKv.merge {K : PySem.W.Frag} {α : List Addr} {H : Hp} : ∀ {more kvs : List (Key × D)} {ms ws : List (Key × V)}, RepKv K α H more ms → RepKv K α H kvs ws → RepKv K α H (mergeD kvs more) (mergeK ws ms)
  | [], _, _, _, h, h2 => by
    have e : _ = ([] : List (Key × V)) := h
    rw [e]; exact h2
  | (j, d) :: more, kvs, _, ws, ⟨v, r, e, a, b⟩, h2 => by
    subst e
    show RepKv K α H (mergeD (putKD kvs j d) more) (mergeK (putK ws j v) r)
    exact RepKv.merge b (h2.put j a)
def cDict (c : CPs) : CE := ⟨fun ρ => withNew (.dct []) fun l => M.bnd (c.run ρ) fun ps => match keysD ps with
    | some kvs => if kvs.length ≤ 15 then setEmpty l (mergeD [] kvs) else M.stop
    | none => M.stop, fun I e => match e with
  | .Dict ks vs _ => !ks.isEmpty && (decide (ks.length ≤ 15) && c.chk I ks vs)
  | _ => false⟩
theorem g_dict {c : CPs} (hc : GPs Kn k c) : GE Kn k (cDict c) := by
  intro X W cb bs e h
  dsimp only [cDict] at h
  split at h
  · rename_i ks vs pos
    simp only [Bool.and_eq_true, decide_eq_true_eq] at h
    obtain ⟨h0, h1, h2⟩ := h
    obtain ⟨trs, p1, p2, p3, p4⟩ := hc X W cb bs _ _ pos h2
    refine PE.imp (pe_disp p1 p2 p3 (fun z => by rw [z] at h0; cases h0) h1) ?_
    rintro σ H Q ⟨α, ρ, μ, q, μ', g, run, aft⟩ p hp
    have g0 : Cfg X.K (α ++ [p]) (upd H p (.dK [])) ρ σ (μ ++ [.dct []]) := ⟨g.s.push hp ⟨[], upd_same, rfl⟩, g.e.up (Ext.push hp)⟩
    have a0 : (α ++ [p])[μ.length]? = some p := by
      rw [← g.s.len, List.getElem?_append_right (Nat.le_refl _)]
      simp
    refine p4 σ _ _ ?_
    refine rd_seq (R1 := fun α H => Repp X.K α H) g0 run (aft.up (Ext.push hp)) fun ds vs α2 H2 μ2 g2 k2 w2 run2 aft2 => ?_
    have a2 := k2.pre _ _ a0
    cases hk : keysD ds with
    | none => rw [hk] at run2; cases run2
    | some kvs =>
      rw [hk] at run2
      obtain ⟨ws, q1, q2⟩ := keys_rep hk w2
      obtain ⟨o, h1', h2'⟩ := g2.s.there a2
      by_cases h15 : kvs.length ≤ 15
      case neg => dsimp only at run2; rw [if_neg h15] at run2; cases run2
      dsimp only at run2
      rw [if_pos h15] at run2
      dsimp only [setEmpty] at run2
      rw [h1'] at run2
      cases o with
      | lst ds => cases run2
      | dct ds =>
        cases ds with
        | cons _ _ => cases run2
        | nil =>
          cases run2
          obtain ⟨ws', hw, e⟩ := h2'
          have e' : ws' = [] := e
          subst e'
          have hl : ws.length ≤ 15 := by rw [q2.len]; exact h15
          refine ⟨hw, ws, q1, hl, ?_⟩
          have x3 : Ext α2 H2 α2 (upd H2 p (.dK (mergeK [] ws))) := Ext.put a2 hw fun z => z
          exact aft2 α2 _ _ x3 (g2.s.put a2 ⟨_, upd_same, (q2.merge (kvs := []) (ws := []) rfl).up x3⟩) ⟨p, rfl, a2⟩
  · cases h
/-- {} -/
def cDict0 : CE := ⟨fun _ => M.new (.dct []), fun _ e => match e with
  | .Dict [] [] _ => true
  | _ => false⟩
theorem g_dict0 : GE Kn k cDict0 := by
  intro X W cb bs e h
  dsimp only [cDict0] at h
  split at h
  · refine PE.imp pe_dnewK ?_
    rintro σ H Q ⟨α, ρ, μ, q, μ', g, run, aft⟩ p hp
    cases run
    refine aft (α ++ [p]) _ _ (Ext.push hp) (g.s.push hp ⟨[], upd_same, rfl⟩) ⟨p, rfl, ?_⟩
    rw [← g.s.len, List.getElem?_append_right (Nat.le_refl _)]
    simp
  · cases h
end

/-! ### methods of dicts: get, setdefault -/
def rDGetM : V → List V → Hp → VK → Prop := fun x xs H Q => ∃ a y o, x = .ref a ∧ DGet H a y o ∧ ((xs = [y] ∧ Q (o.getD .non) H) ∨ ∃ z, xs = [y, z] ∧ Q (o.getD z) H)
theorem mt_dgetM {X : Cx} (hu : X.A.units + 1 < cLine) : MtR X "dict.get" rDGetM := by
  intro pins s σ H x xs v us Q I rx rs h
  obtain ⟨a, y, o, rfl, g, h⟩ := h
  obtain rfl : v = Value.ref a := rx
  rcases h with ⟨rfl, q⟩ | ⟨z, rfl, q⟩
  · cases rs with
    | cons r1 r2 =>
      cases r2
      exact d_get1 hu I g r1 fun w' s' I' rw' => ⟨_, H, I', rw', q⟩
  · cases rs with
    | cons r1 r2 =>
      cases r2 with
      | cons r3 r4 =>
        cases r4
        exact d_get2 hu I g r1 r3 fun w' s' I' rw' => ⟨_, H, I', rw', q⟩
def dgetD : D → List D → M D
  | .ref l, [y] => M.bnd (M.dct l) fun kvs => match keyD y with
    | some k => M.ret ((valD kvs k).getD .non)
    | none => M.stop
  | .ref l, [y, z] => M.bnd (M.dct l) fun kvs => match keyD y with
    | some k => M.ret ((valD kvs k).getD z)
    | none => M.stop
  | _, _ => M.stop
theorem RepKv.getD {K : PySem.W.Frag} {α : List Addr} {H : Hp} {kvs : List (Key × D)} {ws : List (Key × V)} {k : Key} {d : D} {v : V} (h : RepKv K α H kvs ws) (r : Rep K α H d v) : Rep K α H ((valD kvs k).getD d) ((valV ws k).getD v) := by
  cases e : valD kvs k with
  | none => rw [h.none_ e]; exact r
  | some d' => obtain ⟨v', h1, h2⟩ := h.some_ e; rw [h1]; exact h2
theorem ok_dget : OkMt "dict.get" dgetD := by
  intro X hx
  refine ⟨rDGetM, mt_dgetM (hu0 hx), ?_⟩
  intro mg E α H μ μ' d x ds xs q Q s rx r run aft
  unfold dgetD at run
  split at run
  · rename_i y
    obtain ⟨kvs, h1, run⟩ := bnd_dct run
    obtain ⟨p1, ws, e1, a1, b1, c1⟩ := dct_at s rx h1
    obtain ⟨v, vr, e, r1, r2⟩ := r
    cases (show vr = [] from r2)
    cases hk : keyD y with
    | none => rw [hk] at run; cases run
    | some kk =>
      rw [hk] at run
      exact ⟨p1, v, valV ws kk, e1, .inl ⟨ws, kk, .inl b1, key_rep r1 hk, rfl⟩, .inl ⟨e, rd_ret s run aft (c1.getD (d := .non) (v := .non) rfl)⟩⟩
  · rename_i y z
    obtain ⟨kvs, h1, run⟩ := bnd_dct run
    obtain ⟨p1, ws, e1, a1, b1, c1⟩ := dct_at s rx h1
    obtain ⟨v, vr, e, r1, v2, vr2, e2, r2, r3⟩ := r
    cases (show vr2 = [] from r3)
    subst e2
    cases hk : keyD y with
    | none => rw [hk] at run; cases run
    | some kk =>
      rw [hk] at run
      exact ⟨p1, v, valV ws kk, e1, .inl ⟨ws, kk, .inl b1, key_rep r1 hk, rfl⟩, .inr ⟨v2, e, rd_ret s run aft (c1.getD r2)⟩⟩
  · cases run
def rDSetdM : V → List V → Hp → VK → Prop := fun x xs H Q => ∃ a k z kvs, x = .ref a ∧ xs = [kV k, z] ∧ H a = some (.dK kvs) ∧ kvs.length < sizeLine ∧ (∀ v, valV kvs k = some v → Q v H) ∧ (valV kvs k = none → Q z (upd H a (.dK (putK kvs k z))))
theorem mt_dsetdM {X : Cx} : MtR X "dict.setdefault" rDSetdM := by
  intro pins s σ H x xs v us Q I rx rs h
  obtain ⟨a, k, z, kvs, rfl, rfl, ha, hl, q1, q2⟩ := h
  obtain rfl : v = Value.ref a := rx
  cases rs with
  | cons r1 r2 =>
    cases r2 with
    | cons r3 r4 =>
      cases r4
      exact d_setd I ha r1 r3 hl (fun v hv w' s' I' rw' => ⟨v, _, I', rw', q1 v hv⟩) fun hn w' s' I' rw' => ⟨z, _, I', rw', q2 hn⟩
def dsetD : D → List D → M D := fun x ds μ => match x, ds with
  | .ref l, [y, z] => match μ[l]? with
    | some (.dct kvs) => match keyD y with
      | some k => if kvs.length < sizeLine then match valD kvs k with
          | some d => some (.ok d, μ)
          | none => some (.ok z, μ.set l (.dct (putKD kvs k z)))
        else none
      | none => none
    | _ => none
  | _, _ => none
theorem ok_dsetd : OkMt "dict.setdefault" dsetD := by
  intro X hx
  refine ⟨rDSetdM, mt_dsetdM, ?_⟩
  intro mg E α H μ μ' d x ds xs q Q s rx r run aft
  unfold dsetD at run
  split at run
  · rename_i l y z
    cases h1 : μ[l]? with
    | none => rw [h1] at run; cases run
    | some ob =>
      rw [h1] at run
      cases ob with
      | lst _ => cases run
      | dct kvs =>
        dsimp only at run
        obtain ⟨p1, ws, e1, a1, b1, c1⟩ := dct_at s rx h1
        obtain ⟨v, vr, e, r1, v2, vr2, e2, r2, r3⟩ := r
        cases (show vr2 = [] from r3)
        subst e2
        cases hk : keyD y with
        | none => rw [hk] at run; cases run
        | some kk =>
          rw [hk] at run
          dsimp only at run
          by_cases hz : kvs.length < sizeLine
          · rw [if_pos hz] at run
            refine ⟨p1, kk, v2, ws, e1, by rw [e, key_rep r1 hk], b1, by rw [c1.len]; exact hz, fun w hw => ?_, fun hn => ?_⟩
            · cases hv : valD kvs kk with
              | none => rw [c1.none_ hv] at hw; cases hw
              | some d' =>
                obtain ⟨w', h3, h4⟩ := c1.some_ hv
                rw [hv] at run
                rw [h3] at hw
                cases hw
                exact rd_ret (d := d') s run aft h4
            · cases hv : valD kvs kk with
              | some d' =>
                obtain ⟨w', h3, h4⟩ := c1.some_ hv
                rw [h3] at hn
                cases hn
              | none =>
                rw [hv] at run
                cases run
                have x3 : Ext α H α (upd H p1 (.dK (putK ws kk v2))) := Ext.put a1 b1 fun z => z
                exact aft α _ _ x3 (s.put (o := .dct (putKD kvs kk z)) a1 ⟨_, upd_same, (c1.put kk r2).up x3⟩) (r2.up x3)
          · rw [if_neg hz] at run
            cases run
  · cases run
theorem k_dget : MtK "dict" "get" "dict.get" := ⟨F.plainAttrs_dict, F.slot_dict_get, F.type_dict_get⟩
theorem k_dsetd : MtK "dict" "setdefault" "dict.setdefault" := ⟨F.plainAttrs_dict, F.slot_dict_setdefault, F.type_dict_setdefault⟩

/-! ### list.pop(), list.pop(i), list.extend -/
theorem MtR.or {X : Cx} {id : String} {r r' : V → List V → Hp → VK → Prop} (h : MtR X id r) (h' : MtR X id r') : MtR X id (fun x xs H Q => r x xs H Q ∨ r' x xs H Q) := by
  intro pins s σ H x xs v us Q I rx rs q
  rcases q with q | q
  · exact h pins s σ H x xs v us Q I rx rs q
  · exact h' pins s σ H x xs v us Q I rx rs q
def popAD : D → List D → M D := fun x ds μ => match x, ds with
  | .ref l, [] => popD (.ref l) [] μ
  | .ref l, [.int i] => match μ[l]? with
    | some (.lst xs) => if -(2 ^ 63) ≤ i ∧ i < 2 ^ 63 then match seqIndex? i xs.length with
        | some k => match xs[k]? with
          | some y => some (.ok y, μ.set l (.lst (xs.eraseIdx k)))
          | none => none
        | none => none
      else none
    | _ => none
  | _, _ => none
theorem Reps.erase {K : PySem.W.Frag} {α : List Addr} {H : Hp} : ∀ {ds : List D} {vs : List V} (i : Nat), Reps K α H ds vs → Reps K α H (ds.eraseIdx i) (vs.eraseIdx i)
  | [], _, i, r => by
    cases (show _ = [] from r)
    exact rfl
  | d :: ds, _, 0, ⟨v, r, e, a, b⟩ => by subst e; exact b
  | d :: ds, _, i + 1, ⟨v, r, e, a, b⟩ => by
    subst e
    exact ⟨v, _, rfl, a, Reps.erase i b⟩
theorem ok_popA : OkMt "list.pop" popAD := by
  intro X hx
  refine ⟨_, MtR.or (show MtR X "list.pop" rPop from mt_pop) (show MtR X "list.pop" rPopAt from mt_popAt), ?_⟩
  intro mg E α H μ μ' d x ds xs q Q s rx r run aft
  unfold popAD at run
  split at run
  · rename_i l
    left
    unfold popD at run
    dsimp only at run
    cases h : μ[l]? with
    | none => rw [h] at run; cases run
    | some o =>
      rw [h] at run
      cases o with
      | dct _ => cases run
      | lst ys =>
        dsimp only at run
        cases hy : ys[ys.length - 1]? with
        | none => rw [hy] at run; cases run
        | some y =>
          rw [hy] at run
          cases (show xs = [] from r)
          obtain ⟨p1, v1, e1, a1, b1, c1⟩ := lst_at s rx h
          subst e1
          obtain ⟨v, h1, h2⟩ := c1.get hy
          refine ⟨p1, v1, v, rfl, rfl, b1, by rw [c1.len]; exact h1, ?_⟩
          cases run
          have x3 : Ext α H α (upd H p1 (.lst v1.dropLast)) := Ext.put a1 b1 fun z => z
          exact aft α _ _ x3 (s.put (o := .lst ys.dropLast) a1 ⟨_, upd_same, (Reps.dropLast c1).up x3⟩) (h2.up x3)
  · rename_i l i
    right
    cases h : μ[l]? with
    | none => rw [h] at run; cases run
    | some o =>
      rw [h] at run
      cases o with
      | dct _ => cases run
      | lst ys =>
        dsimp only at run
        by_cases hi : -(2 ^ 63) ≤ i ∧ i < 2 ^ 63
        · rw [if_pos hi] at run
          obtain ⟨v, vr, e, r1, r2⟩ := r
          cases (show vr = [] from r2)
          cases (show v = .int i from r1)
          obtain ⟨p1, v1, e1, a1, b1, c1⟩ := lst_at s rx h
          subst e1
          cases hk : seqIndex? i ys.length with
          | none => rw [hk] at run; cases run
          | some kk =>
            rw [hk] at run
            dsimp only at run
            cases hy : ys[kk]? with
            | none => rw [hy] at run; cases run
            | some y =>
              rw [hy] at run
              obtain ⟨v, h1, h2⟩ := c1.get hy
              refine ⟨p1, v1, i, kk, v, rfl, e, b1, hi.1, hi.2, by rw [c1.len]; exact hk, h1, ?_⟩
              cases run
              have x3 : Ext α H α (upd H p1 (.lst (v1.eraseIdx kk))) := Ext.put a1 b1 fun z => z
              exact aft α _ _ x3 (s.put (o := .lst (ys.eraseIdx kk)) a1 ⟨_, upd_same, (c1.erase kk).up x3⟩) (h2.up x3)
        · rw [if_neg hi] at run
          cases run
  · cases run
def extD : D → List D → M D := fun x ds μ => match x, ds with
  | .ref l, [.ref m] => match μ[l]?, μ[m]? with
    | some (.lst xs), some (.lst ys) => if xs.length + ys.length ≤ sizeLine then some (.ok .non, μ.set l (.lst (xs ++ ys))) else none
    | _, _ => none
  | _, _ => none
theorem ok_ext : OkMt "list.extend" extD := by
  intro X hx
  refine ⟨rExtend, mt_extend, ?_⟩
  intro mg E α H μ μ' d x ds xs q Q s rx r run aft
  unfold extD at run
  split at run
  · rename_i l m
    split at run
    · rename_i as bs h1 h2
      by_cases hz : as.length + bs.length ≤ sizeLine
      · rw [if_pos hz] at run
        obtain ⟨v, vr, e, r1, r2⟩ := r
        cases (show vr = [] from r2)
        obtain ⟨p1, v1, e1, a1, b1, c1⟩ := lst_at s rx h1
        obtain ⟨p2, v2, e2, a2, b2, c2⟩ := lst_at s r1 h2
        subst e1 e2 e
        refine ⟨p1, p2, v1, v2, rfl, rfl, b1, b2, by rw [c1.len, c2.len]; exact hz, ?_⟩
        cases run
        have x3 : Ext α H α (upd H p1 (.lst (v1 ++ v2))) := Ext.put a1 b1 fun z => z
        exact aft α _ _ x3 (s.put (o := .lst (as ++ bs)) a1 ⟨_, upd_same, (c1.app c2).up x3⟩) rfl
      · rw [if_neg hz] at run
        cases run
    · cases run
  · cases run
theorem k_extend : MtK "list" "extend" "list.extend" := ⟨F.plainAttrs_list, F.slot_list_extend, F.type_list_extend⟩

/-! ### sorted: texts; str.join, str.split -/
def strsOf : List D → Option (List Str)
  | [] => some []
  | .str x :: r => (strsOf r).map (x :: ·)
  | _ => none
theorem strs_rep {K : PySem.W.Frag} {α : List Addr} {H : Hp} : ∀ {ds : List D} {vs : List V} {xs : List Str}, strsOf ds = some xs → Reps K α H ds vs → vs = xs.map V.str
  | [], _, _, h, r => by cases h; exact r
  | .str x :: ds, _, _, h, r => by
    unfold strsOf at h
    cases e : strsOf ds with
    | none => rw [e] at h; cases h
    | some cs =>
      rw [e] at h
      cases h
      obtain ⟨v, vr, e1, r1, r2⟩ := r
      subst e1
      cases (show v = .str x from r1)
      rw [strs_rep e r2]
      rfl
theorem reps_strs {K : PySem.W.Frag} {α : List Addr} {H : Hp} : ∀ xs : List Str, Reps K α H (xs.map D.str) (xs.map V.str)
  | [] => rfl
  | x :: xs => ⟨.str x, xs.map V.str, rfl, rfl, reps_strs xs⟩
/-- not above, by the signs -/
def leS (x y : Str) : Bool := decide (x.cps.toList ≤ y.cps.toList)
theorem leS_iff {x y : Str} : leS x y = true ↔ ¬ y.cps.toList < x.cps.toList := by
  unfold leS
  rw [decide_eq_true_eq]
  exact Iff.rfl
theorem leS_trans {x y z : Str} (h : leS x y = true) (k : leS y z = true) : leS x z = true := by
  unfold leS at *
  rw [decide_eq_true_eq] at *
  exact List.le_trans h k
theorem leS_total (x y : Str) : (leS x y || leS y x) = true := by
  unfold leS
  rw [Bool.or_eq_true, decide_eq_true_eq, decide_eq_true_eq]
  exact List.le_total _ _
theorem leS_anti {x y : Str} (h : leS x y = true) (k : leS y x = true) : x = y := by
  unfold leS at *
  rw [decide_eq_true_eq] at *
  exact TL.ext_tl (List.le_antisymm h k)
def sortS (xs : List Str) : List Str := xs.mergeSort leS
theorem sortS_perm (xs : List Str) : (sortS xs).Perm xs := List.mergeSort_perm _ _
theorem sortS_sorted (xs : List Str) : (sortS xs).Pairwise fun x y => leS x y = true := List.pairwise_mergeSort (le := leS) (fun _ _ _ => leS_trans) leS_total xs
/-- two rising orders of the same are one -/
theorem sorted_one {a : Type} {le : a → a → Prop} (anti : ∀ x y, le x y → le y x → x = y) : ∀ {xs ys : List a}, xs.Perm ys → xs.Pairwise le → ys.Pairwise le → xs = ys
  | [], ys, p, _, _ => (List.Perm.nil_eq p)
  | x :: xs, [], p, _, _ => by simp at p
  | x :: xs, y :: ys, p, h, k => by
    have h' := List.pairwise_cons.mp h
    have k' := List.pairwise_cons.mp k
    have e : x = y := by
      have mx : x ∈ y :: ys := p.subset List.mem_cons_self
      have my : y ∈ x :: xs := p.symm.subset List.mem_cons_self
      rcases List.mem_cons.mp mx with z | z
      · exact z
      · rcases List.mem_cons.mp my with z2 | z2
        · exact z2.symm
        · exact anti x y (h'.1 y z2) (k'.1 x z)
    subst e
    rw [sorted_one anti (List.perm_cons x |>.mp p) h'.2 k'.2]
theorem risingS_pair : ∀ {ys : List Str} {p : Str}, risingS p ys = true → (p :: ys).Pairwise fun x y => leS x y = true
  | [], p, _ => List.pairwise_singleton _ _
  | x :: r, p, h => by
    unfold risingS at h
    rw [Bool.and_eq_true] at h
    have ih := risingS_pair h.2
    have px : leS p x = true := by
      rw [leS_iff]
      have := h.1
      rw [ltCps_eq] at this
      simpa using this
    refine List.pairwise_cons.mpr ⟨fun y hy => ?_, ih⟩
    rcases List.mem_cons.mp hy with z | z
    · rw [z]; exact px
    · exact leS_trans px ((List.pairwise_cons.mp ih).1 y z)
theorem sortedS_is {ys xs : List Str} (p : ys.Perm xs) (h : sortedS ys = true) : ys = sortS xs := by
  refine sorted_one (le := fun x y => leS x y = true) (fun _ _ => leS_anti) (p.trans (sortS_perm xs).symm) ?_ (sortS_sorted xs)
  cases ys with
  | nil => exact List.Pairwise.nil
  | cons x r => exact risingS_pair h
def sortedD : List D → M D
  | [.ref l] => M.bnd (M.lst l) fun ds => match strsOf ds with
    | some xs => if xs.length < 64 then M.new (.lst ((sortS xs).map .str)) else M.stop
    | none => M.stop
  | _ => M.stop
theorem ok_sorted : OkCall (.builtin "sorted") sortedD := by
  intro X hx
  refine ⟨_, cr_sortedS, ?_⟩
  intro mg E α H μ μ' ds xs q Q s r run aft
  unfold sortedD at run
  split at run
  · obtain ⟨v, vr, e, r1, r2⟩ := r
    cases (show vr = [] from r2)
    obtain ⟨ds, h1, run⟩ := bnd_lst run
    obtain ⟨p1, v1, e1, a1, b1, c1⟩ := lst_at s r1 h1
    subst e1
    cases hb : strsOf ds with
    | none => rw [hb] at run; cases run
    | some bs =>
      rw [hb] at run
      dsimp only at run
      by_cases hz : bs.length < 64
      · rw [if_pos hz] at run
        rw [strs_rep hb c1] at b1
        refine ⟨p1, bs, e, SqL.of b1, hz, fun ys p hp hs hn => ?_⟩
        rw [sortedS_is hp hs]
        exact new_lst s run aft (reps_strs _) hn
      · rw [if_neg hz] at run; cases run
  · cases run
/-- texts of a list or a tuple -/
def seqStrs (μ : List O) : D → Option (List Str)
  | .tup ds => strsOf ds
  | .fro ds => strsOf ds
  | .ref l => match μ[l]? with
    | some (.lst ds) => strsOf ds
    | _ => none
  | _ => none
theorem seqStrs_rep {K : PySem.W.Frag} {α : List Addr} {H : Hp} {μ : List O} {d : D} {v : V} {xs : List Str} (s : RepS K α H μ) (r : Rep K α H d v) (h : seqStrs μ d = some xs) : ∃ p, v = .ref p ∧ (SqL K H p (xs.map V.str) ∨ SqT K H p (xs.map V.str)) := by
  cases d with
  | tup ds =>
    obtain ⟨p, vs, e, t, w⟩ := r
    rw [strs_rep (show strsOf ds = some xs from h) w] at t
    exact ⟨p, e, .inr t⟩
  | fro ds =>
    obtain ⟨p, vs, e, t, w⟩ := r
    rw [strs_rep (show strsOf ds = some xs from h) w] at t
    exact ⟨p, e, .inl t.sq⟩
  | ref l =>
    dsimp only [seqStrs] at h
    cases e0 : μ[l]? with
    | none => rw [e0] at h; cases h
    | some o =>
      rw [e0] at h
      cases o with
      | dct _ => cases h
      | lst ds =>
        obtain ⟨p1, v1, e1, a1, b1, c1⟩ := lst_at s r e0
        rw [strs_rep (show strsOf ds = some xs from h) c1] at b1
        exact ⟨p1, e1, .inl (SqL.of b1)⟩
  | _ => cases h
def joinD : D → List D → M D := fun x ds μ => match x, ds with
  | .str a, [d] => match seqStrs μ d with
    | some ys => if (ys.map (·.length)).sum + ys.length * a.length ≤ 16777216 then some (.ok (.str (Txt.join a ys)), μ) else none
    | none => none
  | _, _ => none
theorem ok_join : OkMt "str.join" joinD := by
  intro X hx
  refine ⟨_, mt_join, ?_⟩
  intro mg E α H μ μ' d x ds xs q Q s rx r run aft
  unfold joinD at run
  split at run
  · rename_i a y
    obtain ⟨v, vr, e, r1, r2⟩ := r
    cases (show vr = [] from r2)
    cases h : seqStrs μ y with
    | none => rw [h] at run; cases run
    | some ys =>
      rw [h] at run
      dsimp only at run
      by_cases hz : (ys.map (·.length)).sum + ys.length * a.length ≤ 16777216
      · rw [if_pos hz] at run
        obtain ⟨p, e2, hp⟩ := seqStrs_rep s r1 h
        subst e2
        exact ⟨a, p, ys, rx, e, hp, hz, rd_ret s run aft rfl⟩
      · rw [if_neg hz] at run; cases run
  · cases run
def splitD : D → List D → M D := fun x ds μ => match x, ds with
  | .str a, [.str b] => if (b.length == 0) = false ∧ a.length + 2 ≤ sizeLine then M.new (.lst ((Txt.split a b).map .str)) μ else none
  | _, _ => none
theorem ok_split : OkMt "str.split" splitD := by
  intro X hx
  refine ⟨_, mt_split, ?_⟩
  intro mg E α H μ μ' d x ds xs q Q s rx r run aft
  unfold splitD at run
  split at run
  · rename_i a b
    obtain ⟨v, vr, e, r1, r2⟩ := r
    cases (show vr = [] from r2)
    cases (show v = .str b from r1)
    by_cases hz : (b.length == 0) = false ∧ a.length + 2 ≤ sizeLine
    · rw [if_pos hz] at run
      exact ⟨a, b, rx, e, hz.1, hz.2, fun p hp => new_lst s run aft (reps_strs _) hp⟩
    · rw [if_neg hz] at run; cases run
  · cases run
theorem k_join : MtK "str" "join" "str.join" := ⟨F.plainAttrs_str, F.slot_str_join, F.type_str_join⟩
theorem k_split : MtK "str" "split" "str.split" := ⟨F.plainAttrs_str, F.slot_str_split, F.type_str_split⟩
end Mi
/-! Mi, part K: zip of three lists or tuples; a slice whose step is told. -/
namespace Mi
open PySem PySem.Spec PyProof.Rows L2
variable [Tb]

/-! ### zip of three; of each whether it is a list -/
def ItK (k : Bool) (h : Heap) (it a : Addr) (i : Nat) : Prop := match k with
  | true => h.IsListIter it a i
  | false => h.IsTupleIter it a i
def CoK (k : Bool) (h : Heap) (a : Addr) (its : Array Value) : Prop := match k with
  | true => h.IsList a its
  | false => h.IsTuple a its
def SqK (k : Bool) (K : PySem.W.Frag) (H : Hp) (a : Addr) (xs : List V) : Prop := match k with
  | true => SqL K H a xs
  | false => SqT K H a xs
def obK (k : Bool) (a : Addr) : Obj := match k with
  | true => { cls := .type "list_iterator", data := .fields #[.ref a, .int 0 0] }
  | false => { cls := .type "tuple_iterator", data := .fields #[.ref a, .int 0 0] }
theorem ItK.live {k : Bool} {h : Heap} {it a : Addr} {i : Nat} (st : ItK k h it a i) : ∃ o, h.get? it = some o ∧ ∀ v, o.data ≠ .cell v := by
  cases k <;> (obtain ⟨o, e, _, d⟩ := st; exact ⟨o, e, fun v q => by rw [d] at q; cases q⟩)
theorem ItK.at {k : Bool} {h h' : Heap} {it a : Addr} {i : Nat} (st : ItK k h it a i) (q : ∀ o, h.get? it = some o → h'.get? it = some o) : ItK k h' it a i := by
  cases k
  · exact Heap.IsTupleIter.at st q
  · exact Heap.IsListIter.at st q
theorem ItK.ob {k : Bool} {h : Heap} {it a : Addr} (e : h.get? it = some (obK k a)) : ItK k h it a 0 := by
  cases k
  · exact ⟨_, e, rfl, rfl⟩
  · exact ⟨_, e, rfl, rfl⟩
theorem beginsK (k : Bool) (a : Addr) (its : Array Value) : Begins (.ref a) (obK k a) fun h => CoK k h a its := by
  cases k
  · exact begins_tuple a its
  · exact begins_list a its
theorem drawsK {prog : Program} {w : World} {A : Around} (hh : A.handled = none) (k : Bool) (it a : Addr) (hne : a ≠ it) (its : Array Value) :
    Draws prog w A it [it, a] its.size (fun i v => its[i]? = some v) (fun i h => ItK k h it a i ∧ CoK k h a its) := by
  cases k
  · exact Draws.tuple hh it a hne its
  · exact Draws.list hh it a hne its
theorem coK {X : Cx} {pins : List (Addr × Obj)} {σ : L2.St} {H : Hp} {s : Shared} {k : Bool} {a : Addr} {xs : List V} (I : Inv X pins σ H s) (h : SqK k X.K H a xs) : ∃ its : List Value, Vals xs its ∧ CoK k s.heap a its.toArray ∧ a < s.heap.objs.size := by
  cases k
  · obtain ⟨its, r, p, _⟩ := I.tuple h
    obtain ⟨o1, ho1, _⟩ := id p
    exact ⟨its, r, p, Heap.lt_size ho1⟩
  · obtain ⟨its, r, p, _⟩ := I.list h
    exact ⟨its, r, p.isList, p.lt⟩
theorem injK {X : Cx} {pins : List (Addr × Obj)} {σ : L2.St} {H : Hp} {s : Shared} {k : Bool} {a : Addr} {xs ys : List V} (I : Inv X pins σ H s) (h : SqK k X.K H a xs) (h' : SqK k X.K H a ys) : xs = ys := by
  cases k
  · exact I.tuple_inj h h'
  · exact I.list_inj h h'
def Itz3 (K : PySem.W.Frag) (k1 k2 k3 : Bool) (a b c : Addr) : It :=
  ⟨fun i H => ∃ (xs ys zs : List V) (x y z : V), SqK k1 K H a xs ∧ SqK k2 K H b ys ∧ SqK k3 K H c zs ∧ xs[i]? = some x ∧ ys[i]? = some y ∧ zs[i]? = some z,
    fun i H v H' => ∃ T x y z, v = .ref T ∧ H T = none ∧ H' = upd H T (.tup [x, y, z]) ∧ (∀ xs, SqK k1 K H a xs → xs[i]? = some x) ∧ (∀ ys, SqK k2 K H b ys → ys[i]? = some y) ∧ ∀ zs, SqK k3 K H c zs → zs[i]? = some z,
    fun i H => ∃ xs ys zs : List V, SqK k1 K H a xs ∧ SqK k2 K H b ys ∧ SqK k3 K H c zs ∧ i ≤ xs.length ∧ i ≤ ys.length ∧ i ≤ zs.length ∧ (i = xs.length ∨ i = ys.length ∨ i = zs.length)⟩
theorem turn_zip3 {P : Program} {w : World} {K : PySem.W.Frag} {elts : List Expr} {kk : Nat} {tpos : Pos} {k1 k2 k3 : Bool} {a b c z TI TO i1 i2 i3 : Addr} (S : ZipSep3 z TI TO i1 i2 i3 [i1, a] [i2, b] [i3, c]) (n1 : a ≠ i1) (n2 : b ≠ i2) (n3 : c ≠ i3) :
    Turn P w K (.Tuple elts kk tpos) (Itz3 K k1 k2 k3 a b c) [z, TI, TO, i1, i2, i3] z (fun i h => IsZip h z TI TO .none ∧ IsTupOf3 h TI (.ref i1) (.ref i2) (.ref i3) ∧ (∃ x y z, IsTupOf3 h TO x y z) ∧ ItK k1 h i1 a i ∧ ItK k2 h i2 b i ∧ ItK k3 h i3 c i) where
  mem := by simp
  obj := fun i h st e he => by
    obtain ⟨hz, hTI, ⟨x, y, v, hTO⟩, h1, h2, h3⟩ := st
    have e' : e = z ∨ e = TI ∨ e = TO ∨ e = i1 ∨ e = i2 ∨ e = i3 := by simpa using he
    rcases e' with q | q | q | q | q | q
    · rw [q]; exact ⟨_, hz, fun v q => nomatch q⟩
    · rw [q]; exact ⟨_, hTI, fun v q => nomatch q⟩
    · rw [q]; exact ⟨_, hTO, fun v q => nomatch q⟩
    · rw [q]; exact h1.live
    · rw [q]; exact h2.live
    · rw [q]; exact h3.live
  keep := fun i h h' st k => by
    obtain ⟨hz, hTI, ⟨x, y, v, hTO⟩, h1, h2, h3⟩ := st
    exact ⟨k z (by simp) _ hz, k TI (by simp) _ hTI, ⟨x, y, v, k TO (by simp) _ hTO⟩, h1.at fun o q => k i1 (by simp) o q, h2.at fun o q => k i2 (by simp) o q, h3.at fun o q => k i3 (by simp) o q⟩
  item := by
    intro X hP hw hK hc i pins s σ H E I hf st hg
    subst hP hw hK
    obtain ⟨hz, hTI, ⟨x0, y0, z0, hTO⟩, h1, h2, h3⟩ := st
    obtain ⟨xs, ys, zs, x, y, v, hqx, hqy, hqz, hx, hy, hv⟩ := hg
    obtain ⟨its, rv, p, _⟩ := coK I hqx
    obtain ⟨its2, rv2, p2, _⟩ := coK I hqy
    obtain ⟨its3, rv3, p3, _⟩ := coK I hqz
    obtain ⟨u, hu, ru⟩ := rv.get hx
    obtain ⟨u2, hu2, ru2⟩ := rv2.get hy
    obtain ⟨u3, hu3, ru3⟩ := rv3.get hv
    have hzl : z < s.heap.objs.size := Heap.lt_size hz
    have hd : X.A.in1.handled = none := I.ok.hd hc
    have l1 : i < its.toArray.size := by simpa using (List.getElem?_eq_some_iff.mp hu).1
    have l2 : i < its2.toArray.size := by simpa using (List.getElem?_eq_some_iff.mp hu2).1
    have l3 : i < its3.toArray.size := by simpa using (List.getElem?_eq_some_iff.mp hu3).1
    refine wpAny_pyNext_zipD3_item S (drawsK hd k1 i1 a n1 its.toArray) (drawsK hd k2 i2 b n2 its2.toArray) (drawsK hd k3 i3 c n3 its3.toArray) hz hTI hTO ⟨h1, p⟩ ⟨h2, p2⟩ ⟨h3, p3⟩ l1 l2 l3 fun w1 w2 w3 h' tk e1 e2 e3 z' TO' st1 st2 st3 hT hsz hk => ?_
    have e1' : w1 = u := by
      have : its[i]? = some w1 := by simpa using e1
      rw [hu] at this; cases this; rfl
    have e2' : w2 = u2 := by
      have : its2[i]? = some w2 := by simpa using e2
      rw [hu2] at this; cases this; rfl
    have e3' : w3 = u3 := by
      have : its3[i]? = some w3 := by simpa using e3
      rw [hu3] at this; cases this; rfl
    subst e1' e2' e3'
    refine ⟨_, rfl, wpAny_letOwnedTupleGo_zip (s := { s with heap := h', toks := tk }) z' fun h'' z'' sb => ?_⟩
    have hT2 : h''.get? s.heap.objs.size = some { cls := .type "tuple", data := .seq #[w1, w2, w3] } := (sb.2 _ (Nat.ne_of_gt hzl)).trans hT
    have new : ObjOk X.prog X.w (upd H s.heap.objs.size (.tup [x, y, v])) h'' s.heap.objs.size (.tup [x, y, v]) :=
      ⟨by show 3 ≤ sizeLine; decide, [w1, w2, w3], .cons ru (.cons ru2 (.cons ru3 .nil)), ⟨_, hT2, rfl, _, rfl⟩⟩
    have I1 : Inv X pins σ (upd H s.heap.objs.size (.tup [x, y, v])) { s with heap := h'', toks := tk } :=
      I.turnedNew (t' := tk) (ch := [z, TI, TO, i1, i2, i3]) (fun c o hb q => (sb.2 c (fun q' => hb (by simp [q']))).trans (hk c o (fun q' => hb (by simp [q'])) (fun q' => hb (by simp [q'])) (fun q' => hb (by simp [q'])) (fun q' => hb (by simp [q'])) (fun q' => hb (by simp [q'])) q)) hf (Nat.le_refl _) new
    refine ⟨.ref s.heap.objs.size, _, I1, rfl, ⟨_, x, y, v, rfl, I.hok.fresh (Nat.le_refl _), rfl, fun l hl => by rw [injK I hl hqx]; exact hx, fun l hl => by rw [injK I hl hqy]; exact hy, fun l hl => by rw [injK I hl hqz]; exact hv⟩, ⟨z'', ?_, ⟨w1, w2, w3, ?_⟩, ?_, ?_, ?_⟩, fun c hcm => ?_⟩
    · exact (sb.2 _ S.TIz).trans (hk _ _ S.TIz S.TITO S.TIi1 S.TIi2 S.TIi3 hTI)
    · exact (sb.2 _ S.TOz).trans TO'
    · exact st1.1.at fun o q => (sb.2 _ S.zi1.symm).trans q
    · exact st2.1.at fun o q => (sb.2 _ S.zi2.symm).trans q
    · exact st3.1.at fun o q => (sb.2 _ S.zi3.symm).trans q
    · have hlt : c < s.heap.objs.size := by
        have e' : c = z ∨ c = TI ∨ c = TO ∨ c = i1 ∨ c = i2 ∨ c = i3 := by simpa using hcm
        rcases e' with q | q | q | q | q | q
        · rw [q]; exact hzl
        · rw [q]; exact Heap.lt_size hTI
        · rw [q]; exact Heap.lt_size hTO
        · rw [q]; obtain ⟨_, e1, _⟩ := h1.live; exact Heap.lt_size e1
        · rw [q]; obtain ⟨_, e1, _⟩ := h2.live; exact Heap.lt_size e1
        · rw [q]; obtain ⟨_, e1, _⟩ := h3.live; exact Heap.lt_size e1
      rw [upd_ne (Nat.ne_of_lt hlt)]
      exact (hf c hcm).1
  done := by
    intro X hP hw hK hc i pins s σ H E I hf st hg
    subst hP hw hK
    obtain ⟨hz, hTI, ⟨x0, y0, z0, hTO⟩, h1, h2, h3⟩ := st
    obtain ⟨xs, ys, zs, hqx, hqy, hqz, le1, le2, le3, hend⟩ := hg
    obtain ⟨its, rv, p, _⟩ := coK I hqx
    obtain ⟨its2, rv2, p2, _⟩ := coK I hqy
    obtain ⟨its3, rv3, p3, _⟩ := coK I hqz
    have q1 : its.toArray.size = xs.length := by rw [List.size_toArray, rv.length]
    have q2 : its2.toArray.size = ys.length := by rw [List.size_toArray, rv2.length]
    have q3 : its3.toArray.size = zs.length := by rw [List.size_toArray, rv3.length]
    have hd : X.A.in1.handled = none := I.ok.hd hc
    exact wpAny_pyNext_zipD3_end S (drawsK hd k1 i1 a n1 its.toArray) (drawsK hd k2 i2 b n2 its2.toArray) (drawsK hd k3 i3 c n3 its3.toArray) hz hTI hTO ⟨h1, p⟩ ⟨h2, p2⟩ ⟨h3, p3⟩ (by omega) (by omega) (by omega) (by omega) fun h' tk hk => ⟨rfl, I.turnedL (t' := tk) (ch := [z, TI, TO, i1, i2, i3]) (fun c o hb q =>
      hk c o (fun q' => hb (by simp [q'])) (fun q' => hb (by simp [q'])) (fun q' => hb (by simp [q'])) (fun q' => hb (by simp [q'])) (fun q' => hb (by simp [q'])) q) hf⟩
  self := fun A i s Q E st h => wpAny_pyIter_zip st.1 h
theorem apart3 (I l1 l2 l3 : Nat) (h1 : l1 < I) (h2 : l2 < I) (h3 : l3 < I) : ZipSep3 (I + 5) (I + 3) (I + 4) I (I + 1) (I + 2) [I, l1] [I + 1, l2] [I + 2, l3] := by
  have nm : ∀ x a b : Nat, x ≠ a → x ≠ b → x ∉ [a, b] := fun x a b h1 h2 h => by
    simp only [List.mem_cons, List.not_mem_nil, or_false] at h
    rcases h with h | h
    · exact h1 h
    · exact h2 h
  have ne : ∀ x y : Nat, x ≠ y → (x : Addr) ≠ y := fun x y h => h
  constructor
  all_goals first
    | exact List.mem_cons_self
    | exact nm _ _ _ (by omega) (by omega)
    | (refine ne _ _ ?_; omega)
def iZip3 (K : PySem.W.Frag) (ta : TA) : TI := fun σ H R => ta σ H fun vs H1 => ∃ k1 k2 k3 a b c xs ys zs, vs = [.ref a, .ref b, .ref c] ∧ SqK k1 K H1 a xs ∧ SqK k2 K H1 b ys ∧ SqK k3 K H1 c zs ∧ R (Itz3 K k1 k2 k3 a b c) H1
theorem pi_zip3 {X : Cx} {e e2 e3 : Expr} {ta : TA} {p pos tpos : Pos} {elts : List Expr} {kk : Nat} (hg : Gl X "zip") (hm : X.mg "zip" = none) (ha : PA X [e, e2, e3] ta)
    (hs : starEach [e, e2, e3] X.env = (false, eval e X.env) :: starEach [e2, e3] X.env := by rfl) (hpl : (backTo pos (starEach [e2, e3] X.env)).any (·.1) = false := by rfl) :
    PI X (.Tuple elts kk tpos) (.Call (.Name "zip" p) [e, e2, e3] [] pos) (iZip3 X.K ta) := by
  refine ⟨fun pins s σ H R I h => ?_⟩
  refine Call_ (ld_blt I hg hm PyProof.Rows.boot_zip (PyProof.Rows.callWith_type1 (thn (ha.run pos pins s σ H _ I h) fun us s1 ⟨vs, H1, I1, r1, q1⟩ => ?_) hs hpl))
  obtain ⟨k1, k2, k3, a, b, c, xs, ys, zs, ex, hqx, hqy, hqz, q⟩ := q1
  subst ex
  cases r1 with
  | cons r rr =>
    cases rr with
    | cons r' rr =>
      cases rr with
      | cons r'' rr =>
        cases rr
        cases r
        cases r'
        cases r''
        have fresh : ∀ c, c ∈ [s1.heap.objs.size + 5, s1.heap.objs.size + 3, s1.heap.objs.size + 4, s1.heap.objs.size, s1.heap.objs.size + 1, s1.heap.objs.size + 2] → FpOk X pins H1 c := fun c hcm => by
          have e' : c = s1.heap.objs.size + 5 ∨ c = s1.heap.objs.size + 3 ∨ c = s1.heap.objs.size + 4 ∨ c = s1.heap.objs.size ∨ c = s1.heap.objs.size + 1 ∨ c = s1.heap.objs.size + 2 := by simpa using hcm
          have hle : s1.heap.objs.size ≤ c := by
            rcases e' with z | z | z | z | z | z
            · rw [z]; exact Nat.le_add_right _ _
            · rw [z]; exact Nat.le_add_right _ _
            · rw [z]; exact Nat.le_add_right _ _
            · rw [z]; exact Nat.le_refl _
            · rw [z]; exact Nat.le_add_right _ _
            · rw [z]; exact Nat.le_add_right _ _
          exact I1.fpOk hle (I1.hok.fresh hle)
        obtain ⟨its, rv, p1, la⟩ := coK I1 hqx
        obtain ⟨its2, rv2, p2, lb⟩ := coK I1 hqy
        obtain ⟨its3, rv3, p3, lc⟩ := coK I1 hqz
        refine zip_begins3 (beginsK k1 a its.toArray) (beginsK k2 b its2.toArray) (beginsK k3 c its3.toArray) p1 p2 p3 fun h' hz hTI hTO h1 h2 h3 hsz hk => wpAny_pyIter_zip hz ?_
        have I2 : Inv X pins σ H1 { s1 with heap := h' } := I1.kept (t' := s1.toks) hk
        have S := apart3 s1.heap.objs.size a b c la lb lc
        exact ⟨s1.heap.objs.size + 5, [s1.heap.objs.size + 5, s1.heap.objs.size + 3, s1.heap.objs.size + 4, s1.heap.objs.size, s1.heap.objs.size + 1, s1.heap.objs.size + 2], _, _, H1, rfl, I2, turn_zip3 S (Nat.ne_of_lt la) (Nat.ne_of_lt (Nat.lt_succ_of_lt lb)) (Nat.ne_of_lt (Nat.lt_succ_of_lt (Nat.lt_succ_of_lt lc))), ⟨hz, hTI, ⟨_, _, _, hTO⟩, .ob h1, .ob h2, .ob h3⟩, fresh, q⟩
/-! ### the word zip of three -/
def srcD : D → List O → Option (List D)
  | .tup ds, _ => some ds
  | .fro ds, _ => some ds
  | .ref l, μ => match μ[l]? with
    | some (.lst ds) => some ds
    | _ => none
  | _, _ => none
def kD : D → Bool
  | .tup _ => false
  | _ => true
def wkZ3 (x y z : D) (n : Nat) : Wk := ⟨fun i μ => match srcD x μ, srcD y μ, srcD z μ with
  | some xs, some ys, some zs => if i ≤ xs.length ∧ i ≤ ys.length ∧ i ≤ zs.length then match xs[i]?, ys[i]?, zs[i]? with
      | some a, some b, some c => some (some (.tup [a, b, c]))
      | _, _, _ => some none
    else none
  | _, _, _ => none, n⟩
def zipW3 (x y z : D) : M Wk := fun μ => match srcD x μ, srcD y μ, srcD z μ with
  | some xs, some _, some _ => some (.ok (wkZ3 x y z xs.length), μ)
  | _, _, _ => none
theorem src_ok {K : PySem.W.Frag} {α : List Addr} {H : Hp} {μ : List O} {d : D} {v : V} {ds : List D} (s : RepS K α H μ) (r : Rep K α H d v) (h : srcD d μ = some ds) : ∃ a xs, v = .ref a ∧ SqK (kD d) K H a xs ∧ Reps K α H ds xs := by
  cases d with
  | tup es =>
    obtain ⟨p, vs, e, t, w⟩ := r
    cases h
    exact ⟨p, vs, e, t, w⟩
  | fro es =>
    obtain ⟨p, vs, e, t, w⟩ := r
    cases h
    exact ⟨p, vs, e, t.sq, w⟩
  | ref l =>
    dsimp only [srcD] at h
    cases e : μ[l]? with
    | none => rw [e] at h; cases h
    | some o =>
      rw [e] at h
      cases o with
      | dct _ => cases h
      | lst es =>
        cases h
        obtain ⟨p1, v1, e1, a1, b1, c1⟩ := lst_at s r e
        exact ⟨p1, v1, e1, SqL.of b1, c1⟩
  | _ => cases h
theorem trip_in {K : PySem.W.Frag} {α : List Addr} {H : Hp} {μ : List O} {T : Addr} {x y z : V} {d e f : D} (s : RepS K α H μ) (hT : H T = none) (r1 : Rep K α H d x) (r2 : Rep K α H e y) (r3 : Rep K α H f z) :
    Ext α H α (upd H T (.tup [x, y, z])) ∧ RepS K α (upd H T (.tup [x, y, z])) μ ∧ Rep K α (upd H T (.tup [x, y, z])) (.tup [d, e, f]) (.ref T) :=
  ⟨Ext.lay hT, s.lay hT, T, [x, y, z], rfl, SqT.of upd_same, (Reps.cons r1 (Reps.cons r2 (Reps.cons r3 Reps.nil))).up (Ext.lay hT)⟩
theorem jok_zip3 {K : PySem.W.Frag} {α : List Addr} {H : Hp} {x y z : D} {a b c : Addr} {n : Nat} (r1 : Rep K α H x (.ref a)) (r2 : Rep K α H y (.ref b)) (r3 : Rep K α H z (.ref c)) : JOk K α H (wkZ3 x y z n) (Itz3 K (kD x) (kD y) (kD z) a b c) := by
  intro α1 H1 μ i ext s
  dsimp only [wkZ3]
  cases e1 : srcD x μ with
  | none => trivial
  | some xs =>
    cases e2 : srcD y μ with
    | none => trivial
    | some ys =>
      cases e3 : srcD z μ with
      | none => trivial
      | some zs =>
        obtain ⟨a', vs, ea, q1, w1⟩ := src_ok s (r1.up ext) e1
        obtain ⟨b', us, eb, q2, w2⟩ := src_ok s (r2.up ext) e2
        obtain ⟨c', ts, ec, q3, w3⟩ := src_ok s (r3.up ext) e3
        cases ea
        cases eb
        cases ec
        dsimp only
        by_cases hl : i ≤ xs.length ∧ i ≤ ys.length ∧ i ≤ zs.length
        · rw [if_pos hl]
          obtain ⟨l1, l2, l3⟩ := hl
          have n1 := w1.len
          have n2 := w2.len
          have n3 := w3.len
          have stop : (i = xs.length ∨ i = ys.length ∨ i = zs.length) → (Itz3 K (kD x) (kD y) (kD z) a b c).stop i H1 := fun h =>
            ⟨vs, us, ts, q1, q2, q3, by omega, by omega, by omega, by omega⟩
          cases f1 : xs[i]? with
          | none =>
            have := List.getElem?_eq_none_iff.mp f1
            exact stop (by omega)
          | some d =>
            cases f2 : ys[i]? with
            | none =>
              have := List.getElem?_eq_none_iff.mp f2
              exact stop (by omega)
            | some d2 =>
              cases f3 : zs[i]? with
              | none =>
                have := List.getElem?_eq_none_iff.mp f3
                exact stop (by omega)
              | some d3 =>
                obtain ⟨v1, h1, p1⟩ := w1.get f1
                obtain ⟨v2, h2, p2⟩ := w2.get f2
                obtain ⟨v3, h3, p3⟩ := w3.get f3
                refine ⟨⟨vs, us, ts, v1, v2, v3, q1, q2, q3, h1, h2, h3⟩, ?_⟩
                rintro y H' ⟨T, x0, y0, z0, rfl, hT, rfl, hx, hy, hz⟩
                have e0 := hx vs q1
                rw [h1] at e0
                cases e0
                have e1 := hy us q2
                rw [h2] at e1
                cases e1
                have e2 := hz ts q3
                rw [h3] at e2
                cases e2
                exact trip_in s hT p1 p2 p3
        · rw [if_neg hl]
          trivial
section
variable {Kn : Kno} {k : Nat}
def iZp3 (a b c : CE) : CI := ⟨fun ρ => M.bnd (a.run ρ) fun x => M.bnd (b.run ρ) fun y => M.bnd (c.run ρ) fun z => zipW3 x y z, fun I tg e => match tg, e with
  | .Tuple _ _ _, .Call (.Name n _) [x, y, z] [] _ => decide (n = ("zip" : Str)) && (glo I.sc n && (noStar x && (noStar y && (noStar z && (a.chk I x && (b.chk I y && c.chk I z))))))
  | _, _ => false⟩
theorem g_iZp3 {a b c : CE} (hz : Bare Kn "zip") (ha : GE Kn k a) (hb : GE Kn k b) (hc : GE Kn k c) : GI Kn k (iZp3 a b c) := by
  intro X W cb bs tg e h
  dsimp only [iZp3] at h
  split at h
  · simp only [Bool.and_eq_true, decide_eq_true_eq, glo] at h
    obtain ⟨h1, h2, h3, h3', h3'', h4, h5, h6⟩ := h
    subst h1
    refine PI.imp (pi_zip3 h2 (hz _ _ _ _ _ bs.kn) (pa_cons (ha X W cb bs _ h4) (pa_cons (hb X W cb bs _ h5) (pa_cons (hc X W cb bs _ h6) pa_nil (star_cons h3'')) (star_cons h3')) (star_cons h3)) (by rw [star_cons h3]) (by rw [star_cons h3', star_cons h3'']; rfl)) ?_
    rintro σ H R ⟨α, ρ, μ, q, μ', g, run, aft⟩
    refine rd_seq g run aft fun d v α1 H1 μ1 g1 k1 r1 run1 aft1 => ?_
    refine rd_seq g1 run1 aft1 fun d2 v2 α2 H2 μ2 g2 k2 r2 run2 aft2 => ?_
    refine rd_seq g2 run2 aft2 fun d3 v3 α3 H3 μ3 g3 k3 r3 run3 aft3 => ?_
    have r1' := (r1.up k2).up k3
    have r2' := r2.up k3
    unfold zipW3 at run3
    cases e1 : srcD d μ3 with
    | none => rw [e1] at run3; cases run3
    | some xs =>
      cases e2 : srcD d2 μ3 with
      | none => rw [e1, e2] at run3; cases run3
      | some ys =>
        cases e3 : srcD d3 μ3 with
        | none => rw [e1, e2, e3] at run3; cases run3
        | some zs =>
          rw [e1, e2, e3] at run3
          obtain ⟨a1, vs, ea, q1, w1⟩ := src_ok g3.s r1' e1
          obtain ⟨b1, us, eb, q2, w2⟩ := src_ok g3.s r2' e2
          obtain ⟨c1, ts, ec, q3, w3⟩ := src_ok g3.s r3 e3
          subst ea eb ec
          exact ⟨_, _, _, a1, b1, c1, vs, us, ts, rfl, q1, q2, q3, rd_ret (R := fun α H w J => JOk X.K α H w J) g3.s run3 aft3 (jok_zip3 r1' r2' r3)⟩
  · cases h
end
/-! ### a list from end to end, or turned about, as a step tells: xs[::s] -/
def tStep (K : PySem.W.Frag) (te ts : TE) : TE := fun σ H Q => te σ H fun x H1 => ∃ a, x = .ref a ∧ tPart ts σ H1 fun o H2 => ∃ i xs, o = some i ∧ (i = 1 ∨ i = -1) ∧ SqL K H2 a xs ∧ ∀ p, H2 p = none → Q (.ref p) (upd H2 p (.lst (if i = 1 then xs else xs.reverse)))
theorem pe_step {X : Cx} {e : Expr} {te ts : TE} {n : Str} {p2 p3 pos : Pos} (he : PE X e te) (hs : PE X (.Name n p2) ts) : PE X (.Subscript e (.Slice none none (some (.Name n p2)) p3) pos) (tStep X.K te ts) := by
  refine ⟨fun pins s σ H Q I h => ?_⟩
  refine Subscript_ (thn (he.run pins s σ H _ I h) fun v s1 ⟨x, H1, I1, r1, q1⟩ => ?_)
  obtain ⟨a, ex, q1⟩ := q1
  subst ex
  cases r1
  have hst : PO X (some (.Name n p2)) (tPart ts) := po_some hs
  refine wpAny_Slice (thn (po_none.run pins s1 σ H1 (fun o H2 => o = none ∧ H2 = H1) I1 ⟨rfl, rfl⟩) fun vl s2 ⟨l, H2, I2, pl, el, e2'⟩ => ?_)
  subst el e2'
  refine thn (po_none.run pins s2 σ H2 (fun o H3 => o = none ∧ H3 = H2) I2 ⟨rfl, rfl⟩) fun vu s3 ⟨u, H3, I3, pu, eu, e3⟩ => ?_
  subst eu e3
  refine thn (hst.run pins s3 σ H3 _ I3 q1) fun vs s4 ⟨o, H4, I4, ps, q4⟩ => ?_
  obtain ⟨i, xs, eo, hi, hx, q⟩ := q4
  subst eo
  have I5 : Inv X pins σ H4 { s4 with heap := s4.heap.push { cls := .type "slice", data := .fields #[vl, vu, vs] } } := I4.kept (t' := s4.toks) fun b ob q => Heap.get?_push_of_some _ q
  show wpAny (model X.prog X.w) X.A (subscriptTail e (.Slice none none (some (.Name n p2)) p3) (.ref a) (.ref s4.heap.objs.size)) (EP X pins σ Q) X.xe { s4 with heap := s4.heap.push { cls := .type "slice", data := .fields #[vl, vu, vs] } }
  obtain ⟨its, r, ht, hz⟩ := I5.list hx
  have hlen := r.length
  refine tail_any (ops := [.ref a, .ref s4.heap.objs.size]) ht.isList.typeIs (PySem.slot_list_getitem.lookup) ?_ (by with_unfolding_all rfl)
  refine wpAny_getItem_list_slice ht.isList (Heap.IsSliceOf.new _ vl vu vs) pl pu ps (by rcases hi with rfl | rfl <;> decide) ?_ (by rw [List.size_toArray]; omega)
  rcases hi with rfl | rfl
  · have e1 : slicePick its.toArray none none (some 1) = its.toArray := slicePick_all _
    rw [e1]
    refine ⟨.ref _, _, I5.laid (t' := s4.toks) (o := .lst xs) (fun b ob q => Heap.get?_push_of_some _ q) (Nat.le_refl _) ?_, rfl, q _ (I5.hok.fresh (Nat.le_refl _))⟩
    exact ⟨hz, _, 0, r, Heap.get?_push_size _ rfl⟩
  · rw [PySem.W.krv_pick]
    refine ⟨.ref _, _, I5.laid (t' := s4.toks) (o := .lst xs.reverse) (fun b ob q => Heap.get?_push_of_some _ q) (Nat.le_refl _) ?_, rfl, q _ (I5.hok.fresh (Nat.le_refl _))⟩
    exact ⟨by rw [List.length_reverse]; exact hz, _, 0, r.reverse, Heap.get?_push_size _ rfl⟩
section
variable {Kn : Kno} {k : Nat}
def stepD : D → D → M D
  | .ref l, .int i => if i = 1 ∨ i = -1 then M.bnd (M.lst l) fun ds => M.new (.lst (if i = 1 then ds else ds.reverse)) else M.stop
  | _, _ => M.stop
def stepM (m : M D) : D → M D
  | .ref l => M.bnd m fun y => stepD (.ref l) y
  | _ => M.stop
def cStep (a b : CE) : CE := ⟨fun ρ => M.bnd (a.run ρ) (stepM (b.run ρ)), fun I e => match e with
  | .Subscript x (.Slice none none (some (.Name n p)) _) _ => a.chk I x && b.chk I (.Name n p)
  | _ => false⟩
theorem g_step {a b : CE} (ha : GE Kn k a) (hb : GE Kn k b) : GE Kn k (cStep a b) := by
  intro X W cb bs e h
  dsimp only [cStep] at h
  split at h
  · rw [Bool.and_eq_true] at h
    refine PE.imp (pe_step (ha X W cb bs _ h.1) (hb X W cb bs _ h.2)) ?_
    rintro σ H Q ⟨α, ρ, μ, q, μ', g, run, aft⟩
    refine rd_seq g run aft fun d v α1 H1 μ1 g1 k1 r1 run1 aft1 => ?_
    cases d with
    | ref l =>
      obtain ⟨p, ev, al⟩ := id r1
      refine ⟨p, ev, ?_⟩
      refine rd_seq g1 run1 aft1 fun d2 v2 α2 H2 μ2 g2 k2 r2 run2 aft2 => ?_
      cases d2 with
      | int i =>
        replace run2 : (if i = 1 ∨ i = -1 then M.bnd (M.lst l) fun ds => M.new (.lst (if i = 1 then ds else ds.reverse)) else M.stop) μ2 = some (q, μ') := run2
        by_cases hi : i = 1 ∨ i = -1
        · rw [if_pos hi] at run2
          obtain ⟨ds, h1, run2⟩ := bnd_lst run2
          obtain ⟨p1, v1, e1, a1, b1, c1⟩ := lst_at g2.s (r1.up k2) h1
          rw [ev] at e1
          cases e1
          refine ⟨i, r2, i, v1, rfl, hi, SqL.of b1, fun b hb => new_lst g2.s run2 aft2 ?_ hb⟩
          by_cases h1 : i = 1
          · rw [if_pos h1, if_pos h1]; exact c1
          · rw [if_neg h1, if_neg h1]; exact Reps.reverse c1
        · rw [if_neg hi] at run2; cases run2
      | _ => cases run2
    | _ => cases run1
  · cases h
end
end Mi
/-! Mi, part M: a list comprehension with two fors. -/
namespace Mi
open PySem L2 PyProof.Rows
variable [Tb]

def lcIn (w : Wk) (g : CG) (f : Env → M Bool) (e : Env → M D) (l : Nat) (ρ : Env) : Nat → Nat → List O → Option (List O)
  | 0, i => fun μ => match w.get i μ with
    | some none => some μ
    | _ => none
  | n + 1, i => fun μ => match w.get i μ with
    | some none => some μ
    | some (some d) => match g.run d ρ μ with
      | some (ρ1, μ1) => match f ρ1 μ1 with
        | some (.ok true, μ2) => match e ρ1 μ2 with
          | some (.ok y, μ3) => match μ3[l]? with
            | some (.lst acc) => if acc.length < sizeLine then lcIn w g f e l ρ n (i + 1) (μ3.set l (.lst (acc ++ [y]))) else none
            | _ => none
          | _ => none
        | some (.ok false, μ2) => lcIn w g f e l ρ n (i + 1) μ2
        | _ => none
      | none => none
    | none => none
def lcOut (w : Wk) (g : CG) (f : Env → M Bool) (it1 : Env → M Wk) (inn : Wk → Env → List O → Option (List O)) (l : Nat) (ρ : Env) : Nat → Nat → M D
  | 0, i => fun μ => match w.get i μ with
    | some none => some (.ok (.ref l), μ)
    | _ => none
  | n + 1, i => fun μ => match w.get i μ with
    | some none => some (.ok (.ref l), μ)
    | some (some d) => match g.run d ρ μ with
      | some (ρ1, μ1) => match f ρ1 μ1 with
        | some (.ok true, μ2) => match it1 ρ1 μ2 with
          | some (.ok w1, μ3) => match inn w1 ρ1 μ3 with
            | some μ4 => lcOut w g f it1 inn l ρ n (i + 1) μ4
            | none => none
          | _ => none
        | some (.ok false, μ2) => lcOut w g f it1 inn l ρ n (i + 1) μ2
        | _ => none
      | none => none
    | none => none
/-- the inner loop of a block -/
def inn2 (g1 : CG) (f1 : Env → M Bool) (e : Env → M D) (vs1 : List Nat) (l : Nat) : Wk → Env → List O → Option (List O) := fun w1 ρ1 => lcIn w1 g1 f1 e l (wipeE ρ1 vs1) w1.fuel 0
/-- [e for g in it if f for g1 in it1 if f1]; vs: the block's names and their slots; vs1: the slots of the second target -/
def cLc2 (it : CI) (g : CG) (f : CF) (it1 : CI) (g1 : CG) (f1 : CF) (e : CE) (vs : List (Str × Nat)) (vs1 : List Nat) : CE :=
  ⟨fun ρ => M.bnd (it.run ρ) fun w μ => lcOut w g f.run it1.run (inn2 g1 f1.run e.run vs1 μ.length) μ.length (wipeE ρ (vs.map (·.2))) w.fuel 0 (μ ++ [.lst []]), fun I x => match x with
  | .ListComp elt [⟨tg, iter, ifs, 0⟩, ⟨tg1, iter1, ifs1, 0⟩] scope _ => noSetI iter && (noSetI iter1 && (it.chk I tg iter && (blkC I.N I.sc scope vs && (vs1.all (fun i => (vs.map (·.2)).contains i) && (g.chk (inB I scope) tg && (f.chk (inB I scope) ifs && (it1.chk (inB I scope) tg1 iter1 && (g1.chk (inB I scope) tg1 && (f1.chk (inB I scope) ifs1 && e.chk (inB I scope) elt)))))))))
  | _ => false⟩
section
variable {K : PySem.W.Frag} {mg : Str → Option Value}
theorem lc2_bridge {W : WX} {it : CI} {g : CG} {f : CF} {it1 : CI} {g1 : CG} {f1 : CF} {e : CE} {vs : List (Str × Nat)} {vs1 : List Nat} :
    ∀ σ H Q, rdE K mg W (cLc2 it g f it1 g1 f1 e vs vs1).run σ H Q → tLc2 (rd (fun α H w J => JOk K α H w J) K mg W it.run) (rdGc K g.run (vs.map (·.2))) (rdT K mg (fun _ _ _ _ => False) f.run)
      (rd (fun α H w J => JOk K α H w J) K mg (fun _ _ _ _ => False) it1.run) (rdGc K g1.run vs1) (rdT K mg (fun _ _ _ _ => False) f1.run) (rdE K mg (fun _ _ _ _ => False) e.run) (vs.map (·.2)) vs1 σ H Q := by
  rintro σ H Q ⟨α, ρ, μ, q, μ', g0, run, aft⟩
  refine rd_seq g0 run aft fun w J α1 H1 μ1 ga k1 jok runa aft1 => fun D0 hD => ?_
  have xD : Ext α1 H1 (α1 ++ [D0]) (upd H1 D0 (.lst [])) := Ext.push hD
  have sD : RepS K (α1 ++ [D0]) (upd H1 D0 (.lst [])) (μ1 ++ [.lst []]) := ga.s.push hD ⟨[], upd_same, Reps.nil⟩
  have aD : (α1 ++ [D0])[μ1.length]? = some D0 := by
    rw [← ga.s.len, List.getElem?_append_right (Nat.le_refl _)]
    simp
  generalize hinn : inn2 g1 f1.run e.run vs1 μ1.length = inn at runa
  refine ⟨fun i n H' => ∃ α' μ2, RepS K α' H' μ2 ∧ Ext (α1 ++ [D0]) (upd H1 D0 (.lst [])) α' H' ∧ lcOut w g f.run it1.run inn μ1.length (wipeE ρ (vs.map (·.2))) n i μ2 = some (q, μ'), ⟨w.fuel, _, _, sD, Ext.refl _ _, runa⟩, ?_⟩
  rintro i n H2 ⟨α2, μ2, s2, x2, run2⟩
  have x12 := xD.trans x2
  have j2 := jok α2 H2 μ2 i x12 s2
  have a2 : α2[μ1.length]? = some D0 := x2.pre _ _ aD
  have fin : w.get i μ2 = some none → (some (.ok (.ref μ1.length), μ2) : Option (Except Ex D × List O)) = some (q, μ') → J.stop i H2 ∧ Q (.ref D0) H2 := by
    intro e1 z
    rw [e1] at j2
    cases z
    exact ⟨j2, aft1 α2 _ H2 x12 s2 ⟨D0, rfl, a2⟩⟩
  cases n with
  | zero =>
    dsimp only [lcOut] at run2
    cases e1 : w.get i μ2 with
    | none => rw [e1] at run2; cases run2
    | some o =>
      cases o with
      | none => rw [e1] at run2; exact .inl (fin e1 run2)
      | some d => rw [e1] at run2; cases run2
  | succ n =>
    dsimp only [lcOut] at run2
    cases e1 : w.get i μ2 with
    | none => rw [e1] at run2; cases run2
    | some o =>
      cases o with
      | none => rw [e1] at run2; exact .inl (fin e1 run2)
      | some d =>
        rw [e1] at run2 j2
        obtain ⟨jg, jy⟩ := j2
        refine .inr ⟨jg, fun H' => ∃ α' μ2, RepS K α' H' μ2 ∧ Ext (α1 ++ [D0]) (upd H1 D0 (.lst [])) α' H' ∧ lcOut w g f.run it1.run inn μ1.length (wipeE ρ (vs.map (·.2))) n (i + 1) μ2 = some (q, μ'), fun H' z => ⟨n, Nat.lt_succ_self n, z⟩, fun x H' y => ?_⟩
        obtain ⟨y1, y2, y3⟩ := jy x H' y
        dsimp only at run2
        cases e2 : g.run d (wipeE ρ (vs.map (·.2))) μ2 with
        | none => rw [e2] at run2; cases run2
        | some p =>
          obtain ⟨ρ3, μ3⟩ := p
          rw [e2] at run2
          dsimp only at run2
          have ew : RepE K α2 H' (wipeE ρ (vs.map (·.2))) (wipe σ (vs.map (·.2))) := ((ga.e.up (x12.trans y1))).wipe _
          refine ⟨α2, _, μ2, d, ρ3, μ3, ⟨y2, ew⟩, y3, e2, fun α3 σ3 H3 k3 s3 r3 z3 => ⟨z3.trans wipe_wipe, ?_⟩⟩
          have x3 := (x2.trans y1).trans k3
          cases e3 : f.run ρ3 μ3 with
          | none => rw [e3] at run2; cases run2
          | some p =>
            obtain ⟨r4, μ4⟩ := p
            rw [e3] at run2
            cases r4 with
            | error _ => cases run2
            | ok b =>
              refine ⟨α3, ρ3, μ3, .ok b, μ4, ⟨s3, r3⟩, e3, fun α4 b' H4 k4 s4 eb => ?_⟩
              subst eb
              have x4 := x3.trans k4
              cases b with
              | false =>
                rw [if_neg Bool.false_ne_true]
                exact ⟨α4, μ4, s4, x4, run2⟩
              | true =>
                rw [if_pos rfl]
                dsimp only at run2
                cases e4 : it1.run ρ3 μ4 with
                | none => rw [e4] at run2; cases run2
                | some p =>
                  obtain ⟨r5, μ5⟩ := p
                  rw [e4] at run2
                  cases r5 with
                  | error _ => cases run2
                  | ok w1 =>
                    refine ⟨α4, ρ3, μ4, .ok w1, μ5, ⟨s4, r3.up k4⟩, e4, fun α5 J1 H5 k5 s5 jok1 => ?_⟩
                    have x5 := x4.trans k5
                    have r5 := (r3.up k4).up k5
                    dsimp only at run2
                    cases e5 : inn w1 ρ3 μ5 with
                    | none => rw [e5] at run2; cases run2
                    | some μ6 =>
                      rw [e5] at run2
                      dsimp only at run2
                      rw [← hinn] at e5
                      refine ⟨fun j m H' => ∃ α' μ7, RepS K α' H' μ7 ∧ Ext α5 H5 α' H' ∧ lcIn w1 g1 f1.run e.run μ1.length (wipeE ρ3 vs1) m j μ7 = some μ6, ⟨w1.fuel, α5, μ5, s5, Ext.refl _ _, e5⟩, ?_⟩
                      rintro j m H7 ⟨α7, μ7, s7, x7, run7⟩
                      have x57 := x5.trans x7
                      have j7 := jok1 α7 H7 μ7 j x7 s7
                      have a7 : α7[μ1.length]? = some D0 := x57.pre _ _ aD
                      have fin7 : w1.get j μ7 = some none → (some μ7 : Option (List O)) = some μ6 → J1.stop j H7 ∧ ∃ α' μ2, RepS K α' H7 μ2 ∧ Ext (α1 ++ [D0]) (upd H1 D0 (.lst [])) α' H7 ∧ lcOut w g f.run it1.run inn μ1.length (wipeE ρ (vs.map (·.2))) n (i + 1) μ2 = some (q, μ') := by
                        intro e1 z
                        rw [e1] at j7
                        cases z
                        exact ⟨j7, α7, _, s7, x57, run2⟩
                      cases m with
                      | zero =>
                        dsimp only [lcIn] at run7
                        cases e8 : w1.get j μ7 with
                        | none => rw [e8] at run7; cases run7
                        | some o =>
                          cases o with
                          | none => rw [e8] at run7; exact .inl (fin7 e8 run7)
                          | some d => rw [e8] at run7; cases run7
                      | succ m =>
                        dsimp only [lcIn] at run7
                        cases e8 : w1.get j μ7 with
                        | none => rw [e8] at run7; cases run7
                        | some o =>
                          cases o with
                          | none => rw [e8] at run7; exact .inl (fin7 e8 run7)
                          | some d1 =>
                            rw [e8] at run7 j7
                            obtain ⟨jg7, jy7⟩ := j7
                            refine .inr ⟨jg7, fun H' => ∃ α' μ7, RepS K α' H' μ7 ∧ Ext α5 H5 α' H' ∧ lcIn w1 g1 f1.run e.run μ1.length (wipeE ρ3 vs1) m (j + 1) μ7 = some μ6, fun H' z => ⟨m, Nat.lt_succ_self m, z⟩, fun x1 H8 y8 => ?_⟩
                            obtain ⟨z1, z2, z3'⟩ := jy7 x1 H8 y8
                            dsimp only at run7
                            cases e9 : g1.run d1 (wipeE ρ3 vs1) μ7 with
                            | none => rw [e9] at run7; cases run7
                            | some p =>
                              obtain ⟨ρ9, μ9⟩ := p
                              rw [e9] at run7
                              dsimp only at run7
                              have ew9 : RepE K α7 H8 (wipeE ρ3 vs1) (wipe σ3 vs1) := (r5.up (x7.trans z1)).wipe _
                              refine ⟨α7, _, μ7, d1, ρ9, μ9, ⟨z2, ew9⟩, z3', e9, fun α9 σ9 H9 k9 s9 r9 z9 => ⟨z9.trans wipe_wipe, ?_⟩⟩
                              have x9 := (x7.trans z1).trans k9
                              cases e10 : f1.run ρ9 μ9 with
                              | none => rw [e10] at run7; cases run7
                              | some p =>
                                obtain ⟨r10, μ10⟩ := p
                                rw [e10] at run7
                                cases r10 with
                                | error _ => cases run7
                                | ok b1 =>
                                  refine ⟨α9, ρ9, μ9, .ok b1, μ10, ⟨s9, r9⟩, e10, fun α10 b1' H10 k10 s10 eb1 => ?_⟩
                                  subst eb1
                                  have x10 := x9.trans k10
                                  cases b1 with
                                  | false =>
                                    rw [if_neg Bool.false_ne_true]
                                    exact ⟨α10, μ10, s10, x10, run7⟩
                                  | true =>
                                    rw [if_pos rfl]
                                    dsimp only at run7
                                    cases e11 : e.run ρ9 μ10 with
                                    | none => rw [e11] at run7; cases run7
                                    | some p =>
                                      obtain ⟨r11, μ11⟩ := p
                                      rw [e11] at run7
                                      cases r11 with
                                      | error _ => cases run7
                                      | ok dy =>
                                        refine ⟨α10, ρ9, μ10, .ok dy, μ11, ⟨s10, r9.up k10⟩, e11, fun α11 y' H11 k11 s11 ry => ?_⟩
                                        have x11 := x10.trans k11
                                        have a11 : α11[μ1.length]? = some D0 := (x5.trans x11).pre _ _ aD
                                        dsimp only at run7
                                        cases e12 : μ11[μ1.length]? with
                                        | none => rw [e12] at run7; cases run7
                                        | some ob =>
                                          rw [e12] at run7
                                          cases ob with
                                          | dct _ => cases run7
                                          | lst acc =>
                                            dsimp only at run7
                                            split at run7
                                            · rename_i hz
                                              obtain ⟨accv, hp, rp⟩ := s11.at_ _ _ _ e12 a11
                                              have x6 : Ext α11 H11 α11 (upd H11 D0 (.lst (accv ++ [y']))) := Ext.put a11 hp fun z => z
                                              refine ⟨accv, hp, by rw [rp.len]; exact hz, α11, _, s11.put (o := .lst (acc ++ [dy])) a11 ⟨_, upd_same, (rp.app (Reps.cons ry Reps.nil)).up x6⟩, x11.trans x6, run7⟩
                                            · cases run7
end
section
variable {Kn : Kno} {k : Nat}
theorem vs1_sub {vs : List (Str × Nat)} {vs1 : List Nat} (h : vs1.all (fun i => (vs.map (·.2)).contains i) = true) : ∀ i ∈ vs1, i ∈ vs.map (·.2) := fun i hi => by
  have z := List.all_eq_true.mp h i hi
  simpa using z
theorem g_lc2 {it : CI} {g : CG} {f : CF} {it1 : CI} {g1 : CG} {f1 : CF} {e : CE} {vs : List (Str × Nat)} {vs1 : List Nat} (hi : GI Kn k it) (hg : GGc Kn k (vs.map (·.2)) g) (hf : GF Kn k f) (hi1 : GI Kn k it1) (hg1 : GGc Kn k vs1 g1) (hf1 : GF Kn k f1) (he : GE Kn k e) : GE Kn k (cLc2 it g f it1 g1 f1 e vs vs1) := by
  intro X W cb b x h
  dsimp only [cLc2] at h
  split at h
  · rename_i elt tg iter ifs tg1 iter1 ifs1 scope pos
    simp only [Bool.and_eq_true] at h
    obtain ⟨h1, h2, h3, h4, h5, h6, h7, h8, h9, h10, h11⟩ := h
    refine PE.imp (pe_lc2 (g := rdGc X.K g.run (vs.map (·.2))) (tt := rdT X.K X.mg (fun _ _ _ _ => False) f.run) (wi1 := rd (fun α H w J => JOk X.K α H w J) X.K X.mg (fun _ _ _ _ => False) it1.run) (g1 := rdGc X.K g1.run vs1) (tt1 := rdT X.K X.mg (fun _ _ _ _ => False) f1.run) (te := rdE X.K X.mg (fun _ _ _ _ => False) e.run) b.calm b.nd (hi X W cb b _ _ h3) (blkOk_by h4) (vs1_sub h5)
      (fun s H C cl fp => hg _ _ _ (b.blk s H scope C cl fp) _ h6) (fun s H C cl fp => hf _ _ _ (b.blk s H scope C cl fp) _ h7) (fun s H C cl fp => hi1 _ _ _ (b.blk s H scope C cl fp) _ _ h8) (fun s H C cl fp => hg1 _ _ _ (b.blk s H scope C cl fp) _ h9) (fun s H C cl fp => hf1 _ _ _ (b.blk s H scope C cl fp) _ h10)
      (fun s H C cl fp => he _ _ _ (b.blk s H scope C cl fp) _ h11) (noSetI_eq h1) (fun env => noSetI_eq h2)) ?_
    exact lc2_bridge
  · cases h
/-- a plain local name and such a comprehension on its row -/
def sSetLc2 (i : Nat) (it : CI) (g : CG) (f : CF) (it1 : CI) (g1 : CG) (f1 : CF) (e : CE) (vs : List (Str × Nat)) (vs1 : List Nat) : CS := ⟨asgRun (gN i) (cLc2 it g f it1 g1 f1 e vs vs1), fun I st => match st with
  | .Assign [.Name y p] (.ListComp elt [⟨tg, iter, ifs, 0⟩, ⟨tg1, iter1, ifs1, 0⟩] scope q) _ => decide (I.sc.kind = .function) && (decide (I.N[i]? = some y) && (decide (I.sc.names.lookup y = some .local) && (swaps1 I.sc (.Name y p) (.ListComp elt [⟨tg, iter, ifs, 0⟩, ⟨tg1, iter1, ifs1, 0⟩] scope q) && (cLc2 it g f it1 g1 f1 e vs vs1).chk I (.ListComp elt [⟨tg, iter, ifs, 0⟩, ⟨tg1, iter1, ifs1, 0⟩] scope q))))
  | _ => false⟩
theorem g_sSetLc2 {i : Nat} {it : CI} {g : CG} {f : CF} {it1 : CI} {g1 : CG} {f1 : CF} {e : CE} {vs : List (Str × Nat)} {vs1 : List Nat} (hi : GI Kn k it) (hg : GGc Kn k (vs.map (·.2)) g) (hf : GF Kn k f) (hi1 : GI Kn k it1) (hg1 : GGc Kn k vs1 g1) (hf1 : GF Kn k f1) (he : GE Kn k e) : GS Kn k (sSetLc2 i it g f it1 g1 f1 e vs vs1) := by
  intro X W cb b po x h
  dsimp only [sSetLc2] at h
  split at h
  · rename_i y p elt tg iter ifs tg1 iter1 ifs1 scope q spos
    simp only [Bool.and_eq_true, decide_eq_true_eq] at h
    obtain ⟨z1, z2, z3, z4, h⟩ := h
    dsimp only [cLc2] at h
    simp only [Bool.and_eq_true] at h
    obtain ⟨h1, h2, h3, h4, h5, h6, h7, h8, h9, h10, h11⟩ := h
    refine PS.imp (ps_setLc2 (g := rdGc X.K g.run (vs.map (·.2))) (tt := rdT X.K X.mg (fun _ _ _ _ => False) f.run) (wi1 := rd (fun α H w J => JOk X.K α H w J) X.K X.mg (fun _ _ _ _ => False) it1.run) (g1 := rdGc X.K g1.run vs1) (tt1 := rdT X.K X.mg (fun _ _ _ _ => False) f1.run) (te := rdE X.K X.mg (fun _ _ _ _ => False) e.run) b.calm b.nd z2 z3 (swaps1_yes rfl z1 z4) (hi X W cb b _ _ h3) (blkOk_by h4) (vs1_sub h5)
      (fun s H C cl fp => hg _ _ _ (b.blk s H scope C cl fp) _ h6) (fun s H C cl fp => hf _ _ _ (b.blk s H scope C cl fp) _ h7) (fun s H C cl fp => hi1 _ _ _ (b.blk s H scope C cl fp) _ _ h8) (fun s H C cl fp => hg1 _ _ _ (b.blk s H scope C cl fp) _ h9) (fun s H C cl fp => hf1 _ _ _ (b.blk s H scope C cl fp) _ h10)
      (fun s H C cl fp => he _ _ _ (b.blk s H scope C cl fp) _ h11) (noSetI_eq h1) (fun env => noSetI_eq h2)) ?_
    rintro σ H Dn ⟨α, ρ, μ, q, μ', g0, run, aft⟩
    have z := asg_fin (g := gN i) (a := cLc2 it g f it1 g1 f1 e vs vs1) (X := X) (W := W) σ H Dn ⟨α, ρ, μ, q, μ', g0, run, aft⟩
    refine lc2_bridge σ H _ ?_
    obtain ⟨α, ρ, μ, r, μ1, c1, c2, c3⟩ := z
    refine ⟨α, ρ, μ, r, μ1, c1, c2, ?_⟩
    cases r with
    | error x => exact c3
    | ok d =>
      intro α' v H' k' s' r'
      obtain ⟨α4, ρ4, μ4, d4, ρ5, μ5, g4, r4, e4, q4⟩ := c3 α' v H' k' s' r'
      cases e4
      exact q4 α4 _ H' (Ext.refl _ _) g4.s (g4.e.set i r4)
  · cases h
end
/-! ### a list compared with an empty one -/
def rEqN (neg : Bool) : R2 := fun x y H Q => ∃ p q vs, x = .ref p ∧ y = .ref q ∧ H p = some (.lst vs) ∧ H q = some (.lst []) ∧ Q (.bl (if neg then !vs.isEmpty else vs.isEmpty)) H
theorem nil_items {its : List Value} (r : Vals [] its) : its = [] := List.eq_nil_of_length_eq_zero r.length.symm
theorem op_eqN {X : Cx} (h : Here X) : OpR X (compareOp .Eq) (rEqN false) := by
  intro pins s σ H x y v u Q I rx ry ⟨p, q, vs, ex, ey, hp, hq, z⟩
  subst ex ey
  cases rx
  cases ry
  obtain ⟨its, r, P, _⟩ := I.list (SqL.of hp)
  obtain ⟨its2, r2, P2, _⟩ := I.list (SqL.of hq)
  have e2 := nil_items r2
  subst e2
  have hu : X.A.units < cLine := by have := h.room.units; omega
  cases vs with
  | nil =>
    have e1 := nil_items r
    subst e1
    exact SeqAt.eq_listAt (e := fun _ => true) P.isList P2.isList rfl hu (fun j h1 h2 => absurd h1 (by simp)) ⟨.bl _, H, I, rfl, z⟩
  | cons a b =>
    have l1 := r.length
    exact SeqAt.eq_list_lengthsAt P.isList P2.isList (by rw [bne_iff_ne, List.size_toArray, List.size_toArray, ← l1]; simp) hu ⟨.bl _, H, I, rfl, z⟩
theorem op_neN {X : Cx} (h : Here X) : OpR X (compareOp .NotEq) (rEqN true) := by
  intro pins s σ H x y v u Q I rx ry ⟨p, q, vs, ex, ey, hp, hq, z⟩
  subst ex ey
  cases rx
  cases ry
  obtain ⟨its, r, P, _⟩ := I.list (SqL.of hp)
  obtain ⟨its2, r2, P2, _⟩ := I.list (SqL.of hq)
  have e2 := nil_items r2
  subst e2
  have hu : X.A.units < cLine := by have := h.room.units; omega
  cases vs with
  | nil =>
    have e1 := nil_items r
    subst e1
    exact SeqAt.RcNeAt.lists (e := fun _ => true) P.isList P2.isList rfl hu (fun j h1 h2 => absurd h1 (by simp)) X.prog X.w X.xe _ ⟨.bl _, H, I, rfl, z⟩
  | cons a b =>
    have l1 := r.length
    exact SeqAt.RcNeAt.lists_lengths P.isList P2.isList (by rw [bne_iff_ne, List.size_toArray, List.size_toArray, ← l1]; simp) hu X.prog X.w X.xe _ ⟨.bl _, H, I, rfl, z⟩
def eqnD (neg : Bool) : D → D → M D
  | .ref l, .ref m => fun μ => match μ[l]?, μ[m]? with
    | some (.lst xs), some (.lst []) => some (.ok (.bl (if neg then !xs.isEmpty else xs.isEmpty)), μ)
    | _, _ => none
  | _, _ => M.stop
theorem eqn_run {X : Cx} {neg : Bool} {mg : Str → Option Value} {E : XK} {α : List Addr} {H : Hp} {μ μ' : List O} {d1 d2 : D} {x y : V} {q : Except Ex D} {Q : VK} (s : RepS X.K α H μ) (r1 : Rep X.K α H d1 x) (r2 : Rep X.K α H d2 y)
    (run : eqnD neg d1 d2 μ = some (q, μ')) (aft : Aft (Rep X.K) X.K mg E α H q μ' Q) : rEqN neg x y H Q := by
  cases d1 with
  | ref l => cases d2 with
    | ref m =>
    dsimp only [eqnD] at run
    split at run
    · rename_i xs h1 h2
      obtain ⟨p, e, a⟩ := r1
      obtain ⟨p2, e2, a2⟩ := r2
      obtain ⟨vs, b1, b2⟩ := s.at_ _ _ _ h1 a
      obtain ⟨ws, c1, c2⟩ := s.at_ _ _ _ h2 a2
      have c3 : ws = [] := c2
      subst c3
      have hl := b2.len
      refine ⟨p, p2, vs, e, e2, b1, c1, ?_⟩
      have e3 : vs.isEmpty = xs.isEmpty := by
        cases vs <;> cases xs <;> simp at hl <;> rfl
      rw [e3]
      exact rd_ret s run aft rfl
    · cases run
    | _ => cases run
  | _ => cases run
theorem ok_eqn : OkCmp .Eq (eqnD false) := fun X hx => ⟨_, op_eqN hx, fun mg E α H μ μ' d1 d2 x y q Q s r1 r2 run aft => eqn_run s r1 r2 run aft⟩
theorem ok_nen : OkCmp .NotEq (eqnD true) := fun X hx => ⟨_, op_neN hx, fun mg E α H μ μ' d1 d2 x y q Q s r1 r2 run aft => eqn_run s r1 r2 run aft⟩
end Mi
/-! Mi, part T: told(lambda: ..): a def that calls what it gets within a try. -/
namespace Mi
open PySem L2 PyProof.Rows
variable [Tb]
open LamX
section
variable {X : Cx} {pins : List (Addr × Obj)} {σ : L2.St} {H HZ : Hp} {s s1 : Shared}
/-- as the kit's rule, the body in the context that the call makes -/
theorem lam_act {CXg : CXT} {Eg : XK} {Ng : List Str} {qg : Str} {sg : Scope} {g f c' : Addr} {cdg pm ctv : Value} {params : Arguments} {body : Expr} {scope : Scope} {k i : Nat} {a : Str} {pn : List (Addr × Obj)} {xe : Value → Shared → Prop} {W : WX} {E : XK} {tb : TE} {p1 p2 : Pos}
    (I : Inv X pins σ H s) (L : LamS X.env.scope scope) (hf : s.heap.get? f = some (PySem.W.kla_obj "<lambda>" (X.env.qual ++ "<lambda>") params body scope (cloFrom X.env.cells scope.names []) pm c' ctv)) (hfn : H f = none) (hfr : f ∉ frs X.stack)
    (hbind : bindArgs (PySem.W.kla_fn "<lambda>" (X.env.qual ++ "<lambda>") params body scope (cloFrom X.env.cells scope.names []) pm (.ref c') ctv) ⟨[], []⟩ = pure [])
    (tk : Takes ((cxOf CXg X.prog X.w X.K X.mg X.base Ng qg sg g cdg X.A X.stack s H Eg).tr pn xe) W) (hW : ∀ cls d σ' H', E cls d H' → W cls d σ' H') (hr : Room (k + 1) (X.A.deeper (envOfC qg sg s.heap.objs.size g cdg)))
    (hbody : ∀ (s2 : Shared) (H2 : Hp), PE (lamCx X (X.A.deeper (envOfC qg sg s.heap.objs.size g cdg)) (envOfC qg sg s.heap.objs.size g cdg :: X.stack) s2 H2 E scope f c') body tb)
    (hN : Ng[i]? = some a) (hv : Vis sg a) (hd : (a == ("__debug__" : Str)) = false) (hcd : (a == ("__classdict__" : Str)) = false) :
    PE ((cxOf CXg X.prog X.w X.K X.mg X.base Ng qg sg g cdg X.A X.stack s H Eg).tr pn xe) (.Call (.Name a p1) [] [] p2)
      (fun σZ HZ Q => σZ[i]? = some (some (.ref f)) ∧ HZ c' = some (CodeO c' (X.env.qual ++ "<lambda>")) ∧ tb σ HZ Q) := by
  refine ⟨fun pinsZ sZ σZ HZ Q IZ h => ?_⟩
  obtain ⟨hs, hc, ht⟩ := h
  refine wpAny_Call_Name_kw (thn ((pe_var (pos := p1) (i := i) hN hv hd hcd).run pinsZ sZ σZ HZ (fun v H1 => v = .ref f ∧ H1 = HZ) IZ ⟨.ref f, hs, rfl, rfl⟩) fun u s1 ⟨v, H1, I1, r1, q1⟩ => ?_)
  obtain ⟨ev, eH⟩ := q1
  subst ev
  rw [eH] at I1
  obtain rfl : u = Value.ref f := r1
  have of1 : s1.heap.get? f = some (PySem.W.kla_obj "<lambda>" (X.env.qual ++ "<lambda>") params body scope (cloFrom X.env.cells scope.names []) pm c' ctv) := I1.base.keep f _ hf hfn hfr (fun z => nomatch (show f ∈ ([] : List Addr) from z))
  refine PySem.W.callWith_F0 ⟨_, _, _, _, of1⟩ ?_
  have un : Un (frs X.stack) [] H HZ s.heap s1.heap := I1.base
  obtain ⟨⟨oc, vs, t, hoc, hdc, hvc⟩, _, _⟩ := I1.hok c' _ hc
  have rc : codeAny (model X.prog X.w) (X.A.deeper (envOfC qg sg s.heap.objs.size g cdg)) (.call (.ref f) ⟨[], []⟩) (L2.CR (L2.CX X.prog X.w) (envOfC qg sg s.heap.objs.size g cdg :: X.stack) X.prog X.w HZ s1 Q E) s1 := by
    refine PySem.W.kla_callFunE hr.depth of1 rfl L.co L.gen rfl ⟨c', oc, vs, t, rfl, hoc, hdc, hvc⟩ ?_
    rw [hbind]
    refine wpAny_pure (wpAny_newFunctionEnv (fun y hy => (L.own y hy).2) (fun y hy => absurd hy (by simp)) (fun h₁ hns hsb => ⟨I1.nolimit.fresh _ hsb, ?_⟩) L.kind)
    show codeAny _ _ (.expr body (lamEnv X scope s1.heap.objs.size f c')) _ _
    have kp : ∀ b o, s1.heap.get? b = some o → h₁.get? b = some o := fun b o e => hsb.extBut b o (Nat.ne_of_lt (Heap.lt_size e)) (Heap.get?_push_of_some _ e)
    have J : Inv (lamCx X (X.A.deeper (envOfC qg sg s.heap.objs.size g cdg)) (envOfC qg sg s.heap.objs.size g cdg :: X.stack) s1 HZ E scope f c') [] σ HZ { s1 with heap := h₁, toks := s1.toks + ([] : List (Str × Value)).length } :=
      lam_start2 I L I1.env0 hr.hd un hns kp
    refine PySem.W.kla_codeExpr (wpAny_mono ((hbody s1 HZ).run [] _ _ HZ Q J ht) (fun v s' hq => ?_) fun e s' hq => hq)
    obtain ⟨w', H', J', rv, q⟩ := hq
    exact ⟨w', H', J'.os, J'.bare, J'.base, J'.hok, rv, q⟩
  have hx : Passes (L2.CX X.prog X.w) ((cxOf CXg X.prog X.w X.K X.mg X.base Ng qg sg g cdg X.A X.stack s H Eg).tr pn xe) E := passes_call tk hW
  refine wpAny_call (codeAny_mono rc fun r s' hq => ?_)
  cases r with
  | error e => exact hx pinsZ σZ HZ s1 e s' I1 hq
  | ok fl =>
    cases fl with
    | ret u => exact I1.after hq
    | next => exact False.elim hq
    | brk => exact False.elim hq
    | cont => exact False.elim hq
/-- x(lambda: body), as the kit's rule -/
theorem lam_call {T : List (Addr × Str)} {TT : (XK → Hp → VK → Prop) → Hp → VK → Prop} {x a : Str} {g c P : Addr} {k : Nat} {pg : Arguments} {bg : List Stmt} {sg : Scope} {dV kV doc pm cdv ct oc : Value} {an od : Option Addr} {osl : Array (Option Value)} {Ng : List Str}
    {params : Arguments} {body : Expr} {scope : Scope} {t : XK → TE} {p lpos pos : Pos} (hg : Gl X x) (hm : X.mg x = some (.ref g)) (hk : PySem.W.keepIn X.K (.ref g) = true)
    (lk : X.K.lookup g = some ⟨oc, od, .func (PySem.W.fnOf x x pg bg sg dV kV doc pm an cdv ct), osl⟩) (hcg : PySem.W.codeIn X.K cdv x = true) (hb : L2.Binds X.K (PySem.W.fnOf x x pg bg sg dV kV doc pm an cdv ct) [a] []) (Sg : FnScope Ng [a] sg) (hNg : Ng[0]? = some a) (hva : Vis sg a)
    (hG : GivesTo X Ng x sg g cdv bg a (X.env.qual ++ "<lambda>") TT)
    (TB : TabB X.base X.mg c P) (hcode : X.env.code = .ref c) (hmT : (P, X.env.qual ++ "<lambda>") ∈ T) (hu : ∀ p ∈ T, p.1 = P → p.2 = X.env.qual ++ "<lambda>") (hr : Room (k + 2) X.A) (L : LamS X.env.scope scope) (hdef : defaultsOf params X.env = ([], []))
    (hbind : ∀ (q : Str) (cl : List (Str × Addr)) (pm cv ctv : Value), bindArgs (PySem.W.kla_fn "<lambda>" q params body scope cl pm cv ctv) ⟨[], []⟩ = pure [])
    (hbody : ∀ (n : Addr) (s : Shared) (H : Hp) (E : XK) (f c' : Addr), PE (lamCx X (X.A.deeper (envOfC x sg n g cdv)) (envOfC x sg n g cdv :: X.stack) s H E scope f c') body (t E))
    (hdb : (x == ("__debug__" : Str)) = false) (hd : (a == ("__debug__" : Str)) = false) (hcd : (a == ("__classdict__" : Str)) = false) :
    PE X (.Call (.Name x p) [.Lambda params body scope lpos] [] pos) (tLam T TT t) := by
  refine ⟨fun pins s σ H Q I h => ?_⟩
  obtain ⟨hT, h⟩ := h
  refine wpAny_Call_Name_kw (ld_glob I hg hm ?_ hdb)
  refine PySem.W.callWith_K (h₀ := X.base) I.ok.mod.kin hk ?_ (by rfl) (by rfl)
  show wpAny _ _ (spliced ((false, eval (.Lambda params body scope lpos) X.env) :: backTo pos (starEach [] X.env))) _ _ s
  refine Calls.spliced_cons (lam_make2 I TB hcode hmT hu hT hdef (L.has I.ok) fun f c' pm' ctv H1 s' I1 eN T1 hf hfn hfr hco => ?_)
  refine Calls.spliced_nil ⟨I1.kIn, ?_⟩
  have rc : codeAny (model X.prog X.w) X.A (.call (.ref g) ⟨[.ref f], []⟩) (L2.CR C8.CX0 X.stack X.prog X.w H1 s' Q C8.E0) s' := by
    refine run_ofS (N := Ng) (ps := [a]) (us := [.ref f]) (vs := [.ref f]) lk hcg Sg hr I1.env0 (hb s' [.ref f] I1.kIn rfl) (.cons rfl .nil) rfl fun hr' => ?_
    obtain ⟨t', ht', hq'⟩ := hG f c' s' H1 Q (fun E H' Q' => t E σ H' Q') (fun W pn xe E p1 p2 tk hW => lam_act (i := 0) I1 L hf hfn hfr (hbind _ _ _ _ _) tk hW hr' (fun s2 H2 => hbody _ s2 H2 E f c') hNg hva hd hcd) hco (h H1 eN T1)
    exact ⟨t', ht'.nox, hq'⟩
  refine wpAny_call (codeAny_mono rc fun r s2 hq => ?_)
  cases r with
  | error e => exact (show False from hq).elim
  | ok fl =>
    cases fl with
    | ret u => exact I1.after hq
    | next => exact False.elim hq
    | brk => exact False.elim hq
    | cont => exact False.elim hq
end
/-! ### the def that is told: t = None; try: t = a() / except e: t = ret; return t -/
section
variable {X : Cx}
theorem told3_gives {Ng : List Str} {x a t e q ret : Str} {sg : Scope} {g CS : Addr} {cdg : Value} {j j2 : Nat} {p1 p2 p3 p4 p5 p6 p7 p8 p9 p10 p11 p12 p13 p14 p15 : Pos} (hge : sg.names.lookup e = some .globalImplicit) (hme : X.mg e = some (.ref CS)) (hde : (e == ("__debug__" : Str)) = false)
    (hN : Ng = [a, t]) (hne : a ≠ t) (hlt : sg.names.lookup t = some .local) (hdt : (t == ("__debug__" : Str)) = false) (hct : (t == ("__classdict__" : Str)) = false) :
    GivesTo X Ng x sg g cdg [.Assign [.Name t p9] (.Constant .none j2 p10) p11, .Try [.Assign [.Name t p12] (.Call (.Name a p1) [] [] p2) p3] [.ExceptHandler (some (.Name e p4)) none [.Assign [.Name t p13] (.Constant (.str ret) j p5) p6] p7] [] [] p8, .Return (some (.Name t p14)) p15] a q (TTold X.K CS ret) := by
  intro f c' s H Q tl act hc h
  subst hN
  have hgl : Gl (cxOf C8.CX0 X.prog X.w X.K X.mg X.base [a, t] x sg g cdg X.A X.stack s H C8.E0).nox e := hge
  have nd : ([a, t] : List Str).Nodup := by simp [hne]
  have pg : ∀ (Y : Cx) (p : Pos), Y.N = [a, t] → Y.env.scope = sg → PG Y (.Name t p) (gName 1) := fun Y p h1 h2 => pg_name (by rw [h1]; exact nd) (by rw [h1]; rfl) (by rw [h2]; exact .inl hlt) (.inr (by rw [h2]; exact hlt))
  refine ⟨_, pss_cons (ps_asg pe_non (pg _ _ rfl rfl)) (pss_cons (ps_try_only (X := (cxOf C8.CX0 X.prog X.w X.K X.mg X.base [a, t] x sg g cdg X.A X.stack s H C8.E0).nox) (c := .ref CS)
      (tb := fun W D σ H => ∃ Ech : XK, (∀ cls d σ' H', Ech cls d H' → W cls d σ' H') ∧ σ[0]? = some (some (.ref f)) ∧ H c' = some (CodeO c' q) ∧ tl Ech H fun v H' => D.nx (σ.set 1 (some v)) H')
      (ts := fun _ _ _ D σ H => σ.length = 2 → D.nx (σ.set 1 (some (.str ret))) H) rfl rfl ⟨hgl, hde, .inl hme⟩ LamX.takes0 (fun W pn xe tk _ => ?_) (fun b0 oe cls d pn _ _ => ?_)) (pss_one (ps_ret (pe_var (i := 1) rfl (.inl hlt) hdt hct)))), ?_⟩
  · refine ⟨fun pins s σ H' D I h' => ?_⟩
    obtain ⟨Ech, hW, h1, h2, h3⟩ := h'
    have hp := act W pn xe Ech p1 p2 tk hW
    have hq := pss_one (ps_asg (pos := p3) hp (pg _ p12 rfl rfl))
    exact hq.run pins s σ H' D I ⟨h1, h2, h3⟩
  · have h0 := pss_one (ps_asg (pos := p6) (pe_str (x := ret) (j := j) (pos := p5)) (pg ((cxOf C8.CX0 X.prog X.w X.K X.mg X.base [a, t] x sg g cdg X.A X.stack s H C8.E0).nox.suite b0 ((b0, oe) :: pn)) p13 rfl rfl))
    refine ⟨fun pins s σ H' D I h' => h0.run pins s σ H' D I (h' I.len)⟩
  · refine ⟨fun cls _ H' => ∃ b, PySem.W.exmOne X.K cls (.ref CS) = some b ∧ (b = true → Q (.str ret) H') ∧ (b = false → False), fun cls d σ' H' ⟨b, e1, e2, e3⟩ => ⟨b, e1, fun hb a _ hl => ?_, fun hb => e3 hb⟩, rfl, hc, ?_⟩
    · exact ⟨.str ret, List.getElem?_set_self (by omega), e2 hb⟩
    · have e9 : (fun v H' => tRet (tVar 1) { nx := fun _ H' => Q .non H', rt := Q } ((List.set (L2.start [a, t] [V.ref f]) 1 (some V.non)).set 1 (some v)) H') = Q := by
        funext v H'
        refine propext ⟨fun ⟨w, h1, h2⟩ => ?_, fun h2 => ⟨v, rfl, h2⟩⟩
        have h1' : some (some v) = some (some w) := h1
        cases h1'
        exact h2
      show tl _ H (fun v H' => tRet (tVar 1) { nx := fun _ H' => Q .non H', rt := Q } ((List.set (L2.start [a, t] [V.ref f]) 1 (some V.non)).set 1 (some v)) H')
      rw [e9]
      exact h
end
/-! ### the word -/
/-- the def that is told, by its form: its parameter, its name, the class, the text -/
def toldOf (st : Stmt) : Option (Str × Str × Str × Str) := match defBody st with
  | [.Assign [.Name t1 _] (.Constant .none _ _) _, .Try [.Assign [.Name t2 _] (.Call (.Name a _) [] [] _) _] [.ExceptHandler (some (.Name e _)) none [.Assign [.Name t3 _] (.Constant (.str ret) _ _) _] _] [] [] _, .Return (some (.Name t4 _)) _] =>
    if t2 = t1 ∧ t3 = t1 ∧ t4 = t1 then some (a, t1, e, ret) else none
  | _ => none
structure ToldSt (st : Stmt) (x a t e ret : Str) : Prop where
  body : toldOf st = some (a, t, e, ret)
  sc : FnScope [a, t] [a] (defScope st)
  vis : seen (defScope st) a = true
  loc : (defScope st).names.lookup t = some .local
  glo : (defScope st).names.lookup e = some .globalImplicit
  ne : a ≠ t
  ua : unmarked a = true
  ut : unmarked t = true
  ue : unmarked e = true
  ux : unmarked x = true
/-- x is such a def of the module -/
def KTold (Kn : Kno) (x e ret : Str) : Prop := ∀ P w K mg base, Kn P w K mg base →
  ∃ st a t f fd CS, Fun K x x st f fd ∧ ToldSt st x a t e ret ∧ mg x = some (.ref f) ∧ mg e = some (.ref CS) ∧ PySem.W.exmOne K (.ref CS) (.ref CS) = some true ∧ Binds K fd [a] []
theorem told_gives2 {X : Cx} {st : Stmt} {x a t e ret q : Str} {g CS : Addr} {cdg : Value} (h : ToldSt st x a t e ret) (hme : X.mg e = some (.ref CS)) : GivesTo X [a, t] x (defScope st) g cdg (defBody st) a q (TTold X.K CS ret) := by
  have hb := h.body
  unfold toldOf at hb
  split at hb
  · rename_i t1 p9 j2 p10 p11 t2 p12 a1 p1 p2 p3 e1 p4 t3 p13 ret1 j p5 p6 p7 p8 t4 p14 p15 heq
    split at hb
    · rename_i hc
      obtain ⟨h1, h2, h3⟩ := hc
      subst h1 h2 h3
      cases hb
      rw [heq]
      exact told3_gives h.glo hme (unmarked1 h.ue) rfl h.ne h.loc (unmarked1 h.ut) (unmarked2 h.ut)
    · cases hb
  · cases hb
theorem Ext.lam {α : List Addr} {H H1 : Hp} (hx : ExtN H H1) : Ext α H α H1 := ⟨fun _ _ h => h, fun p o h _ => by
  by_cases ht : IsT o
  · exact .inr ht
  · exact .inl (hx p o h fun ps e => ht ⟨ps, e⟩), fun _ h => .inl h⟩
theorem RepS.lam {K : PySem.W.Frag} {α : List Addr} {H H1 : Hp} {μ : List O} (s : RepS K α H μ) (hx : ExtN H H1) (ht : Tabs Tb.T H1) : RepS K α H1 μ :=
  ⟨s.len, s.nd, fun l o q h1 h2 => by
    have r := s.at_ l o q h1 h2
    obtain ⟨u, hu, nt, _⟩ := repO_shape r
    exact r.up (Ext.lam hx) (by rw [hu]; exact hx _ _ hu nt), ht⟩
def toldD (e ret : Str) (m : M D) : M D := fun μ => match m μ with
  | some (.ok d, μ1) => some (.ok d, μ1)
  | some (.error x, μ1) => if x.cls = e then some (.ok (.str ret), μ1) else none
  | none => none
def noParams : Arguments → Bool
  | ⟨[], [], none, [], [], none, []⟩ => true
  | _ => false
def cTold (x e ret : Str) (c : CE) : CE := ⟨fun ρ => toldD e ret (c.run ρ), fun I ex => match ex with
  | .Call (.Name y _) [.Lambda params body scope _] [] _ => decide (y = x) && (glo I.sc y && (I.cells Str.empty && (lamSB I.sc scope && (noParams params && c.chk ⟨I.N, scope, fun _ => false⟩ body))))
  | _ => false⟩
section
variable {Kn : Kno} {k : Nat}
theorem g_told {x e ret : Str} {c : CE} (hk : KTold Kn x e ret) (hc : GE Kn k c) : GE Kn (k + 2) (cTold x e ret c) := by
  intro X W cb bs ex h
  dsimp only [cTold] at h
  split at h
  · rename_i y p params body scope lpos pos
    simp only [Bool.and_eq_true, decide_eq_true_eq, glo] at h
    obtain ⟨h1, h2, h3, h4, h5, h6⟩ := h
    subst h1
    obtain ⟨st, a, t, f, fd, CS, F, S, m1, m2, m3, m4⟩ := hk _ _ _ _ _ bs.kn
    obtain ⟨oc, od, kV, doc, pm, an, cdv, ct, osl, rfl, lk, hcd⟩ := F.ex
    obtain ⟨cc, PP, e1, e2, e3, e4⟩ := bs.lam h3
    have L := lamS_by h4
    have hpar : params = ⟨[], [], none, [], [], none, []⟩ := by
      unfold noParams at h5
      split at h5
      · rfl
      · cases h5
    subst hpar
    refine PE.imp (lam_call (T := Tb.T) (t := fun E => rdE X.K X.mg (fun c d _ H => E c d H) c.run) h2 m1 F.kp lk hcd m4 S.sc rfl (seen_vis S.vis) (told_gives2 S m2) e2 e1 e3 e4 (bs.room.r.mono (Nat.le_refl _)) L rfl (fun _ _ _ _ _ => rfl)
      (fun n s H E f' c' => hc (lamCx X (X.A.deeper (envOfC y (defScope st) n f cdv)) (envOfC y (defScope st) n f cdv :: X.stack) s H E scope f' c') _ (fun _ => false) ⟨bs.kn, rfl, bs.nd, (bs.room.deeper _).deeper _, bs.grd, takes_of rfl rfl rfl rfl, bs.sys, ⟨_, _, rfl, L.gen, L.co, rfl, rfl⟩, fun _ z => (by cases z), fun z => (by cases z)⟩ body h6)
      (unmarked1 S.ux) (unmarked1 S.ua) (unmarked2 S.ua)) ?_
    rintro σ H Q ⟨α, ρ, μ, r, μ', g, run, aft⟩
    refine ⟨g.s.tb, fun H1 hx ht => ?_⟩
    have x1 : Ext α H α H1 := Ext.lam hx
    dsimp only [cTold, toldD] at run
    cases hr : c.run ρ μ with
    | none => rw [hr] at run; cases run
    | some p =>
      obtain ⟨r0, μ0⟩ := p
      rw [hr] at run
      refine ⟨α, ρ, μ, r0, μ0, ⟨g.s.lam hx ht, g.e.up x1⟩, hr, ?_⟩
      cases r0 with
      | ok d =>
        cases run
        exact fun α' v H' k' s' r' => aft α' v H' (x1.trans k') s' r'
      | error ee =>
        dsimp only at run
        split at run
        · rename_i he
          cases run
          intro α' c0 dd H' k' s' x'
          have hc0 : c0 = .ref CS := by
            have := x'.1
            rw [he, m2] at this
            exact (Option.some.inj this).symm
          subst hc0
          exact ⟨true, m3, fun _ => aft α' (.str ret) H' (x1.trans k') s' rfl, fun z => by cases z⟩
        · cases run
  · cases h
end
end Mi
/-! Mi, part X: raise C(), C an own class over an own class over ValueError, whose __init__ calls the base's with a text. -/
namespace Mi
open PySem L2 PyProof.Rows
variable [Tb]
section
variable {X : Cx} {pins : List (Addr × Obj)} {σ : L2.St} {H : Hp} {s : Shared}
/-- B.__init__(sf, text), B an own class over ValueError -/
theorem pe_binit {bn : Str} {B : Addr} {pl : Sem Bool} {p1 p2 pos : Pos} {e : Expr} {es : List Expr} {ta : TA} (hg : Gl X bn) (hm : X.mg bn = some (.ref B)) (hd : (bn == ("__debug__" : Str)) = false)
    (r1 : PySem.W.readsIn X.K B (.type "type") = true) (r2 : PySem.W.specialIn X.K (.ref B) "__getattribute__" = some (some (.builtin "type.__getattribute__")))
    (vV : PySem.W.findCls X.K (.ref B) (.type "type") "__init__" = some (.val (.builtin "ValueError.__init__"))) (ha : PA X (e :: es) ta)
    (hc : eval (.Call (.Attribute (.Name bn p1) "__init__" p2) (e :: es) [] pos) X.env = (do
      let ov ← eval (.Name bn p1) X.env
      standAt p2.atName
      let (f, first) ← holding [ov] (getMethod ov "__init__" pl)
      callWith pos f first (backTo pos (starEach (e :: es) X.env)) (backToKw pos (keywordEach [] X.env))))
    (he : starEach (e :: es) X.env = (false, eval e X.env) :: starEach es X.env) (hpl : (backTo pos (starEach es X.env)).any (·.1) = false) :
    PE X (.Call (.Attribute (.Name bn p1) "__init__" p2) (e :: es) [] pos) (tVeI X.K ta) := by
  refine ⟨fun pins s σ H Q I h => ?_⟩
  refine PySem.W.methodCall_KW (ld_glob I hg hm ?_ hd) hc
  refine PySem.W.method_cls I.kIn r2 (PySem.W.cls_value I.kIn r1 vV (by decide +kernel) ?_)
  show wpAny _ _ (callWith pos (Value.builtin "ValueError.__init__") [] (backTo pos (starEach (e :: es) X.env)) []) _ _ _
  refine PyProof.Rows.callWith_method1 (thn (ha.run pos pins _ σ H _ (I.tok _) h) fun us s1 ⟨vs, H1, I1, r1, a, C, ws, ev, hl, T, ea, q⟩ => ?_) he hpl
  subst ev
  cases r1 with
  | @cons _ u0 _ ur ra rw' =>
    obtain rfl : u0 = Value.ref a := ra
    have hlen : ur.length ≤ sizeLine := by
      rw [← Paired.length rw', sizeLine_eq]
      omega
    exact oinit_ok T I1 ea hlen fun s' J => ⟨.non, H1, J, rfl, q⟩
end
theorem mline {o : Expr} {m : Str} {apos pos : Pos} {env : PySem.Env} {ov : Value} {n : Nat} {args : List (Bool × Sem Value)} {kws : List (Option Str × Sem Value)} (hf : methodCallForm n args kws = true) (hl : (apos.endLine == pos.line) = true) :
    methodCall o m apos pos env ov n args kws = (do
      let (f, first) ← holding [ov] (getMethod ov m (do return (← importBound o env).getD true))
      callWith pos f first args kws) := by
  have e2 : methodCallPos true o env apos pos = pure pos := by
    unfold methodCallPos
    exact if_pos (by rw [hl, Bool.or_true])
  unfold methodCall
  rw [hf, e2]
  first
    | rfl
    | simp only [pure_bind]; rfl
/-- what such an __init__ keeps -/
def spInit (K : PySem.W.Frag) : Sp := fun vs H Q E => ∃ a C, vs = [.ref a] ∧ OexC K C ∧ H a = some (exo a C none) ∧ Q .non H
/-- its form: the base's name, the parameter -/
def initOf (st : Stmt) : Option (Str × Str) := match defBody st with
  | [.Expr (.Call (.Attribute (.Name bn _) m p2) [.Name sf _, .Constant (.str _) _ _] [] p5) _] => if m = "__init__" ∧ (p2.endLine == p5.line) = true then some (bn, sf) else none
  | _ => none
structure InitSt (st : Stmt) (bn sf : Str) : Prop where
  body : initOf st = some (bn, sf)
  sc : FnScope [sf] [sf] (defScope st)
  vis : seen (defScope st) sf = true
  glo : (defScope st).names.lookup bn = some .globalImplicit
  us : unmarked sf = true
  ub : unmarked bn = true
theorem init_ok {P : Program} {w : World} {K : PySem.W.Frag} {mg : Str → Option Value} {base : Heap} {x qual : Str} {st : Stmt} {f B : Addr} {fd : FuncData} {bn sf : Str} (F : Fun K x qual st f fd) (S : InitSt st bn sf) (hm : mg bn = some (.ref B))
    (r1 : PySem.W.readsIn K B (.type "type") = true) (r2 : PySem.W.specialIn K (.ref B) "__getattribute__" = some (some (.builtin "type.__getattribute__")))
    (vV : PySem.W.findCls K (.ref B) (.type "type") "__init__" = some (.val (.builtin "ValueError.__init__"))) : FnOk P w K mg base CX0 1 f fd [sf] (spInit K) := by
  refine Fun.ok F S.sc (fun vs H Q E ⟨a, C, e, _⟩ => by rw [e]; rfl) fun cdv A outer s H vs Q E hr ⟨a, C, e, T, ha, q⟩ => ?_
  subst e
  have hb := S.body
  unfold initOf at hb
  split at hb
  · rename_i bn1 p1 m p2 sf1 p3 tx j p4 pos p5 heq
    split at hb
    · rename_i hme
      obtain ⟨hme, hli⟩ := hme
      subst hme
      cases hb
      rw [heq]
      refine ⟨_, pss_one (ps_expr (pe_binit (pl := do return (← importBound (.Name bn p1) (cxOf CX0 P w K mg base [sf] qual (defScope st) f cdv A outer s H E).nox.env).getD true) S.glo hm (unmarked1 S.ub) r1 r2 vV (pa_cons (pe_var (i := 0) rfl (seen_vis S.vis) (unmarked1 S.us) (unmarked2 S.us)) (pa_cons pe_str pa_nil)) ?_ rfl rfl)), ?_⟩
      · rw [arm_eval_Call]
        refine congrArg (fun g => (eval (.Name bn p1) (cxOf CX0 P w K mg base [sf] qual (defScope st) f cdv A outer s H E).env >>= g)) (funext fun ov => ?_)
        refine congrArg (fun z => standAt p2.atName >>= fun _ => z) ?_
        exact mline (by rfl) hli
      · exact ⟨.ref a, rfl, a, C, [.str tx], rfl, (by show 1 ≤ 1000; omega), T, ha, q⟩
    · cases hb
  · cases hb
section
variable {X : Cx}
/-- an exception without fields is let go -/
theorem mk_end1 {pins : List (Addr × Obj)} {σ : L2.St} {H1 : Hp} {Q : XK} {hp hp2 h2 : Heap} {g1 g2 : Array GenState} {d1 d2 : Drawn} {t1 t2 : Nat} {os1 os2 : OsState} {a C : Addr} (T : Raises X (.ref C)) (I1 : Inv X pins σ H1 ⟨hp, g1, d1, t1, os1⟩)
    (ha : hp.objs.size ≤ a) (k : ∀ b o, hp.get? b = some o → hp2.get? b = some o) (un : Un (frs X.stack) [] (upd H1 a (exo a C none)) (upd H1 a (exo a C none)) hp2 h2) (hok : HOk X.prog X.w (upd H1 a (exo a C none)) h2) (ho : os2 = os1) (hb : AllBare g2)
    (q : Q (.ref C) none H1) : MkP X pins σ Q (.ref a) ⟨h2, g2, d2, t2, os2⟩ := by
  obtain ⟨t0, hoe⟩ := exo_at hok upd_same
  have hn : H1 a = none := I1.hok.fresh ha
  obtain ⟨G, g1', g2'⟩ := restrict h2 fun b => decide (b ≠ a)
  have gk : ∀ b, b ≠ a → G.get? b = h2.get? b := fun b hb => g1' b (decide_eq_true hb)
  have ge : G.get? a = none := g2' a (by simp)
  have nha : ∀ {b : Addr} {o : Obj}, hp.get? b = some o → b ≠ a := fun {b o} z => Nat.ne_of_lt (Nat.lt_of_lt_of_le (Heap.lt_size z) ha)
  have up : ∀ {b : Addr}, b ≠ a → H1 b = none → upd H1 a (exo a C none) b = none := fun {b} hb n => by rw [upd_ne hb]; exact n
  have U : Un (frs X.stack) [] H1 H1 hp G := {
    keep := fun b o z n hf hx => by
      rw [gk b (nha z)]
      exact un.keep b o (k b o z) (up (nha z) n) hf hx
    slot := fun b o z n hf hx => by
      rw [gk b (nha z)]
      exact un.slot b o (k b o z) (up (nha z) n) hf hx
    free := fun b o z n hx => n
    there := fun b o z hx => by
      rw [gk b (nha z)]
      exact un.there b o (k b o z) hx
    tups := fun b xs z => z
    frzs := fun b o v z => z
    tbls := fun b ps z => ⟨#[], by rw [z]; simp⟩ }
  have hok3 : HOk X.prog X.w H1 G := fun b o z => by
    have hba : b ≠ a := fun e => by
      rw [e, hn] at z
      cases z
    have z2 : upd H1 a (exo a C none) b = some o := by rw [upd_ne hba]; exact z
    refine (hok b o z2).stay (fun c v hc y => ?_) (fun c hc => ?_) fun c xs hc => ?_
    · have hca : c ≠ a := by
        rcases hc with hc | hc
        · rw [hc]
          exact hba
        · exact at_ne upd_same hc exo_own
      rw [gk c hca]
      exact y
    · have := at_ne upd_same hc exo_own
      rw [upd_ne this] at hc
      exact hc
    · have := at_ne upd_same hc exo_tup
      rw [upd_ne this] at hc
      exact hc
  have J : Inv X pins σ H1 ⟨G, g2, d2, t2, os2⟩ := I1.call' (ch := []) ho U hok3 hb (fun b z => absurd z (by simp))
  refine ⟨a, _, _, ⟨G, g2, d2, t2, os2⟩, _, .ref C, none, rfl, J, fun b o z => ?_, ge, hoe, ⟨rfl, rfl⟩, rfl, rfl, hn, rfl, hb, T, q⟩
  by_cases hba : b = a
  · rw [hba, ge] at z
    cases z
  · exact (gk b hba).symm.trans z
theorem pmk_e0 {x : Str} {C fI : Addr} {k : Nat} {fd : FuncData} {sf : Str} {p pos : Pos} (T : OexC X.K C) (iC : PySem.W.findIn X.K (.ref C) "__init__" = some (some (.ref fI))) (tI : PySem.W.typeIn X.K (.ref fI) = some (.type "function"))
    (F1 : FnOk X.prog X.w X.K X.mg X.base CX0 k fI fd [sf] (spInit X.K)) (hr : Room (k + 1) X.A) (hb : Binds X.K fd [sf] []) (hg : Gl X x) (hm : X.mg x = some (.ref C)) (hdb : (x == ("__debug__" : Str)) = false) :
    PMk X (.Call (.Name x p) [] [] pos) (fun _ H Q => Q (.ref C) none H) := by
  intro pins s σ H Q I h
  obtain ⟨nm, q, N, bs, bm, sn, sub, ab, col, dd, k0, k1, k2, k3, k5, hC, hbm⟩ := T.cls
  refine wpAny_Call_Name_kw (ld_glob I hg hm ?_ hdb)
  refine PySem.W.callWith_K0 I.kIn T.kC ?_
  show wpAny _ _ (call (.ref C) []) _ _ _
  obtain ⟨hp, g, dr, tk, os⟩ := s
  have hsz : hp.objs.size ≤ hp.objs.size + 1 := Nat.le_succ _
  have hn : H (hp.objs.size + 1) = none := I.hok.fresh hsz
  have kk : ∀ b o, hp.get? b = some o → ((hp.push (PySem.W.kdv_tup [])).push (PySem.HandSPX.excO C hp.objs.size)).get? b = some o := fun b o e => Heap.get?_push_of_some _ (Heap.get?_push_of_some _ e)
  have hget : ((hp.push (PySem.W.kdv_tup [])).push (PySem.HandSPX.excO C hp.objs.size)).get? (hp.objs.size + 1) = some (PySem.HandSPX.excO C hp.objs.size) := by heap_get
  have I2 : Inv X pins σ (upd H (hp.objs.size + 1) (exo (hp.objs.size + 1) C none)) ⟨(hp.push (PySem.W.kdv_tup [])).push (PySem.HandSPX.excO C hp.objs.size), g, dr, tk, os⟩ :=
    I.laid (t' := tk) (a := hp.objs.size + 1) (o := exo (hp.objs.size + 1) C none) (h' := (hp.push (PySem.W.kdv_tup [])).push (PySem.HandSPX.excO C hp.objs.size)) kk hsz (exo_ok hget)
  have r2 : Vals [V.ref (hp.objs.size + 1)] [Value.ref (hp.objs.size + 1)] := .cons rfl .nil
  have hq : spInit X.K [V.ref (hp.objs.size + 1)] (upd H (hp.objs.size + 1) (exo (hp.objs.size + 1) C none)) (fun v H2 => v = .non ∧ H2 = upd H (hp.objs.size + 1) (exo (hp.objs.size + 1) C none)) (fun _ _ _ => False) := ⟨_, C, rfl, T, upd_same, rfl, rfl⟩
  refine wpAny_call (PySem.HandSPX.call_own F.excBase_ValueError (fun Y => PySem.HandSPX.refsVE_contains Y bm hbm) (I.kIn _ _ hC) (PySem.W.looks_findIn I.kIn iC) (fun self => PySem.W.bind_fn I.kIn self tI) (Nat.zero_le _)
    (codeAny_mono (F1.run _ X.stack _ _ ⟨[Value.ref (hp.objs.size + 1)], []⟩ [Value.ref (hp.objs.size + 1)] _ _ (fun _ _ _ => False) (hr.make C [] []) (I2.env0.make C [] []) (hb _ [Value.ref (hp.objs.size + 1)] I2.kIn rfl) r2 hq) fun r s' hq' => ?_))
  cases r with
  | error er => exact (show False from hq').elim
  | ok fl =>
    cases fl with
    | ret u =>
      obtain ⟨v, H2, os2, bare2, un2, hok2, rv, ev, eH⟩ := hq'
      subst ev eH
      obtain ⟨h2, g2, d2, t2, os'⟩ := s'
      exact ⟨rv, mk_end1 (raises_own T.exC T.tyC) I hsz kk un2 hok2 os2 bare2 h⟩
    | next => exact False.elim hq'
    | brk => exact False.elim hq'
    | cont => exact False.elim hq'
end
/-! ### the word -/
structure ExcK (K : PySem.W.Frag) (mg : Str → Option Value) (e : Str) (st : Stmt) (bn sf : Str) : Prop where
  ex : ∃ (C fI B : Addr) (fd : FuncData) (q : Str), mg e = some (.ref C) ∧ OexC K C ∧ PySem.W.findIn K (.ref C) "__init__" = some (some (.ref fI)) ∧ PySem.W.typeIn K (.ref fI) = some (.type "function") ∧ Fun K "__init__" q st fI fd ∧ Binds K fd [sf] [] ∧
    mg bn = some (.ref B) ∧ PySem.W.readsIn K B (.type "type") = true ∧ PySem.W.specialIn K (.ref B) "__getattribute__" = some (some (.builtin "type.__getattribute__")) ∧
    PySem.W.findCls K (.ref B) (.type "type") "__init__" = some (.val (.builtin "ValueError.__init__"))
/-- e is such a class of the module -/
def KExc (Kn : Kno) (e : Str) : Prop := ∃ st bn sf, InitSt st bn sf ∧ ∀ P w K mg base, Kn P w K mg base → ExcK K mg e st bn sf
def sRaise (x : Str) : CS := ⟨fun ρ μ => some (.er ⟨x, none⟩ ρ, μ), fun I st => match st with
  | .Raise (some (.Call (.Name y _) [] [] _)) none _ => decide (y = x) && (glo I.sc y && unmarked y)
  | _ => false⟩
theorem g_sRaise {Kn : Kno} {k : Nat} {x : Str} (hx : KExc Kn x) : GS Kn (k + 2) (sRaise x) := by
  intro X W cb bs po e h
  dsimp only [sRaise] at h
  split at h
  · rename_i y p1 p2 p3
    simp only [Bool.and_eq_true, decide_eq_true_eq, glo] at h
    obtain ⟨h1, h2, h3⟩ := h
    subst h1
    obtain ⟨st, bn, sf, S, hk⟩ := hx
    obtain ⟨C, fI, B, fd, q, m1, T, iC, tI, F, hb, m2, r1, r2, vV⟩ := (hk _ _ _ _ _ bs.kn).ex
    refine PS.imp (ps_raise bs.calm bs.tk (pmk_e0 T iC tI (init_ok F S m2 r1 r2 vV) (bs.room.r.mono (by omega)) hb h2 m1 (unmarked1 h3))) ?_
    rintro σ H D ⟨α, ρ, μ, r, μ', g, run, aft⟩
    cases run
    exact aft α (.ref C) none σ H (Ext.refl _ _) g.s g.e ⟨m1, rfl⟩
  · cases h
theorem exm_self {K : PySem.W.Frag} {S : Addr} (h1 : PySem.W.subIn K (.ref S) (.type "BaseException") = some true) (h2 : PySem.W.isClsIn K S = true) (h3 : PySem.W.typeIn K (.ref S) = some (.type "type")) (h4 : PySem.W.subIn K (.ref S) (.ref S) = some true) : PySem.W.exmOne K (.ref S) (.ref S) = some true := by
  have e1 : (PySem.W.subIn K (.ref S) (.type "BaseException") == some true) = true := by rw [h1] <;> rfl
  have e2 : ((PySem.W.clsIn K S).isSome && PySem.W.typeIn K (.ref S) == some (.type "type")) = true := by
    have h2' : (PySem.W.clsIn K S).isSome = true := h2
    rw [h2', h3] <;> rfl
  show (if (PySem.W.subIn K (.ref S) (.type "BaseException") == some true) = true then (if ((PySem.W.clsIn K S).isSome && PySem.W.typeIn K (.ref S) == some (.type "type")) = true then PySem.W.subIn K (.ref S) (.ref S) else none) else none) = some true
  rw [if_pos e1, if_pos e2]
  exact h4
end Mi
/-! Mi, part G: what holds behind a run; plain Lean, no program in sight. -/
namespace Mi
open PySem L2 PyProof.Rows

/-- m ends at a value with P, or raises with E -/
def Wp {a : Type} (m : M a) (μ : List O) (P : a → List O → Prop) (E : Ex → List O → Prop) : Prop := ∃ r μ', m μ = some (r, μ') ∧ match r with
  | .ok d => P d μ'
  | .error x => E x μ'
def Ws (m : Ms) (μ : List O) (P : SR → List O → Prop) : Prop := ∃ r μ', m μ = some (r, μ') ∧ P r μ'
section
variable {a b : Type} {μ : List O} {P : a → List O → Prop} {Q : b → List O → Prop} {E : Ex → List O → Prop} {S : SR → List O → Prop} {ρ : Env}
theorem Wp.mono {m : M a} {P' : a → List O → Prop} {E' : Ex → List O → Prop} (h : Wp m μ P E) (hp : ∀ d μ', P d μ' → P' d μ') (he : ∀ x μ', E x μ' → E' x μ') : Wp m μ P' E' := by
  obtain ⟨r, μ', e, q⟩ := h
  refine ⟨r, μ', e, ?_⟩
  cases r with
  | ok d => exact hp d μ' q
  | error x => exact he x μ' q
/-- a call that raises nothing -/
theorem Wp.go {m : M a} {P' : a → List O → Prop} (h : Wp m μ P' fun _ _ => False) (hp : ∀ d μ', P' d μ' → P d μ') : Wp m μ P E := h.mono hp fun _ _ z => z.elim
theorem Ws.mono {m : Ms} {S' : SR → List O → Prop} (h : Ws m μ S) (hp : ∀ d μ', S d μ' → S' d μ') : Ws m μ S' := by
  obtain ⟨r, μ', e, q⟩ := h
  exact ⟨r, μ', e, hp r μ' q⟩
theorem wp_ret {d : a} : Wp (M.ret d) μ P E ↔ P d μ := ⟨fun ⟨r, μ', e, q⟩ => by cases e; exact q, fun q => ⟨.ok d, μ, rfl, q⟩⟩
theorem wp_stop : Wp (M.stop : M a) μ P E ↔ False := ⟨fun ⟨_, _, e, _⟩ => (nomatch e), fun z => False.elim z⟩
theorem bnd_ok {m : M b} {f : b → M a} {d : b} {μ1 : List O} (h : m μ = some (.ok d, μ1)) : M.bnd m f μ = f d μ1 := by
  unfold M.bnd
  rw [h]
theorem bnd_er {m : M b} {f : b → M a} {x : Ex} {μ1 : List O} (h : m μ = some (.error x, μ1)) : M.bnd m f μ = some (.error x, μ1) := by
  unfold M.bnd
  rw [h]
theorem of_ok {m : M b} {f : b → Ms} {d : b} {μ1 : List O} (h : m μ = some (.ok d, μ1)) : Ms.of m ρ f μ = f d μ1 := by
  unfold Ms.of
  rw [h]
theorem of_er {m : M b} {f : b → Ms} {x : Ex} {μ1 : List O} (h : m μ = some (.error x, μ1)) : Ms.of m ρ f μ = some (.er x ρ, μ1) := by
  unfold Ms.of
  rw [h]
theorem wp_bnd {m : M b} {f : b → M a} : Wp (M.bnd m f) μ P E ↔ Wp m μ (fun d μ' => Wp (f d) μ' P E) E := by
  constructor
  · rintro ⟨r, μ', e, q⟩
    unfold M.bnd at e
    cases h : m μ with
    | none => rw [h] at e; cases e
    | some p =>
      obtain ⟨r1, μ1⟩ := p
      rw [h] at e
      cases r1 with
      | error x => cases e; exact ⟨.error x, _, h, q⟩
      | ok d => exact ⟨.ok d, μ1, h, r, μ', e, q⟩
  · rintro ⟨r, μ', e, q⟩
    cases r with
    | error x => exact ⟨.error x, μ', bnd_er e, q⟩
    | ok d =>
      obtain ⟨r2, μ2, e2, q2⟩ := q
      exact ⟨r2, μ2, (bnd_ok e).trans e2, q2⟩
theorem wp_ite {c : Prop} [Decidable c] {m1 m2 : M a} : Wp (if c then m1 else m2) μ P E ↔ (c → Wp m1 μ P E) ∧ (¬ c → Wp m2 μ P E) := by
  by_cases h : c
  · rw [if_pos h]; exact ⟨fun z => ⟨fun _ => z, fun n => (n h).elim⟩, fun z => z.1 h⟩
  · rw [if_neg h]; exact ⟨fun z => ⟨fun n => (h n).elim, fun _ => z⟩, fun z => z.2 h⟩
theorem wp_iteB {c : Bool} {m1 m2 : M a} : Wp (if c = true then m1 else m2) μ P E ↔ (c = true → Wp m1 μ P E) ∧ (¬ c = true → Wp m2 μ P E) := wp_ite
/-- an if with a stop in its else: the condition holds -/
theorem wp_need {c : Prop} [Decidable c] {m : M a} : Wp (if c then m else M.stop) μ P E ↔ c ∧ Wp m μ P E := by
  by_cases h : c
  · rw [if_pos h]; exact ⟨fun z => ⟨h, z⟩, fun z => z.2⟩
  · rw [if_neg h, wp_stop]; exact ⟨False.elim, fun z => h z.1⟩
theorem wp_new {o : O} {P : D → List O → Prop} : Wp (M.new o) μ P E ↔ P (.ref μ.length) (μ ++ [o]) := ⟨fun ⟨r, μ', e, q⟩ => by cases e; exact q, fun q => ⟨.ok _, _, rfl, q⟩⟩
theorem wp_lst {l : Nat} {P : List D → List O → Prop} {ds : List D} (h : μ[l]? = some (.lst ds)) : Wp (M.lst l) μ P E ↔ P ds μ := by
  constructor
  · rintro ⟨r, μ', e, q⟩
    obtain ⟨ds', h1, h2⟩ := lst_some e
    cases h2
    rw [h] at h1
    cases h1
    exact q
  · intro q
    exact ⟨.ok ds, μ, by unfold M.lst; rw [h], q⟩
theorem ws_of {m : M b} {f : b → Ms} : Ws (Ms.of m ρ f) μ S ↔ Wp m μ (fun d μ' => Ws (f d) μ' S) (fun x μ' => S (.er x ρ) μ') := by
  constructor
  · rintro ⟨r, μ', e, q⟩
    unfold Ms.of at e
    cases h : m μ with
    | none => rw [h] at e; cases e
    | some p =>
      obtain ⟨r1, μ1⟩ := p
      rw [h] at e
      cases r1 with
      | error x => cases e; exact ⟨.error x, _, h, q⟩
      | ok d => exact ⟨.ok d, μ1, h, r, μ', e, q⟩
  · rintro ⟨r, μ', e, q⟩
    cases r with
    | error x => exact ⟨_, μ', of_er e, q⟩
    | ok d =>
      obtain ⟨r2, μ2, e2, q2⟩ := q
      exact ⟨r2, μ2, (of_ok e).trans e2, q2⟩
theorem ws_some {r : SR} : Ws (fun μ => some (r, μ)) μ S ↔ S r μ := ⟨fun ⟨_, _, e, q⟩ => by cases e; exact q, fun q => ⟨_, _, rfl, q⟩⟩
theorem ws_ite {c : Prop} [Decidable c] {m1 m2 : Ms} : Ws (if c then m1 else m2) μ S ↔ (c → Ws m1 μ S) ∧ (¬ c → Ws m2 μ S) := by
  by_cases h : c
  · rw [if_pos h]; exact ⟨fun z => ⟨fun _ => z, fun n => (n h).elim⟩, fun z => z.1 h⟩
  · rw [if_neg h]; exact ⟨fun z => ⟨fun n => (h n).elim, fun _ => z⟩, fun z => z.2 h⟩
/-- what a block wants behind its first statement -/
def Nx (r : CB) (S : SR → List O → Prop) : SR → List O → Prop := fun x μ' => match x with
  | .nx ρ1 => Ws (r.run ρ1) μ' S
  | x => S x μ'
theorem ws_cons {s : CS} {r : CB} : Ws ((bCons s r).run ρ) μ S ↔ Ws (s.run ρ) μ (Nx r S) := by
  constructor
  · rintro ⟨q, μ', e, z⟩
    dsimp only [bCons] at e
    cases h : s.run ρ μ with
    | none => rw [h] at e; cases e
    | some p =>
      obtain ⟨r1, μ1⟩ := p
      rw [h] at e
      cases r1 with
      | nx ρ1 => exact ⟨.nx ρ1, μ1, h, q, μ', e, z⟩
      | _ => cases e; exact ⟨_, _, h, z⟩
  · rintro ⟨q, μ', e, z⟩
    unfold Ws
    dsimp only [bCons]
    rw [e]
    cases q with
    | nx ρ1 => exact z
    | _ => exact ⟨_, _, rfl, z⟩
theorem ws_nil : Ws (bNil.run ρ) μ S ↔ S (.nx ρ) μ := ⟨fun ⟨_, _, e, q⟩ => by cases e; exact q, fun q => ⟨_, _, rfl, q⟩⟩
/-- what a def wants behind its block -/
def Fn (P : D → List O → Prop) (E : Ex → List O → Prop) : SR → List O → Prop := fun x μ' => match x with
  | .nx _ => P .non μ'
  | .rt d => P d μ'
  | .er x _ => E x μ'
  | _ => False
theorem wp_mir {N np : Nat} {run : Env → Ms} {ds : List D} {P : D → List O → Prop} : Wp (mir N np run ds) μ P E ↔ ds.length = np ∧ Ws (run (ds.map some ++ List.replicate (N - np) none)) μ (Fn P E) := by
  constructor
  · rintro ⟨r, μ', e, q⟩
    have hl := mir_len e
    refine ⟨hl, ?_⟩
    unfold mir at e
    rw [if_pos hl] at e
    cases h : run (ds.map some ++ List.replicate (N - np) none) μ with
    | none => rw [h] at e; cases e
    | some p =>
      obtain ⟨r1, μ1⟩ := p
      rw [h] at e
      cases r1 with
      | nx ρ1 => cases e; exact ⟨_, _, h, q⟩
      | rt d => cases e; exact ⟨_, _, h, q⟩
      | er x ρ1 => cases e; exact ⟨_, _, h, q⟩
      | _ => cases e
  · rintro ⟨hl, r, μ', e, q⟩
    unfold Wp mir
    rw [if_pos hl, e]
    cases r with
    | nx ρ1 => exact ⟨.ok .non, μ', rfl, q⟩
    | rt d => exact ⟨.ok d, μ', rfl, q⟩
    | er x ρ1 => exact ⟨.error x, μ', rfl, q⟩
    | bk ρ1 => exact q.elim
    | ct ρ1 => exact q.elim
theorem nx_nx {r : CB} {ρ1 : Env} : Nx r S (.nx ρ1) μ ↔ Ws (r.run ρ1) μ S := Iff.rfl
theorem nx_rt {r : CB} {d : D} : Nx r S (.rt d) μ ↔ S (.rt d) μ := Iff.rfl
theorem nx_bk {r : CB} {ρ1 : Env} : Nx r S (.bk ρ1) μ ↔ S (.bk ρ1) μ := Iff.rfl
theorem nx_ct {r : CB} {ρ1 : Env} : Nx r S (.ct ρ1) μ ↔ S (.ct ρ1) μ := Iff.rfl
theorem nx_er {r : CB} {x : Ex} {ρ1 : Env} : Nx r S (.er x ρ1) μ ↔ S (.er x ρ1) μ := Iff.rfl
theorem fn_nx {P : D → List O → Prop} {ρ1 : Env} : Fn P E (.nx ρ1) μ ↔ P .non μ := Iff.rfl
theorem fn_rt {P : D → List O → Prop} {d : D} : Fn P E (.rt d) μ ↔ P d μ := Iff.rfl
theorem fn_er {P : D → List O → Prop} {x : Ex} {ρ1 : Env} : Fn P E (.er x ρ1) μ ↔ E x μ := Iff.rfl
end
/-! ### the codes' runs, one step -/
section
variable {ρ : Env} {a b c : CE} {t u : CT}
theorem r_var {i : Nat} : (cVar i).run ρ = getV i ρ := rfl
theorem getV_is {i : Nat} {d : D} (h : ρ[i]? = some (some d)) : getV i ρ = M.ret d := by unfold getV; rw [h]
theorem r_int {i : Int} : (cInt i).run ρ = M.ret (.int i) := rfl
theorem r_bl {i : Bool} : (cBl i).run ρ = M.ret (.bl i) := rfl
theorem r_str {i : Str} : (cStr i).run ρ = M.ret (.str i) := rfl
theorem r_non : cNon.run ρ = M.ret .non := rfl
theorem r_glo {x : Str} {d : D} : (cGlo x d).run ρ = M.ret d := rfl
theorem r_nil : aNil.run ρ = M.ret [] := rfl
theorem r_cons {cs : CA} : (aCons a cs).run ρ = M.bnd (a.run ρ) fun d => M.bnd (cs.run ρ) fun ds => M.ret (d :: ds) := rfl
theorem r_tup {cs : CA} : (cTup cs).run ρ = M.bnd (cs.run ρ) fun ds => if ds.length ≤ sizeLine then M.ret (.tup ds) else M.stop := rfl
theorem r_lst {cs : CA} : (cLst cs).run ρ = M.bnd (cs.run ρ) fun ds => if ds.length ≤ sizeLine then M.new (.lst ds) else M.stop := rfl
theorem r_bin {op : Operator} {f : D → D → M D} : (cBin op f a b).run ρ = M.bnd (a.run ρ) fun x => M.bnd (b.run ρ) fun y => f x y := rfl
theorem r_cmp {op : CmpOp} {f : D → D → M D} : (cCmp op f a b).run ρ = M.bnd (a.run ρ) fun x => M.bnd (b.run ρ) fun y => f x y := rfl
theorem r_tcmp {op : CmpOp} {f : D → D → M D} : (tCmpC op f a b).run ρ = M.bnd (M.bnd (a.run ρ) fun x => M.bnd (b.run ρ) fun y => f x y) asB := rfl
theorem r_tval : (tVal a).run ρ = M.bnd (a.run ρ) asB := rfl
theorem r_tnot : (tNotC t).run ρ = M.bnd (t.run ρ) fun b => M.ret (!b) := rfl
theorem r_and1 : (wAnd1 t).run ρ = t.run ρ := rfl
theorem r_or1 : (wOr1 t).run ρ = t.run ρ := rfl
theorem r_and : (wAnd t u).run ρ = M.bnd (t.run ρ) fun c => if c = true then u.run ρ else M.ret false := rfl
theorem r_or : (wOr t u).run ρ = M.bnd (t.run ρ) fun c => if c = true then M.ret true else u.run ρ := rfl
theorem r_if : (cIf t a b).run ρ = M.bnd (t.run ρ) fun c => if c = true then a.run ρ else b.run ρ := rfl
theorem r_vone {op : PySem.BoolOp} : (vOne op a).run ρ = a.run ρ := rfl
theorem r_vand : (vAnd a b).run ρ = M.bnd (M.bnd (a.run ρ) asB) fun c => if c = true then b.run ρ else M.ret (.bl false) := rfl
theorem r_vor : (vOr a b).run ρ = M.bnd (M.bnd (a.run ρ) asB) fun c => if c = true then M.ret (.bl true) else b.run ρ := rfl
theorem r_not : (cNot a).run ρ = M.bnd (M.bnd (a.run ρ) asB) fun b => M.ret (.bl (!b)) := rfl
theorem r_neg : (cNeg a).run ρ = M.bnd (a.run ρ) negD := rfl
theorem r_chain {op op' : CmpOp} {f f' : D → D → M D} : (cChain op op' f f' a b c).run ρ = M.bnd (a.run ρ) fun x => M.bnd (b.run ρ) fun y => M.bnd (M.bnd (f x y) asB) fun t => if t = true then M.bnd (c.run ρ) fun z => f' y z else M.ret (.bl false) := rfl
theorem r_tchain {op op' : CmpOp} {f f' : D → D → M D} : (tChainC op op' f f' a b c).run ρ = M.bnd ((cChain op op' f f' a b c).run ρ) asB := rfl
theorem r_ix : (cIx a b).run ρ = M.bnd (a.run ρ) fun x => M.bnd (b.run ρ) fun y => ixD x y := rfl
theorem r_slice {lo hi : CO} : (cSlice a lo hi).run ρ = M.bnd (a.run ρ) fun x => M.bnd (lo.run ρ) fun l => M.bnd (hi.run ρ) fun h => slD x l h := rfl
theorem r_ono : oNo.run ρ = M.ret none := rfl
theorem r_oyes : (oYes a).run ρ = M.bnd (a.run ρ) asI := rfl
theorem r_B {x : Str} {f : List D → M D} {cs : CA} : (cB x f cs).run ρ = M.bnd (cs.run ρ) f := rfl
theorem r_call {x : Str} {f : List D → M D} {cs : CA} : (cCall x f cs).run ρ = M.bnd (cs.run ρ) f := rfl
theorem r_call0 {x : Str} {f : List D → M D} : (cCall0 x f).run ρ = f [] := rfl
theorem r_isi {x : Str} {T : String} : (cIsi x T a).run ρ = M.bnd (a.run ρ) (isiD T) := rfl
theorem r_dict1 : (cDict1 a b).run ρ = withNew (.dct []) fun l => M.bnd (a.run ρ) fun x => M.bnd (b.run ρ) fun y => match keyD x with
    | some kk => setEmpty l [(kk, y)]
    | none => M.stop := rfl
theorem r_rev : (cRev a).run ρ = M.bnd (a.run ρ) revD := rfl
theorem r_J {c : CJ} : (cJ c).run ρ = M.bnd (c.run ρ Str.empty) fun a => M.ret (.str a) := rfl
theorem j_nil {acc : Str} : jNil.run ρ acc = M.ret acc := rfl
theorem j_lit {z acc : Str} {c : CJ} : (jLit z c).run ρ acc = M.bnd (putJ acc z) fun a => c.run ρ a := rfl
theorem j_fmt {acc : Str} {c : CJ} : (jFmt a c).run ρ acc = M.bnd (a.run ρ) fun d => M.bnd (fmtD d) fun y => M.bnd (putJ acc y) fun a => c.run ρ a := rfl
theorem s_par3 {i j l : Nat} : (sPar3 i j l a b c).run ρ = Ms.of (M.bnd (a.run ρ) fun x => M.bnd (b.run ρ) fun y => M.bnd (c.run ρ) fun z => M.ret (x, y, z)) ρ fun (p : D × D × D) μ => some (.nx (((ρ.set i (some p.1)).set j (some p.2.1)).set l (some p.2.2)), μ) := rfl
theorem r_callK {x : Str} {ks : List Str} {perm : List Nat} {m : List D → M D} {cs : CK} : (cCallK x ks perm m cs).run ρ = M.bnd (cs.run ρ) fun ds => if ds.length = ks.length then m (permL perm ds) else M.stop := rfl
theorem r_kNil : kNil.run ρ = M.ret [] := rfl
theorem r_kCons {cs : CK} : (kCons a cs).run ρ = M.bnd (a.run ρ) fun d => M.bnd (cs.run ρ) fun ds => M.ret (d :: ds) := rfl
theorem r_m0 {T name : String} {f : D → List D → M D} : (cM0 T name f a).run ρ = M.bnd (a.run ρ) fun x => M.bnd (isT T x) fun _ => f x [] := rfl
theorem r_m {T name : String} {f : D → List D → M D} {cs : CA} : (cM T name f a cs).run ρ = M.bnd (a.run ρ) fun x => M.bnd (isT T x) fun _ => M.bnd (cs.run ρ) fun ds => f x ds := rfl
theorem i_A : (iA a).run ρ = M.bnd (a.run ρ) anyW := rfl
theorem i_En : (iEn a).run ρ = M.bnd (a.run ρ) enW := rfl
theorem i_Zp : (iZp a b).run ρ = M.bnd (a.run ρ) fun x => M.bnd (b.run ρ) fun y => zipW x y := rfl
theorem f_nil : fNil.run ρ = M.ret true := rfl
theorem f_one : (fOne t).run ρ = t.run ρ := rfl
theorem s_asg2 {g : CG} : (sAsg2 g a).run ρ = (sAsg g a).run ρ := rfl
theorem s_setLc {i : Nat} {it : CI} {g : CG} {f : CF} {e : CE} {vs : List (Str × Nat)} : (sSetLc i it g f e vs).run ρ = (sAsg (gN i) (cLc it g f e vs)).run ρ := rfl
/-- a comprehension behind its source -/
def lcM (w : Wk) (g : CG) (f : Env → M Bool) (e : Env → M D) (ρ : Env) : M D := fun μ => lcRun w g f e μ.length ρ w.fuel 0 (μ ++ [.lst []])
theorem r_lc {it : CI} {g : CG} {f : CF} {e : CE} {vs : List (Str × Nat)} : (cLc it g f e vs).run ρ = M.bnd (it.run ρ) fun w => lcM w g f.run e.run (wipeE ρ (vs.map (·.2))) := rfl
theorem s_asg {g : CG} : (sAsg g a).run ρ = Ms.of (a.run ρ) ρ fun d μ => match g.run d ρ μ with
  | some (ρ1, μ1) => some (.nx ρ1, μ1)
  | none => none := rfl
theorem s_expr : (sExpr a).run ρ = Ms.of (a.run ρ) ρ fun _ μ => some (.nx ρ, μ) := rfl
theorem s_ret : (sRet a).run ρ = Ms.of (a.run ρ) ρ fun d μ => some (.rt d, μ) := rfl
theorem s_if {x y : CB} : (sIf t x y).run ρ = Ms.of (t.run ρ) ρ fun c => if c = true then x.run ρ else y.run ρ := rfl
theorem s_par {i j : Nat} : (sPar i j a b).run ρ = Ms.of (M.bnd (a.run ρ) fun x => M.bnd (b.run ρ) fun y => M.ret (x, y)) ρ fun (p : D × D) μ => some (.nx ((ρ.set i (some p.1)).set j (some p.2)), μ) := rfl
theorem s_while {m : Env → Nat} {b : CB} : (sWhile m t b).run ρ = whl t.run b.run (m ρ) ρ := rfl
theorem s_for {g : CG} {it : CI} {b : CB} : (sFor g it b).run ρ = Ms.of (it.run ρ) ρ fun w => forRun w g b w.fuel 0 ρ := rfl
theorem s_brk : sBrk.run ρ = fun μ => some (.bk ρ, μ) := rfl
theorem s_cont : sCont.run ρ = fun μ => some (.ct ρ, μ) := rfl
theorem s_pass : sPass.run ρ = fun μ => some (.nx ρ, μ) := rfl
theorem s_retN : sRetN.run ρ = fun μ => some (.rt .non, μ) := rfl
theorem i_T : (iT a).run ρ = M.bnd (a.run ρ) tupW := rfl
theorem i_L : (iL a).run ρ = M.bnd (a.run ρ) seqW := rfl
theorem i_R1 : (iR1 a).run ρ = M.bnd (a.run ρ) rngW1 := rfl
theorem i_R2 : (iR2 a b).run ρ = M.bnd (a.run ρ) fun x => M.bnd (b.run ρ) fun y => rngW2 x y := rfl
end
/-! ### places of lists, stores to them -/
theorem ixN_nat {n j : Nat} (h : j < n) : ixN n (j : Int) = some j := by
  unfold ixN
  rw [if_pos (by omega), if_pos (by omega)]
  simp
theorem ixN_0 {n : Nat} (h : 0 < n) : ixN n 0 = some 0 := ixN_nat (j := 0) h
theorem ixN_1 {n : Nat} (h : 1 < n) : ixN n 1 = some 1 := ixN_nat (j := 1) h
theorem ixN_2 {n : Nat} (h : 2 < n) : ixN n 2 = some 2 := ixN_nat (j := 2) h
theorem atD_nat {ds : List D} {j : Nat} {d : D} (h : ds[j]? = some d) : atD ds (j : Int) = M.ret d := by
  unfold atD
  rw [atI_nat h]
theorem atD_0 {a : D} {r : List D} : atD (a :: r) 0 = M.ret a := atD_nat (j := 0) rfl
theorem atD_1 {a b : D} {r : List D} : atD (a :: b :: r) 1 = M.ret b := atD_nat (j := 1) rfl
theorem atD_2 {a b c : D} {r : List D} : atD (a :: b :: c :: r) 2 = M.ret c := atD_nat (j := 2) rfl
theorem atD_last {r : List D} {a : D} : atD (r ++ [a]) (-1) = M.ret a := by
  unfold atD
  rw [atI_last]
/-- some item at a place within -/
theorem atD_some {ds : List D} {i : Int} (h0 : 0 ≤ i) (h1 : i < ds.length) : ∃ d, d ∈ ds ∧ atD ds i = M.ret d := by
  obtain ⟨j, rfl⟩ : ∃ j : Nat, i = j := ⟨i.toNat, by omega⟩
  have hj : j < ds.length := by omega
  exact ⟨ds[j], List.getElem_mem hj, atD_nat (List.getElem?_eq_getElem hj)⟩
theorem wp_at {ds : List D} {i : Int} {μ : List O} {P : D → List O → Prop} {E : Ex → List O → Prop} (h0 : 0 ≤ i) (h1 : i < ds.length) (k : ∀ d, d ∈ ds → P d μ) : Wp (atD ds i) μ P E := by
  obtain ⟨d, hm, e⟩ := atD_some h0 h1
  rw [e, wp_ret]
  exact k d hm
theorem ix_ref {l : Nat} {i : Int} : ixD (.ref l) (.int i) = M.bnd (M.lst l) fun ds => atD ds i := rfl
theorem ix_tup {ds : List D} {i : Int} : ixD (.tup ds) (.int i) = atD ds i := rfl
theorem ix_fro {ds : List D} {i : Int} : ixD (.fro ds) (.int i) = atD ds i := rfl
/-- xs[i] = d -/
theorem ws_gS {a b : CE} {d : D} {ρ : Env} {μ : List O} {S : SR → List O → Prop} : Ws (fun μ => match (gS a b).run d ρ μ with
    | some (ρ1, μ1) => some (.nx ρ1, μ1)
    | none => none) μ S ↔ Wp (M.bnd (a.run ρ) fun o => M.bnd (b.run ρ) fun i => M.ret (o, i)) μ (fun oi μ1 => ∃ μ2, setL d oi.1 oi.2 μ1 = some μ2 ∧ S (.nx ρ) μ2) (fun _ _ => False) := by
  constructor
  · rintro ⟨r, μ', e, q⟩
    dsimp only [gS] at e
    cases h : M.bnd (a.run ρ) (fun o => M.bnd (b.run ρ) fun i => M.ret (o, i)) μ with
    | none => rw [h] at e; cases e
    | some p =>
      obtain ⟨r1, μ1⟩ := p
      rw [h] at e
      cases r1 with
      | error x => cases e
      | ok oi =>
        obtain ⟨o, i⟩ := oi
        dsimp only at e
        cases h2 : setL d o i μ1 with
        | none => rw [h2] at e; cases e
        | some μ2 =>
          rw [h2] at e
          cases e
          exact ⟨_, _, h, μ', h2, q⟩
  · rintro ⟨r, μ1, e, q⟩
    cases r with
    | error x => exact q.elim
    | ok oi =>
      obtain ⟨o, i⟩ := oi
      obtain ⟨μ2, h2, q⟩ := q
      refine ⟨.nx ρ, μ2, ?_, q⟩
      dsimp only [gS]
      rw [e]
      dsimp only at h2 ⊢
      rw [h2]
      rfl
theorem setL_at {d : D} {l n : Nat} {j : Int} {μ : List O} {ds : List D} (h : μ[l]? = some (.lst ds)) (hj : ixN ds.length j = some n) : setL d (.ref l) (.int j) μ = some (μ.set l (.lst (ds.set n d))) := by
  dsimp only [setL]
  rw [h]
  dsimp only
  rw [hj]
theorem ws_asgN {i : Nat} {a : CE} {ρ : Env} {μ : List O} {S : SR → List O → Prop} : Ws ((sAsg (gN i) a).run ρ) μ S ↔ Wp (a.run ρ) μ (fun d μ' => S (.nx (ρ.set i (some d))) μ') (fun x μ' => S (.er x ρ) μ') := by
  rw [s_asg, ws_of]
  constructor
  · exact fun h => h.mono (fun d μ' q => ws_some.mp q) fun _ _ z => z
  · exact fun h => h.mono (fun d μ' q => ws_some.mpr q) fun _ _ z => z
theorem ws_asgT {g : CGs} {n : Nat} {a : CE} {ρ : Env} {μ : List O} {S : SR → List O → Prop} : Ws ((sAsg (gT g n) a).run ρ) μ S ↔ Wp (a.run ρ) μ (fun d μ' => ∃ ds, d = .tup ds ∧ ds.length = n ∧ ∃ ρ1 μ1, g.run ds ρ μ' = some (ρ1, μ1) ∧ S (.nx ρ1) μ1) (fun x μ' => S (.er x ρ) μ') := by
  rw [s_asg, ws_of]
  have key : ∀ d μ', Ws (fun μ => match (gT g n).run d ρ μ with
      | some (ρ1, μ1) => some (.nx ρ1, μ1)
      | none => none) μ' S ↔ ∃ ds, d = .tup ds ∧ ds.length = n ∧ ∃ ρ1 μ1, g.run ds ρ μ' = some (ρ1, μ1) ∧ S (.nx ρ1) μ1 := by
    intro d μ'
    constructor
    · rintro ⟨r, μ2, e, q⟩
      cases d with
      | tup ds =>
        dsimp only [gT] at e
        by_cases h : ds.length = n
        · rw [if_pos h] at e
          cases h2 : g.run ds ρ μ' with
          | none => rw [h2] at e; cases e
          | some p =>
            obtain ⟨ρ1, μ1⟩ := p
            rw [h2] at e
            cases e
            exact ⟨ds, rfl, h, _, _, h2, q⟩
        · rw [if_neg h] at e
          cases e
      | _ => cases e
    · rintro ⟨ds, rfl, h, ρ1, μ1, h2, q⟩
      refine ⟨.nx ρ1, μ1, ?_, q⟩
      dsimp only [gT]
      rw [if_pos h, h2]
  constructor
  · exact fun h => h.mono (fun d μ' q => (key d μ').mp q) fun _ _ z => z
  · exact fun h => h.mono (fun d μ' q => (key d μ').mpr q) fun _ _ z => z
theorem gs_cons {i : Nat} {g : CGs} {d : D} {ds : List D} {ρ : Env} {μ : List O} : (gsCons (gN i) g).run (d :: ds) ρ μ = g.run ds (ρ.set i (some d)) μ := rfl
theorem gs_nil {ρ : Env} {μ : List O} : gsNil.run [] ρ μ = some (ρ, μ) := rfl
theorem ex_tup {ds : List D} {P : List D → Prop} : (∃ es, D.tup ds = .tup es ∧ P es) ↔ P ds := ⟨fun ⟨_, e, q⟩ => by cases e; exact q, fun q => ⟨_, rfl, q⟩⟩
theorem ex_pr {ρ : Env} {μ : List O} {P : Env → List O → Prop} : (∃ ρ1 μ1, some (ρ, μ) = some (ρ1, μ1) ∧ P ρ1 μ1) ↔ P ρ μ := ⟨fun ⟨_, _, e, q⟩ => by cases e; exact q, fun q => ⟨_, _, rfl, q⟩⟩
theorem ws_asgS {a b c : CE} {ρ : Env} {μ : List O} {S : SR → List O → Prop} : Ws ((sAsg (gS a b) c).run ρ) μ S ↔ Wp (c.run ρ) μ (fun d μ' => Wp (M.bnd (a.run ρ) fun o => M.bnd (b.run ρ) fun i => M.ret (o, i)) μ' (fun oi μ1 => ∃ μ2, setL d oi.1 oi.2 μ1 = some μ2 ∧ S (.nx ρ) μ2) (fun _ _ => False)) (fun x μ' => S (.er x ρ) μ') := by
  rw [s_asg, ws_of]
  constructor
  · exact fun h => h.mono (fun d μ' q => ws_gS.mp q) fun _ _ z => z
  · exact fun h => h.mono (fun d μ' q => ws_gS.mpr q) fun _ _ z => z

/-! ### the operations at what is known -/
section
variable {i j : Int} {p q : Bool} {x y : Str} {xs ys : List D} {l m : Nat} {d : D} {lo hi : Option Int}
theorem o_add : addD (.int i) (.int j) = M.ret (.int (i + j)) := rfl
theorem o_addS : addD (.str x) (.str y) = if x.length + y.length ≤ sizeLine then M.ret (.str (x ++ y)) else M.stop := rfl
theorem o_addT : addD (.tup xs) (.tup ys) = if xs.length + ys.length ≤ sizeLine then M.ret (.tup (xs ++ ys)) else M.stop := rfl
theorem o_addL : addD (.ref l) (.ref m) = M.bnd (M.lst l) fun xs => M.bnd (M.lst m) fun ys => newL (xs ++ ys) := rfl
theorem o_sub : subD (.int i) (.int j) = M.ret (.int (i - j)) := rfl
theorem o_mul : mulD (.int i) (.int j) = if mulOk i j then M.ret (.int (i * j)) else M.stop := rfl
theorem o_fdiv : fdivD (.int i) (.int j) = if divOk j then M.ret (.int (i.fdiv j)) else M.stop := rfl
theorem o_mod : modD (.int i) (.int j) = if j ≠ 0 then M.ret (.int (i.fmod j)) else M.stop := rfl
theorem o_pow : powD (.int i) (.int j) = if powOk i j then M.ret (.int (i ^ j.toNat)) else M.stop := rfl
theorem o_neg : negD (.int i) = M.ret (.int (-i)) := rfl
theorem o_lt : ltD (.int i) (.int j) = M.ret (.bl (decide (i < j))) := rfl
theorem o_le : leD (.int i) (.int j) = M.ret (.bl (decide (i ≤ j))) := rfl
theorem o_gt : gtD (.int i) (.int j) = M.ret (.bl (decide (j < i))) := rfl
theorem o_ge : geD (.int i) (.int j) = M.ret (.bl (decide (j ≤ i))) := rfl
theorem o_eq : eqD (.int i) (.int j) = M.ret (.bl (decide (i = j))) := rfl
theorem o_eqS : eqD (.str x) (.str y) = M.ret (.bl (decide (x = y))) := rfl
theorem o_eqB : eqD (.bl p) (.bl q) = M.ret (.bl (decide (p = q))) := rfl
theorem o_ne : neD (.int i) (.int j) = M.ret (.bl (!decide (i = j))) := rfl
theorem o_neS : neD (.str x) (.str y) = M.ret (.bl (!decide (x = y))) := rfl
theorem o_neB : neD (.bl p) (.bl q) = M.ret (.bl (!decide (p = q))) := rfl
theorem o_is : isD d .non = M.ret (.bl (isNone d)) := rfl
theorem o_isn : isnD d .non = M.ret (.bl (!isNone d)) := rfl
theorem o_asB : asB (.bl p) = M.ret p := rfl
theorem o_asI : asI (.int i) = M.ret (some i) := rfl
theorem o_lenT : lenD [.tup xs] = M.ret (.int xs.length) := rfl
theorem o_lenF : lenD [.fro xs] = M.ret (.int xs.length) := rfl
theorem o_lenL : lenD [.ref l] = M.bnd (M.lst l) fun ds => M.ret (.int ds.length) := rfl
theorem o_abs : absD [.int i] = M.ret (.int (if i < 0 then -i else i)) := rfl
theorem o_abs' : absD [.int i] = M.ret (.int (i.natAbs : Int)) := by
  have e : (if i < 0 then -i else i) = (i.natAbs : Int) := by split <;> omega
  rw [o_abs, e]
theorem o_int : intTx [.int i] = M.ret (.int i) := rfl
theorem o_intB : intTx [.bl p] = M.ret (.int (if p then 1 else 0)) := rfl
theorem o_isBt : isBD false (.bl p) (.bl q) = M.ret (.bl (decide (p = q))) := rfl
theorem o_isBn : isBD true (.bl p) (.bl q) = M.ret (.bl (!decide (p = q))) := rfl
theorem o_put : putJ x y = if (x ++ y).length ≤ sizeLine then M.ret (x ++ y) else M.stop := rfl
theorem o_fmtI : fmtD (.int i) = if i.natAbs.log2 < 1920 then M.ret (Str.ofString (toString i)) else M.stop := rfl
theorem o_fmtS : fmtD (.str x) = if x.length ≤ sizeLine then M.ret x else M.stop := rfl
theorem o_sw : swD (.str x) [.str y] = M.ret (.bl (Txt.startswith x y)) := rfl
theorem o_ls : lsD (.str x) [.str y] = if x.length ≤ sizeLine then M.ret (.str (Txt.lstripChars x y)) else M.stop := rfl
theorem o_part : partD (.str x) [.str y] = if (y.length == 0) = false ∧ x.length ≤ sizeLine then M.ret (.tup [.str (Txt.partition x y).1, .str (Txt.partition x y).2.1, .str (Txt.partition x y).2.2]) else M.stop := rfl
theorem o_str : strD [.int i] = if i.natAbs.log2 < 1920 then M.ret (.str (toString i)) else M.stop := rfl
theorem o_slT : slD (.tup xs) lo hi = M.ret (.tup (cutD xs lo hi)) := rfl
theorem o_slF : slD (.fro xs) lo hi = M.new (.lst (cutD xs lo hi)) := rfl
theorem o_slL : slD (.ref l) lo hi = M.bnd (M.lst l) fun ds => M.new (.lst (cutD ds lo hi)) := rfl
theorem o_listT : listD [.tup xs] = M.new (.lst xs) := rfl
theorem o_listF : listD [.fro xs] = M.new (.lst xs) := rfl
theorem o_listL : listD [.ref l] = M.bnd (M.lst l) fun ds => M.new (.lst ds) := rfl
theorem o_tupT : tupleD [.tup xs] = M.ret (.tup xs) := rfl
theorem o_tupL : tupleD [.ref l] = M.bnd (M.lst l) fun ds => M.ret (.tup ds) := rfl
theorem o_newL : newL xs = if xs.length ≤ sizeLine then M.new (.lst xs) else M.stop := rfl
theorem o_revT : revD (.tup xs) = M.ret (.tup xs.reverse) := rfl
theorem o_revL : revD (.ref l) = M.bnd (M.lst l) fun ds => M.new (.lst ds.reverse) := rfl
theorem o_max : maxD [.int i, .int j] = M.ret (.int (if j > i then j else i)) := rfl
theorem o_min : minD [.int i, .int j] = M.ret (.int (if j < i then j else i)) := rfl
theorem o_all : allD [.ref l] = M.bnd (M.lst l) fun ds => match blsOf ds with
    | some bs => M.ret (.bl (bs.all id))
    | none => M.stop := rfl
theorem o_any : anyD [.ref l] = M.bnd (M.lst l) fun ds => match blsOf ds with
    | some bs => M.ret (.bl (bs.any id))
    | none => M.stop := rfl
theorem o_aT : anyW (.tup xs) = M.ret (wkOf xs) := rfl
theorem o_aF : anyW (.fro xs) = M.ret (wkOf xs) := rfl
theorem o_aL : anyW (.ref l) = M.bnd (M.lst l) fun ds => M.ret (wkL l ds.length) := rfl
theorem o_aS : anyW (.str x) = M.ret (wkS x) := rfl
theorem o_enT : enW (.tup xs) = M.ret (wkE (wkOf xs)) := rfl
theorem o_enL : enW (.ref l) = M.bnd (M.lst l) fun ds => M.ret (wkE (wkL l ds.length)) := rfl
theorem o_zipT : zipW (.tup xs) (.tup ys) = M.ret (wkZ (wkOf xs) (wkOf ys)) := rfl
theorem o_zipL : zipW (.ref l) (.ref m) = M.bnd (M.lst l) fun ds => M.bnd (M.lst m) fun es => M.ret (wkZ (wkL l ds.length) (wkL m es.length)) := rfl
theorem fuelE {w : Wk} : (wkE w).fuel = w.fuel := rfl
theorem fuelZ {w u : Wk} : (wkZ w u).fuel = w.fuel := rfl
theorem fuelS : (wkS x).fuel = x.cps.size := rfl
/-- a list put behind itself -/
def repL (n : Nat) (xs : List D) : List D := (List.replicate n xs).flatten
theorem o_mulL : mulD (.ref l) (.int i) = M.bnd (M.lst l) fun xs => if -(2 ^ 63) ≤ i ∧ i < 2 ^ 63 then newL (repL i.toNat xs) else M.stop := rfl
theorem o_mulS {i : Int} : mulD (.str x) (.int i) = if -(2 ^ 63) ≤ i ∧ i < 2 ^ 63 ∧ x.cps.toList.length * i.toNat ≤ sizeLine then M.ret (.str (repS x i.toNat)) else M.stop := rfl
theorem o_isTL {μ : List O} {E : Ex → List O → Prop} {P : Unit → List O → Prop} : Wp (isT "list" (.ref l)) μ P E ↔ ∃ ds, μ[l]? = some (.lst ds) ∧ P () μ := by
  constructor
  · rintro ⟨r, μ', e, q⟩
    dsimp only [isT] at e
    cases h : μ[l]? with
    | none => rw [h] at e; cases e
    | some o =>
      rw [h] at e
      cases o with
      | dct z =>
        dsimp only at e
        rw [if_neg (by decide)] at e
        cases e
      | lst z =>
        dsimp only at e
        rw [if_pos rfl] at e
        cases e
        exact ⟨z, rfl, q⟩
  · rintro ⟨ds, h, q⟩
    refine ⟨.ok (), μ, ?_, q⟩
    dsimp only [isT]
    rw [h]
    rfl
theorem o_isTS {x : Str} : isT "str" (.str x) = M.ret () := rfl
theorem wp_app {d : D} {μ : List O} {E : Ex → List O → Prop} {P : D → List O → Prop} : Wp (appD (.ref l) [d]) μ P E ↔ ∃ ds, μ[l]? = some (.lst ds) ∧ ds.length < sizeLine ∧ P .non (μ.set l (.lst (ds ++ [d]))) := by
  unfold Wp appD
  dsimp only
  cases h : μ[l]? with
  | none => simp
  | some o =>
    cases o with
    | dct z => simp
    | lst z =>
      dsimp only
      constructor
      · rintro ⟨r, μ', e, q⟩
        split at e
        · rename_i hz
          cases e
          exact ⟨z, rfl, hz, q⟩
        · cases e
      · rintro ⟨ds, e, hz, q⟩
        cases e
        rw [if_pos hz]
        exact ⟨_, _, rfl, q⟩
theorem wp_pop {μ : List O} {E : Ex → List O → Prop} {P : D → List O → Prop} : Wp (popD (.ref l) []) μ P E ↔ ∃ ds, μ[l]? = some (.lst ds) ∧ ∃ y, ds[ds.length - 1]? = some y ∧ P y (μ.set l (.lst ds.dropLast)) := by
  unfold Wp popD
  dsimp only
  cases h : μ[l]? with
  | none => simp
  | some o =>
    cases o with
    | dct z => simp
    | lst z =>
      dsimp only
      cases hy : z[z.length - 1]? with
      | none =>
        constructor
        · rintro ⟨r, μ', e, q⟩
          cases e
        · rintro ⟨ds, e, y, hz, q⟩
          cases e
          rw [hy] at hz
          cases hz
      | some y =>
        constructor
        · rintro ⟨r, μ', e, q⟩
          cases e
          exact ⟨z, rfl, y, hy, q⟩
        · rintro ⟨ds, e, y', hz, q⟩
          cases e
          rw [hy] at hz
          cases hz
          exact ⟨_, _, rfl, q⟩
theorem o_seqF : seqW (.fro xs) = M.ret (wkOf xs) := rfl
theorem o_seqL : seqW (.ref l) = M.bnd (M.lst l) fun ds => M.ret (wkL l ds.length) := rfl
theorem o_tupW : tupW (.tup xs) = M.ret (wkOf xs) := rfl
theorem o_rng1 : rngW1 (.int i) = if ok62 i then M.ret (wkR 0 i.toNat) else M.stop := rfl
theorem o_rng2 : rngW2 (.int i) (.int j) = if ok62 i ∧ ok62 j then M.ret (wkR i (j - i).toNat) else M.stop := rfl
theorem fuelOf : (wkOf xs).fuel = xs.length := rfl
theorem fuelL : (wkL l m).fuel = m := rfl
theorem fuelR : (wkR i m).fuel = m := rfl
theorem wp_isi {T : String} {μ : List O} {P : D → List O → Prop} {E : Ex → List O → Prop} : Wp (isiD T d) μ P E ↔ ∃ n, tyN μ d = some n ∧ P (.bl (isSub n T)) μ := by
  unfold Wp isiD
  cases h : tyN μ d with
  | none => simp
  | some n =>
    constructor
    · rintro ⟨r, μ', e, q⟩
      cases e
      exact ⟨n, rfl, q⟩
    · rintro ⟨m, e, q⟩
      cases e
      exact ⟨_, _, rfl, q⟩
theorem tyN_int {i : Int} {μ : List O} : tyN μ (.int i) = some "int" := rfl
theorem tyN_bl {i : Bool} {μ : List O} : tyN μ (.bl i) = some "bool" := rfl
theorem tyN_str {i : Str} {μ : List O} : tyN μ (.str i) = some "str" := rfl
theorem tyN_non {μ : List O} : tyN μ .non = some "NoneType" := rfl
theorem tyN_tup {xs : List D} {μ : List O} : tyN μ (.tup xs) = some "tuple" := rfl
theorem tyN_fro {xs : List D} {μ : List O} : tyN μ (.fro xs) = some "list" := rfl
theorem iS_NoneType : isSub "NoneType" "int" = false ∧ isSub "NoneType" "bool" = false ∧ isSub "NoneType" "str" = false ∧ isSub "NoneType" "tuple" = false ∧ isSub "NoneType" "list" = false ∧ isSub "NoneType" "dict" = false := ⟨rfl, rfl, rfl, rfl, rfl, rfl⟩
theorem iS_bool : isSub "bool" "int" = true ∧ isSub "bool" "bool" = true ∧ isSub "bool" "str" = false ∧ isSub "bool" "tuple" = false ∧ isSub "bool" "list" = false ∧ isSub "bool" "dict" = false := ⟨rfl, rfl, rfl, rfl, rfl, rfl⟩
theorem iS_int : isSub "int" "int" = true ∧ isSub "int" "bool" = false ∧ isSub "int" "str" = false ∧ isSub "int" "tuple" = false ∧ isSub "int" "list" = false ∧ isSub "int" "dict" = false := ⟨rfl, rfl, rfl, rfl, rfl, rfl⟩
theorem iS_str : isSub "str" "int" = false ∧ isSub "str" "bool" = false ∧ isSub "str" "str" = true ∧ isSub "str" "tuple" = false ∧ isSub "str" "list" = false ∧ isSub "str" "dict" = false := ⟨rfl, rfl, rfl, rfl, rfl, rfl⟩
theorem iS_tuple : isSub "tuple" "int" = false ∧ isSub "tuple" "bool" = false ∧ isSub "tuple" "str" = false ∧ isSub "tuple" "tuple" = true ∧ isSub "tuple" "list" = false ∧ isSub "tuple" "dict" = false := ⟨rfl, rfl, rfl, rfl, rfl, rfl⟩
theorem iS_list : isSub "list" "int" = false ∧ isSub "list" "bool" = false ∧ isSub "list" "str" = false ∧ isSub "list" "tuple" = false ∧ isSub "list" "list" = true ∧ isSub "list" "dict" = false := ⟨rfl, rfl, rfl, rfl, rfl, rfl⟩
theorem iS_dict : isSub "dict" "int" = false ∧ isSub "dict" "bool" = false ∧ isSub "dict" "str" = false ∧ isSub "dict" "tuple" = false ∧ isSub "dict" "list" = false ∧ isSub "dict" "dict" = true := ⟨rfl, rfl, rfl, rfl, rfl, rfl⟩
theorem cut_map {a b : Type} {f : a → b} {zs : List a} : cutD (zs.map f) lo hi = (cutD zs lo hi).map f := by
  unfold cutD
  rw [List.length_map, List.map_take, List.map_drop]
end
section
variable {a : Type} {μ : List O} {E : Ex → List O → Prop} {l : Nat}
theorem wp_lstE {P : List D → List O → Prop} : Wp (M.lst l) μ P E ↔ ∃ ds, μ[l]? = some (.lst ds) ∧ P ds μ := by
  constructor
  · rintro ⟨r, μ', e, q⟩
    obtain ⟨ds', h1, h2⟩ := lst_some e
    cases h2
    exact ⟨_, h1, q⟩
  · rintro ⟨ds, h, q⟩
    exact (wp_lst h).mpr q
theorem setL_E {d : D} {j : Int} {S : List O → Prop} : (∃ μ2, setL d (.ref l) (.int j) μ = some μ2 ∧ S μ2) ↔ ∃ ds, μ[l]? = some (.lst ds) ∧ ∃ n, ixN ds.length j = some n ∧ S (μ.set l (.lst (ds.set n d))) := by
  constructor
  · rintro ⟨μ2, e, q⟩
    dsimp only [setL] at e
    cases h : μ[l]? with
    | none => rw [h] at e; cases e
    | some o =>
      cases o with
      | dct z => rw [h] at e; cases e
      | lst ds =>
        rw [h] at e
        dsimp only at e
        cases h2 : ixN ds.length j with
        | none => rw [h2] at e; cases e
        | some n =>
          rw [h2] at e
          cases e
          exact ⟨ds, rfl, n, h2, q⟩
  · rintro ⟨ds, h, n, h2, q⟩
    exact ⟨_, setL_at h h2, q⟩
theorem ex_lst {ds : List D} {P : List D → Prop} : (∃ es, (some (O.lst ds) : Option O) = some (.lst es) ∧ P es) ↔ P ds := ⟨fun ⟨_, e, q⟩ => by cases e; exact q, fun q => ⟨_, rfl, q⟩⟩
theorem ex_n {a : Type} {n : a} {P : a → Prop} : (∃ m, (some n : Option a) = some m ∧ P m) ↔ P n := ⟨fun ⟨_, e, q⟩ => by cases e; exact q, fun q => ⟨_, rfl, q⟩⟩
theorem at_new {o : O} : (μ ++ [o])[μ.length]? = some o := by simp
theorem at_off {xs : List O} {c : Nat} : (μ ++ xs)[μ.length + c]? = xs[c]? := by
  rw [List.getElem?_append_right (by omega)]
  congr 1
  omega
theorem at_off0 {xs : List O} : (μ ++ xs)[μ.length]? = xs[0]? := at_off (c := 0)
theorem at_old {o p : O} {j : Nat} (h : μ[j]? = some p) : (μ ++ [o])[j]? = some p := by
  rw [List.getElem?_append_left (List.getElem?_eq_some_iff.mp h).1]
  exact h
theorem wp_repr {d : D} {p : PyData} {P : D → List O → Prop} (h : see μ 62 d = some p) (ho : reprOk p = true) : Wp (reprD [d]) μ P E ↔ P (.str p.shown) μ := by
  have e : reprD [d] μ = some (.ok (.str p.shown), μ) := by
    show reprD1 d μ = _
    unfold reprD1
    rw [h]
    simp only [ho, if_true]
  constructor
  · rintro ⟨r, μ', e2, q⟩
    rw [e] at e2
    cases e2
    exact q
  · exact fun q => ⟨_, _, e, q⟩
theorem wp_withNew {o : O} {f : Nat → M D} {P : D → List O → Prop} : Wp (withNew o f) μ P E ↔ Wp (f μ.length) (μ ++ [o]) P E := Iff.rfl
theorem o_keyI {i : Int} : keyD (.int i) = some (.inl i) := rfl
theorem o_keyS {i : Str} : keyD (.str i) = some (.inr i) := rfl
theorem wp_setE {kvs : List (Key × D)} {P : D → List O → Prop} : Wp (setEmpty l kvs) μ P E ↔ μ[l]? = some (.dct []) ∧ P (.ref l) (μ.set l (.dct kvs)) := by
  unfold Wp setEmpty
  constructor
  · rintro ⟨r, μ', e, q⟩
    split at e
    · next h => cases e; exact ⟨h, q⟩
    · cases e
  · rintro ⟨h, q⟩
    rw [h]
    exact ⟨_, _, rfl, q⟩
theorem set_off {o : O} {xs : List O} {c : Nat} : (μ ++ xs).set (μ.length + c) o = μ ++ xs.set c o := by
  rw [List.set_append_right _ _ (by omega)]
  congr 2
  omega
theorem set_off0 {o : O} {xs : List O} : (μ ++ xs).set μ.length o = μ ++ xs.set 0 o := set_off (c := 0)
theorem at_set {o p : O} (h : μ[l]? = some p) : (μ.set l o)[l]? = some o := List.getElem?_set_self (List.getElem?_eq_some_iff.mp h).1
end
/-! ### loops -/
section
variable {μ : List O} {S : SR → List O → Prop} {ρ : Env}
/-- what a while's body wants: the next turn -/
def Trn (next : Env → List O → Prop) (S : SR → List O → Prop) : SR → List O → Prop := fun x μ' => match x with
  | .nx ρ1 => next ρ1 μ'
  | .ct ρ1 => next ρ1 μ'
  | .bk ρ1 => S (.nx ρ1) μ'
  | x => S x μ'
theorem ws_whl {t : Env → M Bool} {b : Env → Ms} {n : Nat} : Ws (whl t b (n + 1) ρ) μ S ↔ Wp (t ρ) μ (fun c μ1 => if c = true then Ws (b ρ) μ1 (Trn (fun ρ1 μ2 => Ws (whl t b n ρ1) μ2 S) S) else S (.nx ρ) μ1) (fun x μ' => S (.er x ρ) μ') := by
  show Ws (Ms.of (t ρ) ρ _) μ S ↔ _
  rw [ws_of]
  constructor
  · refine fun h => h.mono (fun c μ1 h => ?_) fun _ _ z => z
    cases c with
    | false => rw [if_neg Bool.false_ne_true] at h ⊢; exact ws_some.mp h
    | true =>
      rw [if_pos rfl] at h ⊢
      obtain ⟨r, μ', e, q⟩ := h
      dsimp only at e
      cases e1 : b ρ μ1 with
      | none => rw [e1] at e; cases e
      | some p =>
        obtain ⟨r3, μ3⟩ := p
        rw [e1] at e
        refine ⟨r3, μ3, e1, ?_⟩
        cases r3 with
        | nx ρ3 => exact ⟨r, μ', e, q⟩
        | ct ρ3 => exact ⟨r, μ', e, q⟩
        | _ => cases e; exact q
  · refine fun h => h.mono (fun c μ1 h => ?_) fun _ _ z => z
    cases c with
    | false => rw [if_neg Bool.false_ne_true] at h ⊢; exact ws_some.mpr h
    | true =>
      rw [if_pos rfl] at h ⊢
      obtain ⟨r3, μ3, e1, q⟩ := h
      unfold Ws
      dsimp only
      rw [e1]
      cases r3 with
      | nx ρ3 => exact q
      | ct ρ3 => exact q
      | _ => exact ⟨_, _, rfl, q⟩
/-- a loop over things that stand still, by its invariant (turn, slots, store) -/
theorem ws_for {ds : List D} {g : CG} {b : CB} (Inv : Nat → Env → List O → Prop) (h0 : Inv 0 ρ μ)
    (step : ∀ i d ρ μ, ds[i]? = some d → Inv i ρ μ → ∃ ρ1 μ1, g.run d ρ μ = some (ρ1, μ1) ∧ Ws (b.run ρ1) μ1 (Trn (Inv (i + 1)) S))
    (done : ∀ ρ μ, Inv ds.length ρ μ → S (.nx ρ) μ) : Ws (forRun (wkOf ds) g b ds.length 0 ρ) μ S := by
  have go : ∀ n i ρ μ, i + n = ds.length → Inv i ρ μ → Ws (forRun (wkOf ds) g b n i ρ) μ S := by
    intro n
    induction n with
    | zero =>
      intro i ρ μ e h
      have e' : i = ds.length := by omega
      subst e'
      exact ⟨.nx ρ, μ, by simp [forRun, wkOf], done ρ μ h⟩
    | succ n ih =>
      intro i ρ μ e h
      have hi : i < ds.length := by omega
      have hd := List.getElem?_eq_getElem hi
      obtain ⟨ρ1, μ1, e1, r, μ2, e2, q⟩ := step i _ ρ μ hd h
      unfold Ws
      dsimp only [forRun, wkOf]
      rw [hd]
      dsimp only
      rw [e1]
      dsimp only
      rw [e2]
      cases r with
      | nx ρ3 => exact ih (i + 1) ρ3 μ2 (by omega) q
      | ct ρ3 => exact ih (i + 1) ρ3 μ2 (by omega) q
      | _ => exact ⟨_, _, rfl, q⟩
  exact go ds.length 0 ρ μ (by omega) h0
/-- over a source that gives n items, whatever the store -/
theorem ws_forW {w : Wk} {g : CG} {b : CB} {m : Nat} (n : Nat) (item : Nat → D) (h1 : ∀ i μ, i < n → w.get i μ = some (some (item i))) (h2 : ∀ μ, w.get n μ = some none) (hm : n ≤ m) (Inv : Nat → Env → List O → Prop) (h0 : Inv 0 ρ μ)
    (step : ∀ i ρ μ, i < n → Inv i ρ μ → ∃ ρ1 μ1, g.run (item i) ρ μ = some (ρ1, μ1) ∧ Ws (b.run ρ1) μ1 (Trn (Inv (i + 1)) S))
    (done : ∀ ρ μ, Inv n ρ μ → S (.nx ρ) μ) : Ws (forRun w g b m 0 ρ) μ S := by
  have go : ∀ m k i ρ μ, i + k = n → k ≤ m → Inv i ρ μ → Ws (forRun w g b m i ρ) μ S := by
    intro m
    induction m with
    | zero =>
      intro k i ρ μ e hk h
      have e' : i = n := by omega
      subst e'
      exact ⟨.nx ρ, μ, by dsimp only [forRun]; rw [h2], done ρ μ h⟩
    | succ m ih =>
      intro k i ρ μ e hk h
      by_cases hi : i < n
      · obtain ⟨ρ1, μ1, e1, r, μ2, e2, q⟩ := step i ρ μ hi h
        unfold Ws
        dsimp only [forRun]
        rw [h1 i μ hi]
        dsimp only
        rw [e1]
        dsimp only
        rw [e2]
        cases r with
        | nx ρ3 => exact ih (k - 1) (i + 1) ρ3 μ2 (by omega) (by omega) q
        | ct ρ3 => exact ih (k - 1) (i + 1) ρ3 μ2 (by omega) (by omega) q
        | _ => exact ⟨_, _, rfl, q⟩
      · have e' : i = n := by omega
        subst e'
        exact ⟨.nx ρ, μ, by dsimp only [forRun]; rw [h2], done ρ μ h⟩
  exact go m n 0 ρ μ (by omega) hm h0
/-- over things that stand still, one turn -/
theorem ws_forU {ds : List D} {j : Nat} {b : CB} {n i : Nat} {d : D} (h : ds[i]? = some d) : Ws (forRun (wkOf ds) (gN j) b (n + 1) i ρ) μ S ↔ Ws (b.run (ρ.set j (some d))) μ (Trn (fun ρ1 μ2 => Ws (forRun (wkOf ds) (gN j) b n (i + 1) ρ1) μ2 S) S) := by
  constructor
  · rintro ⟨r, μ', e, q⟩
    dsimp only [forRun, wkOf, gN] at e
    rw [h] at e
    dsimp only at e
    cases e1 : b.run (ρ.set j (some d)) μ with
    | none => rw [e1] at e; cases e
    | some p =>
      obtain ⟨r3, μ3⟩ := p
      rw [e1] at e
      refine ⟨r3, μ3, e1, ?_⟩
      cases r3 with
      | nx ρ3 => exact ⟨r, μ', e, q⟩
      | ct ρ3 => exact ⟨r, μ', e, q⟩
      | _ => cases e; exact q
  · rintro ⟨r, μ', e, q⟩
    unfold Ws
    dsimp only [forRun, wkOf, gN]
    rw [h]
    dsimp only
    rw [e]
    cases r with
    | nx ρ3 => exact q
    | ct ρ3 => exact q
    | _ => exact ⟨_, _, rfl, q⟩
theorem ws_forZ {ds : List D} {g : CG} {b : CB} {i : Nat} (h : ds[i]? = none) : Ws (forRun (wkOf ds) g b 0 i ρ) μ S ↔ S (.nx ρ) μ := by
  have e : forRun (wkOf ds) g b 0 i ρ μ = some (.nx ρ, μ) := by simp [forRun, wkOf, h]
  exact ⟨fun ⟨_, _, e2, q⟩ => by rw [e] at e2; cases e2; exact q, fun q => ⟨_, _, e, q⟩⟩
theorem trn_nx {next : Env → List O → Prop} {ρ1 : Env} : Trn next S (.nx ρ1) μ ↔ next ρ1 μ := Iff.rfl
theorem trn_ct {next : Env → List O → Prop} {ρ1 : Env} : Trn next S (.ct ρ1) μ ↔ next ρ1 μ := Iff.rfl
theorem trn_bk {next : Env → List O → Prop} {ρ1 : Env} : Trn next S (.bk ρ1) μ ↔ S (.nx ρ1) μ := Iff.rfl
theorem trn_rt {next : Env → List O → Prop} {d : D} : Trn next S (.rt d) μ ↔ S (.rt d) μ := Iff.rfl
theorem trn_er {next : Env → List O → Prop} {x : Ex} {ρ1 : Env} : Trn next S (.er x ρ1) μ ↔ S (.er x ρ1) μ := Iff.rfl
/-- over numbers -/
theorem ws_forR {lo : Int} {n : Nat} {g : CG} {b : CB} (Inv : Nat → Env → List O → Prop) (h0 : Inv 0 ρ μ)
    (step : ∀ i ρ μ, i < n → Inv i ρ μ → ∃ ρ1 μ1, g.run (.int (lo + i)) ρ μ = some (ρ1, μ1) ∧ Ws (b.run ρ1) μ1 (Trn (Inv (i + 1)) S))
    (done : ∀ ρ μ, Inv n ρ μ → S (.nx ρ) μ) : Ws (forRun (wkR lo n) g b n 0 ρ) μ S := by
  have go : ∀ m i ρ μ, i + m = n → Inv i ρ μ → Ws (forRun (wkR lo n) g b m i ρ) μ S := by
    intro m
    induction m with
    | zero =>
      intro i ρ μ e h
      have e' : i = n := by omega
      subst e'
      exact ⟨.nx ρ, μ, by simp [forRun, wkR], done ρ μ h⟩
    | succ m ih =>
      intro i ρ μ e h
      have hi : i < n := by omega
      obtain ⟨ρ1, μ1, e1, r, μ2, e2, q⟩ := step i ρ μ hi h
      unfold Ws
      dsimp only [forRun, wkR]
      rw [if_pos hi]
      dsimp only
      rw [e1]
      dsimp only
      rw [e2]
      cases r with
      | nx ρ3 => exact ih (i + 1) ρ3 μ2 (by omega) q
      | ct ρ3 => exact ih (i + 1) ρ3 μ2 (by omega) q
      | _ => exact ⟨_, _, rfl, q⟩
  exact go n 0 ρ μ (by omega) h0
/-- over a list of the store -/
theorem ws_forL {l : Nat} {ds : List D} {g : CG} {b : CB} (Inv : Nat → Env → List O → Prop) (h0 : Inv 0 ρ μ) (hl : ∀ i ρ μ, Inv i ρ μ → μ[l]? = some (.lst ds))
    (step : ∀ i d ρ μ, ds[i]? = some d → Inv i ρ μ → ∃ ρ1 μ1, g.run d ρ μ = some (ρ1, μ1) ∧ Ws (b.run ρ1) μ1 (Trn (Inv (i + 1)) S))
    (done : ∀ ρ μ, Inv ds.length ρ μ → S (.nx ρ) μ) : Ws (forRun (wkL l ds.length) g b ds.length 0 ρ) μ S := by
  have go : ∀ n i ρ μ, i + n = ds.length → Inv i ρ μ → Ws (forRun (wkL l ds.length) g b n i ρ) μ S := by
    intro n
    induction n with
    | zero =>
      intro i ρ μ e h
      have e' : i = ds.length := by omega
      subst e'
      exact ⟨.nx ρ, μ, by simp [forRun, wkL, hl _ _ _ h], done ρ μ h⟩
    | succ n ih =>
      intro i ρ μ e h
      have hi : i < ds.length := by omega
      have hd := List.getElem?_eq_getElem hi
      obtain ⟨ρ1, μ1, e1, r, μ2, e2, q⟩ := step i _ ρ μ hd h
      unfold Ws
      dsimp only [forRun, wkL]
      rw [hl _ _ _ h]
      dsimp only
      rw [hd]
      dsimp only
      rw [e1]
      dsimp only
      rw [e2]
      cases r with
      | nx ρ3 => exact ih (i + 1) ρ3 μ2 (by omega) q
      | ct ρ3 => exact ih (i + 1) ρ3 μ2 (by omega) q
      | _ => exact ⟨_, _, rfl, q⟩
  exact go ds.length 0 ρ μ (by omega) h0
end
/-! ### comprehensions, by an invariant (turn, the list so far, the store) -/
section
variable {w : Wk} {g : CG} {f : Env → M Bool} {e : Env → M D} {ρ : Env} {μ : List O} {P : D → List O → Prop} {E : Ex → List O → Prop}
theorem wp_lc (n : Nat) (Inv : Nat → List D → List O → Prop) (hn : n ≤ w.fuel) (h0 : Inv 0 [] (μ ++ [.lst []]))
    (step : ∀ i acc μ', i < n → Inv i acc μ' → ∃ d, w.get i μ' = some (some d) ∧ ∃ ρ1 μ1, g.run d ρ μ' = some (ρ1, μ1) ∧ Wp (f ρ1) μ1 (fun b μ2 => if b = true then
      Wp (e ρ1) μ2 (fun y μ3 => ∃ acc', μ3[μ.length]? = some (.lst acc') ∧ acc'.length < sizeLine ∧ Inv (i + 1) (acc' ++ [y]) (μ3.set μ.length (.lst (acc' ++ [y])))) (fun _ _ => False)
      else ∃ acc', Inv (i + 1) acc' μ2) (fun _ _ => False))
    (done : ∀ acc μ', Inv n acc μ' → w.get n μ' = some none ∧ P (.ref μ.length) μ') : Wp (lcM w g f e ρ) μ P E := by
  have go : ∀ m k i acc μ', i + k = n → k ≤ m → Inv i acc μ' → ∃ μ2, lcRun w g f e μ.length ρ m i μ' = some (.ok (.ref μ.length), μ2) ∧ P (.ref μ.length) μ2 := by
    intro m
    induction m with
    | zero =>
      intro k i acc μ' e1 hk h
      have e' : i = n := by omega
      subst e'
      obtain ⟨d1, d2⟩ := done acc μ' h
      exact ⟨μ', by dsimp only [lcRun]; rw [d1], d2⟩
    | succ m ih =>
      intro k i acc μ' e1 hk h
      by_cases hi : i < n
      · obtain ⟨d, h1, ρ1, μ1, h2, r, μ2, h3, q⟩ := step i acc μ' hi h
        cases r with
        | error x => exact q.elim
        | ok b =>
          cases b with
          | false =>
            dsimp only at q
            rw [if_neg Bool.false_ne_true] at q
            obtain ⟨acc', q⟩ := q
            obtain ⟨μ4, h4, q4⟩ := ih (k - 1) (i + 1) acc' μ2 (by omega) (by omega) q
            refine ⟨μ4, ?_, q4⟩
            dsimp only [lcRun]
            rw [h1]; dsimp only
            rw [h2]; dsimp only
            rw [h3]
            exact h4
          | true =>
            dsimp only at q
            rw [if_pos rfl] at q
            obtain ⟨r2, μ3, h4, q⟩ := q
            cases r2 with
            | error x => exact q.elim
            | ok y =>
              obtain ⟨acc', h5, h6, q⟩ := q
              obtain ⟨μ5, h7, q5⟩ := ih (k - 1) (i + 1) _ _ (by omega) (by omega) q
              refine ⟨μ5, ?_, q5⟩
              dsimp only [lcRun]
              rw [h1]; dsimp only
              rw [h2]; dsimp only
              rw [h3]; dsimp only
              rw [h4]; dsimp only
              rw [h5]; dsimp only
              rw [if_pos h6]
              exact h7
      · have e' : i = n := by omega
        subst e'
        obtain ⟨d1, d2⟩ := done acc μ' h
        exact ⟨μ', by dsimp only [lcRun]; rw [d1], d2⟩
  obtain ⟨μ2, h1, h2⟩ := go w.fuel n 0 [] (μ ++ [.lst []]) (by omega) hn h0
  exact ⟨.ok (.ref μ.length), μ2, h1, h2⟩
/-- each item by itself, the store stays: a map -/
theorem wp_lc_map {get : Nat → Option D} (n : Nat) (φ : Nat → D) (hn : n ≤ w.fuel) (hz : n ≤ sizeLine) (src : ∀ i acc, w.get i (μ ++ [.lst acc]) = some (get i)) (hget : ∀ i, i < n → (get i).isSome) (hend : get n = none)
    (step : ∀ i d acc, i < n → get i = some d → ∃ ρ1, g.run d ρ (μ ++ [.lst acc]) = some (ρ1, μ ++ [.lst acc]) ∧ Wp (f ρ1) (μ ++ [.lst acc]) (fun b μ2 => b = true ∧ μ2 = μ ++ [.lst acc]) (fun _ _ => False) ∧
      Wp (e ρ1) (μ ++ [.lst acc]) (fun y μ3 => y = φ i ∧ μ3 = μ ++ [.lst acc]) (fun _ _ => False))
    (q : P (.ref μ.length) (μ ++ [.lst ((List.range n).map φ)])) : Wp (lcM w g f e ρ) μ P E := by
  refine wp_lc n (fun i acc μ' => i ≤ n ∧ acc = (List.range i).map φ ∧ μ' = μ ++ [.lst acc]) hn ⟨Nat.zero_le _, rfl, rfl⟩ ?_ ?_
  · rintro i acc _ hi ⟨_, rfl, rfl⟩
    obtain ⟨d, hd⟩ := Option.isSome_iff_exists.mp (hget i hi)
    obtain ⟨ρ1, h1, h2, h3⟩ := step i d _ hi hd
    refine ⟨d, by rw [src, hd], ρ1, _, h1, h2.mono ?_ fun _ _ z => z⟩
    rintro b _ ⟨rfl, rfl⟩
    rw [if_pos rfl]
    refine h3.mono ?_ fun _ _ z => z
    rintro y _ ⟨rfl, rfl⟩
    refine ⟨(List.range i).map φ, ?_, by rw [List.length_map, List.length_range]; omega, hi, ?_, ?_⟩
    · rw [List.getElem?_append_right (Nat.le_refl _)]; simp
    · rw [List.range_succ, List.map_append]; rfl
    · rw [List.set_append_right _ _ (Nat.le_refl _)]; simp
  · rintro acc _ ⟨_, rfl, rfl⟩
    exact ⟨by rw [src, hend], q⟩
end
end Mi
/-! Mi, part R: what holds behind the words of MiQ. -/
namespace Mi
open PySem L2 PyProof.Rows
section
variable {a : Type} {ρ : Env} {μ : List O} {P : D → List O → Prop} {E : Ex → List O → Prop} {l m : Nat} {d : D}
theorem i_Zp3 {x y z : CE} : (iZp3 x y z).run ρ = M.bnd (x.run ρ) fun x => M.bnd (y.run ρ) fun y => M.bnd (z.run ρ) fun z => zipW3 x y z := rfl
theorem r_step {x y : CE} : (cStep x y).run ρ = M.bnd (x.run ρ) (stepM (y.run ρ)) := rfl
theorem o_stepM {f : M D} : stepM f (.ref l) = M.bnd f fun y => stepD (.ref l) y := rfl
theorem o_stepD {i : Int} : stepD (.ref l) (.int i) = if i = 1 ∨ i = -1 then M.bnd (M.lst l) fun ds => M.new (.lst (if i = 1 then ds else ds.reverse)) else M.stop := rfl
theorem wp_zip3 {x y z : D} {xs ys zs : List D} {P : Wk → List O → Prop} (h1 : srcD x μ = some xs) (h2 : srcD y μ = some ys) (h3 : srcD z μ = some zs) : Wp (zipW3 x y z) μ P E ↔ P (wkZ3 x y z xs.length) μ := by
  have e : zipW3 x y z μ = some (.ok (wkZ3 x y z xs.length), μ) := by
    unfold zipW3
    rw [h1, h2, h3]
  exact ⟨fun ⟨r, μ', e2, q⟩ => by rw [e] at e2; cases e2; exact q, fun q => ⟨_, _, e, q⟩⟩
theorem wkZ3_get {x y z : D} {xs ys zs : List D} {n i : Nat} (h1 : srcD x μ = some xs) (h2 : srcD y μ = some ys) (h3 : srcD z μ = some zs) (l1 : i ≤ xs.length) (l2 : i ≤ ys.length) (l3 : i ≤ zs.length) : (wkZ3 x y z n).get i μ = match xs[i]?, ys[i]?, zs[i]? with
      | some a, some b, some c => some (some (.tup [a, b, c]))
      | _, _, _ => some none := by
  dsimp only [wkZ3]
  rw [h1, h2, h3]
  dsimp only
  rw [if_pos ⟨l1, l2, l3⟩]
  try (cases xs[i]? <;> cases ys[i]? <;> cases zs[i]? <;> rfl)
theorem src_ref {ds : List D} (h : μ[l]? = some (.lst ds)) : srcD (.ref l) μ = some ds := by
  dsimp only [srcD]
  rw [h]
theorem q_nil : qNil.run ρ = M.ret [] := rfl
theorem q_cons {x y : CE} {r : CPs} : (qCons x y r).run ρ = M.bnd (x.run ρ) fun x => M.bnd (y.run ρ) fun y => M.bnd (r.run ρ) fun ps => M.ret ((x, y) :: ps) := rfl
theorem r_dict {c : CPs} : (cDict c).run ρ = withNew (.dct []) fun l => M.bnd (c.run ρ) fun ps => match keysD ps with
    | some kvs => if kvs.length ≤ 15 then setEmpty l (mergeD [] kvs) else M.stop
    | none => M.stop := rfl
theorem r_dict0 : cDict0.run ρ = M.new (.dct []) := rfl
theorem kd_nil : keysD [] = some [] := rfl
theorem kd_S {x : Str} {b : D} {r : List (D × D)} : keysD ((.str x, b) :: r) = (keysD r).map ((Sum.inr x, b) :: ·) := by
  show (match some (Sum.inr x), keysD r with | some k, some kvs => some ((k, b) :: kvs) | _, _ => none) = _
  cases keysD r <;> rfl
theorem wp_dctE {P : List (Key × D) → List O → Prop} : Wp (M.dct l) μ P E ↔ ∃ kvs, μ[l]? = some (.dct kvs) ∧ P kvs μ := by
  constructor
  · rintro ⟨r, μ', e, q⟩
    unfold M.dct at e
    cases h : μ[l]? with
    | none => rw [h] at e; cases e
    | some o =>
      rw [h] at e
      cases o with
      | lst _ => cases e
      | dct kvs => cases e; exact ⟨kvs, rfl, q⟩
  · rintro ⟨kvs, h, q⟩
    exact ⟨.ok kvs, μ, by unfold M.dct; rw [h], q⟩
theorem ex_dct {kvs : List (Key × D)} {P : List (Key × D) → Prop} : (∃ es, (some (O.dct kvs) : Option O) = some (.dct es) ∧ P es) ↔ P kvs := ⟨fun ⟨_, e, q⟩ => by cases e; exact q, fun q => ⟨_, rfl, q⟩⟩
theorem ix_refS {x : Str} : ixD (.ref l) (.str x) = M.bnd (M.dct l) fun kvs => match valD kvs (.inr x) with
    | some d => M.ret d
    | none => M.stop := rfl
theorem setL_S {x : Str} {S : List O → Prop} : (∃ μ2, setL d (.ref l) (.str x) μ = some μ2 ∧ S μ2) ↔ ∃ kvs, μ[l]? = some (.dct kvs) ∧ kvs.length < sizeLine ∧ S (μ.set l (.dct (putKD kvs (.inr x) d))) := by
  dsimp only [setL]
  constructor
  · rintro ⟨μ2, e, q⟩
    cases h : μ[l]? with
    | none => rw [h] at e; cases e
    | some o =>
      rw [h] at e
      cases o with
      | lst _ => cases e
      | dct kvs =>
        dsimp only at e
        by_cases hz : kvs.length < sizeLine
        · rw [if_pos hz] at e; cases e; exact ⟨kvs, rfl, hz, q⟩
        · rw [if_neg hz] at e; cases e
  · rintro ⟨kvs, h, hz, q⟩
    rw [h]
    exact ⟨_, if_pos hz, q⟩
theorem o_isTD {P : Unit → List O → Prop} : Wp (isT "dict" (.ref l)) μ P E ↔ ∃ kvs, μ[l]? = some (.dct kvs) ∧ P () μ := by
  dsimp only [isT]
  constructor
  · rintro ⟨r, μ', e, q⟩
    dsimp only at e
    cases h : μ[l]? with
    | none => rw [h] at e; cases e
    | some o =>
      rw [h] at e
      cases o with
      | lst _ => simp at e
      | dct kvs => simp at e; obtain ⟨rfl, rfl⟩ := e; exact ⟨kvs, rfl, q⟩
  · rintro ⟨kvs, h, q⟩
    exact ⟨.ok (), μ, by dsimp only; rw [h]; simp, q⟩
theorem wp_dget1 {x : Str} : Wp (dgetD (.ref l) [.str x]) μ P E ↔ ∃ kvs, μ[l]? = some (.dct kvs) ∧ P ((valD kvs (.inr x)).getD .non) μ := by
  show Wp (M.bnd (M.dct l) fun kvs => M.ret ((valD kvs (.inr x)).getD .non)) μ P E ↔ _
  rw [wp_bnd, wp_dctE]
  simp only [wp_ret]
theorem wp_dget2 {x : Str} {z : D} : Wp (dgetD (.ref l) [.str x, z]) μ P E ↔ ∃ kvs, μ[l]? = some (.dct kvs) ∧ P ((valD kvs (.inr x)).getD z) μ := by
  show Wp (M.bnd (M.dct l) fun kvs => M.ret ((valD kvs (.inr x)).getD z)) μ P E ↔ _
  rw [wp_bnd, wp_dctE]
  simp only [wp_ret]
theorem wp_dsetd {x : Str} {z : D} {kvs : List (Key × D)} (h : μ[l]? = some (.dct kvs)) (hz : kvs.length < sizeLine) : Wp (dsetD (.ref l) [.str x, z]) μ P E ↔ match valD kvs (.inr x) with
    | some d => P d μ
    | none => P z (μ.set l (.dct (putKD kvs (.inr x) z))) := by
  have e : dsetD (.ref l) [.str x, z] μ = match valD kvs (.inr x) with
      | some d => some (.ok d, μ)
      | none => some (.ok z, μ.set l (.dct (putKD kvs (.inr x) z))) := by
    dsimp only [dsetD]
    rw [h]
    dsimp only [keyD]
    rw [if_pos hz]
    try (cases valD kvs (.inr x) <;> rfl)
  cases hv : valD kvs (.inr x) with
  | some d =>
    rw [hv] at e
    exact ⟨fun ⟨r, μ', e2, q⟩ => by rw [e] at e2; cases e2; exact q, fun q => ⟨.ok d, μ, e, q⟩⟩
  | none =>
    rw [hv] at e
    exact ⟨fun ⟨r, μ', e2, q⟩ => by rw [e] at e2; cases e2; exact q, fun q => ⟨.ok z, _, e, q⟩⟩
theorem wp_popA0 : Wp (popAD (.ref l) []) μ P E ↔ ∃ ds, μ[l]? = some (.lst ds) ∧ ∃ y, ds[ds.length - 1]? = some y ∧ P y (μ.set l (.lst ds.dropLast)) := wp_pop
theorem wp_popA {j : Nat} {ds : List D} {y : D} (h : μ[l]? = some (.lst ds)) (hy : ds[j]? = some y) (hj : j < 2 ^ 62) : Wp (popAD (.ref l) [.int j]) μ P E ↔ P y (μ.set l (.lst (ds.eraseIdx j))) := by
  have hl := (List.getElem?_eq_some_iff.mp hy).1
  have e : popAD (.ref l) [.int j] μ = some (.ok y, μ.set l (.lst (ds.eraseIdx j))) := by
    dsimp only [popAD]
    rw [h]
    dsimp only
    rw [if_pos (by omega)]
    have hs : seqIndex? (j : Int) ds.length = some j := by
      unfold seqIndex?
      first
        | (rw [if_neg (by omega)]; simp; omega)
        | (simp; omega)
    rw [hs]
    dsimp only
    rw [hy]
  exact ⟨fun ⟨r, μ', e2, q⟩ => by rw [e] at e2; cases e2; exact q, fun q => ⟨.ok y, _, e, q⟩⟩
theorem wp_ext {xs ys : List D} (h : μ[l]? = some (.lst xs)) (k : μ[m]? = some (.lst ys)) (hz : xs.length + ys.length ≤ sizeLine) : Wp (extD (.ref l) [.ref m]) μ P E ↔ P .non (μ.set l (.lst (xs ++ ys))) := by
  have e : extD (.ref l) [.ref m] μ = some (.ok .non, μ.set l (.lst (xs ++ ys))) := by
    dsimp only [extD]
    rw [h, k]
    dsimp only
    rw [if_pos hz]
  exact ⟨fun ⟨r, μ', e2, q⟩ => by rw [e] at e2; cases e2; exact q, fun q => ⟨.ok .non, _, e, q⟩⟩
theorem wp_sorted {ds : List D} {xs : List Str} (h : μ[l]? = some (.lst ds)) (hx : strsOf ds = some xs) (hz : xs.length < 64) : Wp (sortedD [.ref l]) μ P E ↔ P (.ref μ.length) (μ ++ [.lst ((sortS xs).map .str)]) := by
  show Wp (M.bnd (M.lst l) _) μ P E ↔ _
  rw [wp_bnd, wp_lst h, hx]
  dsimp only
  rw [if_pos hz, wp_new]
theorem wp_join {x : Str} {ys : List Str} (h : seqStrs μ d = some ys) (hz : (ys.map (·.length)).sum + ys.length * x.length ≤ 16777216) : Wp (joinD (.str x) [d]) μ P E ↔ P (.str (Txt.join x ys)) μ := by
  have e : joinD (.str x) [d] μ = some (.ok (.str (Txt.join x ys)), μ) := by
    dsimp only [joinD]
    rw [h]
    dsimp only
    rw [if_pos hz]
  exact ⟨fun ⟨r, μ', e2, q⟩ => by rw [e] at e2; cases e2; exact q, fun q => ⟨.ok _, _, e, q⟩⟩
theorem wp_inK {neg : Bool} {k : Key} {kvs : List (Key × D)} (h : μ[l]? = some (.dct kvs)) (hk : keyD d = some k) : Wp (inD neg d (.ref l)) μ P E ↔ P (.bl (if neg then !(valD kvs k).isSome else (valD kvs k).isSome)) μ := by
  have e : inD neg d (.ref l) μ = some (.ok (.bl (if neg then !(valD kvs k).isSome else (valD kvs k).isSome)), μ) := by
    cases d with
    | int i => dsimp only [inD]; rw [h]; dsimp only; rw [hk]; rfl
    | str i => dsimp only [inD]; rw [h]; dsimp only; rw [hk]; rfl
    | _ => cases hk
  exact ⟨fun ⟨r, μ', e2, q⟩ => by rw [e] at e2; cases e2; exact q, fun q => ⟨.ok _, _, e, q⟩⟩
theorem wp_inL {neg : Bool} {es : List D} (h : μ[l]? = some (.lst es)) : Wp (inD neg d (.ref l)) μ P E ↔ Wp (inSq neg d es) μ P E := by
  have e : inD neg d (.ref l) μ = inSq neg d es μ := by
    cases d <;> (dsimp only [inD]; rw [h])
  unfold Wp
  rw [e]
/-- texts among texts -/
theorem inSq_str {neg : Bool} {x : Str} {xs : List Str} : inSq neg (.str x) (xs.map .str) = M.ret (.bl (if neg then !decide (x ∈ xs) else decide (x ∈ xs))) := by
  have e : flatsD (xs.map D.str) = some (xs.map V.str) := by
    induction xs with
    | nil => rfl
    | cons y r ih => rw [List.map_cons, List.map_cons]; unfold flatsD; rw [ih]; rfl
  unfold inSq
  rw [e]
  show M.ret _ = _
  have i : inV (.str x) (xs.map V.str) = decide (x ∈ xs) := by
    rw [Bool.eq_iff_iff, decide_eq_true_eq]
    unfold inV
    rw [List.any_map, List.any_eq_true]
    constructor
    · rintro ⟨y, hy, e⟩
      have : y = x := by simpa [eqV] using e
      rw [← this]; exact hy
    · intro hx
      exact ⟨x, hx, by simp [eqV]⟩
  rw [i]
theorem wp_eqn {neg : Bool} {xs : List D} (h1 : μ[l]? = some (.lst xs)) (h2 : μ[m]? = some (.lst [])) : Wp (eqnD neg (.ref l) (.ref m)) μ P E ↔ P (.bl (if neg then !xs.isEmpty else xs.isEmpty)) μ := by
  have e : eqnD neg (.ref l) (.ref m) μ = some (.ok (.bl (if neg then !xs.isEmpty else xs.isEmpty)), μ) := by
    dsimp only [eqnD]
    rw [h1, h2]
  exact ⟨fun ⟨r, μ', e2, q⟩ => by rw [e] at e2; cases e2; exact q, fun q => ⟨.ok _, _, e, q⟩⟩
/-! ### two clauses -/
def lcM2 (w : Wk) (g : CG) (f : Env → M Bool) (it1 : Env → M Wk) (g1 : CG) (f1 : Env → M Bool) (e : Env → M D) (vs1 : List Nat) (ρ : Env) : M D := fun μ => lcOut w g f it1 (inn2 g1 f1 e vs1 μ.length) μ.length ρ w.fuel 0 (μ ++ [.lst []])
theorem r_lc2 {it : CI} {g : CG} {f : CF} {it1 : CI} {g1 : CG} {f1 : CF} {e : CE} {vs : List (Str × Nat)} {vs1 : List Nat} : (cLc2 it g f it1 g1 f1 e vs vs1).run ρ = M.bnd (it.run ρ) fun w => lcM2 w g f.run it1.run g1 f1.run e.run vs1 (wipeE ρ (vs.map (·.2))) := rfl
theorem s_setLc2 {i : Nat} {it : CI} {g : CG} {f : CF} {it1 : CI} {g1 : CG} {f1 : CF} {e : CE} {vs : List (Str × Nat)} {vs1 : List Nat} : (sSetLc2 i it g f it1 g1 f1 e vs vs1).run ρ = (sAsg (gN i) (cLc2 it g f it1 g1 f1 e vs vs1)).run ρ := rfl
/-- the inner loop, by an invariant -/
theorem wi_in {w : Wk} {g : CG} {f : Env → M Bool} {e : Env → M D} {L : Nat} {Q : List O → Prop} (n : Nat) (Inv : Nat → List O → Prop) (hn : n ≤ w.fuel) (h0 : Inv 0 μ)
    (step : ∀ i μ', i < n → Inv i μ' → ∃ d, w.get i μ' = some (some d) ∧ ∃ ρ1 μ1, g.run d ρ μ' = some (ρ1, μ1) ∧ Wp (f ρ1) μ1 (fun b μ2 => if b = true then
      Wp (e ρ1) μ2 (fun y μ3 => ∃ acc, μ3[L]? = some (.lst acc) ∧ acc.length < sizeLine ∧ Inv (i + 1) (μ3.set L (.lst (acc ++ [y])))) (fun _ _ => False)
      else Inv (i + 1) μ2) (fun _ _ => False))
    (done : ∀ μ', Inv n μ' → w.get n μ' = some none ∧ Q μ') : ∃ μ', lcIn w g f e L ρ w.fuel 0 μ = some μ' ∧ Q μ' := by
  have go : ∀ m k i μ', i + k = n → k ≤ m → Inv i μ' → ∃ μ2, lcIn w g f e L ρ m i μ' = some μ2 ∧ Q μ2 := by
    intro m
    induction m with
    | zero =>
      intro k i μ' e1 hk h
      have e' : i = n := by omega
      subst e'
      obtain ⟨d1, d2⟩ := done μ' h
      exact ⟨μ', by dsimp only [lcIn]; rw [d1], d2⟩
    | succ m ih =>
      intro k i μ' e1 hk h
      by_cases hi : i < n
      · obtain ⟨d, h1, ρ1, μ1, h2, r, μ2, h3, q⟩ := step i μ' hi h
        cases r with
        | error x => exact q.elim
        | ok b =>
          cases b with
          | false =>
            dsimp only at q
            rw [if_neg Bool.false_ne_true] at q
            obtain ⟨μ4, h4, q4⟩ := ih (k - 1) (i + 1) μ2 (by omega) (by omega) q
            refine ⟨μ4, ?_, q4⟩
            dsimp only [lcIn]
            rw [h1]; dsimp only
            rw [h2]; dsimp only
            rw [h3]
            exact h4
          | true =>
            dsimp only at q
            rw [if_pos rfl] at q
            obtain ⟨r2, μ3, h4, q⟩ := q
            cases r2 with
            | error x => exact q.elim
            | ok y =>
              obtain ⟨acc', h5, h6, q⟩ := q
              obtain ⟨μ5, h7, q5⟩ := ih (k - 1) (i + 1) _ (by omega) (by omega) q
              refine ⟨μ5, ?_, q5⟩
              dsimp only [lcIn]
              rw [h1]; dsimp only
              rw [h2]; dsimp only
              rw [h3]; dsimp only
              rw [h4]; dsimp only
              rw [h5]; dsimp only
              rw [if_pos h6]
              exact h7
      · have e' : i = n := by omega
        subst e'
        obtain ⟨d1, d2⟩ := done μ' h
        exact ⟨μ', by dsimp only [lcIn]; rw [d1], d2⟩
  exact go w.fuel n 0 μ (by omega) hn h0
theorem wp_lc2 {w : Wk} {g : CG} {f : Env → M Bool} {it1 : Env → M Wk} {g1 : CG} {f1 : Env → M Bool} {e : Env → M D} {vs1 : List Nat} {P : D → List O → Prop} (n : Nat) (Inv : Nat → List O → Prop) (hn : n ≤ w.fuel) (h0 : Inv 0 (μ ++ [.lst []]))
    (step : ∀ i μ', i < n → Inv i μ' → ∃ d, w.get i μ' = some (some d) ∧ ∃ ρ1 μ1, g.run d ρ μ' = some (ρ1, μ1) ∧ Wp (f ρ1) μ1 (fun b μ2 => if b = true then
      Wp (it1 ρ1) μ2 (fun w1 μ3 => ∃ μ4, lcIn w1 g1 f1 e μ.length (wipeE ρ1 vs1) w1.fuel 0 μ3 = some μ4 ∧ Inv (i + 1) μ4) (fun _ _ => False)
      else Inv (i + 1) μ2) (fun _ _ => False))
    (done : ∀ μ', Inv n μ' → w.get n μ' = some none ∧ P (.ref μ.length) μ') : Wp (lcM2 w g f it1 g1 f1 e vs1 ρ) μ P E := by
  have go : ∀ m k i μ', i + k = n → k ≤ m → Inv i μ' → ∃ μ2, lcOut w g f it1 (inn2 g1 f1 e vs1 μ.length) μ.length ρ m i μ' = some (.ok (.ref μ.length), μ2) ∧ P (.ref μ.length) μ2 := by
    intro m
    induction m with
    | zero =>
      intro k i μ' e1 hk h
      have e' : i = n := by omega
      subst e'
      obtain ⟨d1, d2⟩ := done μ' h
      exact ⟨μ', by dsimp only [lcOut]; rw [d1], d2⟩
    | succ m ih =>
      intro k i μ' e1 hk h
      by_cases hi : i < n
      · obtain ⟨d, h1, ρ1, μ1, h2, r, μ2, h3, q⟩ := step i μ' hi h
        cases r with
        | error x => exact q.elim
        | ok b =>
          cases b with
          | false =>
            dsimp only at q
            rw [if_neg Bool.false_ne_true] at q
            obtain ⟨μ4, h4, q4⟩ := ih (k - 1) (i + 1) μ2 (by omega) (by omega) q
            refine ⟨μ4, ?_, q4⟩
            dsimp only [lcOut]
            rw [h1]; dsimp only
            rw [h2]; dsimp only
            rw [h3]
            exact h4
          | true =>
            dsimp only at q
            rw [if_pos rfl] at q
            obtain ⟨r2, μ3, h4, q⟩ := q
            cases r2 with
            | error x => exact q.elim
            | ok w1 =>
              obtain ⟨μ4, h5, q⟩ := q
              obtain ⟨μ5, h7, q5⟩ := ih (k - 1) (i + 1) _ (by omega) (by omega) q
              refine ⟨μ5, ?_, q5⟩
              dsimp only [lcOut]
              rw [h1]; dsimp only
              rw [h2]; dsimp only
              rw [h3]; dsimp only
              rw [h4]; dsimp only
              unfold inn2
              rw [h5]
              exact h7
      · have e' : i = n := by omega
        subst e'
        obtain ⟨d1, d2⟩ := done μ' h
        exact ⟨μ', by dsimp only [lcOut]; rw [d1], d2⟩
  obtain ⟨μ2, h1, h2⟩ := go w.fuel n 0 (μ ++ [.lst []]) (by omega) hn h0
  exact ⟨.ok (.ref μ.length), μ2, h1, h2⟩
end
end Mi
/-! Mi, part H: the store grows; what is seen stays; sizes. -/
namespace Mi
open PySem L2 PyProof.Rows

/-- all but the l-th object stays -/
structure Gr (l : Nat) (μ μ' : List O) : Prop where
  len : μ.length ≤ μ'.length
  at_ : ∀ (j : Nat) o, j ≠ l → μ[j]? = some o → μ'[j]? = some o
/-- all stays -/
structure Gr0 (μ μ' : List O) : Prop where
  len : μ.length ≤ μ'.length
  at_ : ∀ (j : Nat) o, μ[j]? = some o → μ'[j]? = some o
theorem Gr0.refl (μ : List O) : Gr0 μ μ := ⟨Nat.le_refl _, fun _ _ h => h⟩
theorem Gr0.trans {a b c : List O} (x : Gr0 a b) (y : Gr0 b c) : Gr0 a c := ⟨Nat.le_trans x.len y.len, fun j o h => y.at_ j o (x.at_ j o h)⟩
theorem Gr0.gr {l : Nat} {a b : List O} (x : Gr0 a b) : Gr l a b := ⟨x.len, fun j o _ h => x.at_ j o h⟩
theorem Gr.set_off {l L : Nat} {a b : List O} {o : O} (x : Gr l a b) (h : a.length ≤ L) : Gr l a (b.set L o) := ⟨by simpa using x.len, fun j p n e => by
  have := (List.getElem?_eq_some_iff.mp e).1
  rw [List.getElem?_set_ne (by omega)]
  exact x.at_ j p n e⟩
theorem Gr.off {l : Nat} {a b : List O} (x : Gr l a b) (h : a.length ≤ l) : Gr0 a b := ⟨x.len, fun j o e => x.at_ j o (by have := (List.getElem?_eq_some_iff.mp e).1; omega) e⟩
theorem Gr.refl (l : Nat) (μ : List O) : Gr l μ μ := ⟨Nat.le_refl _, fun _ _ _ h => h⟩
theorem Gr.trans {l : Nat} {a b c : List O} (x : Gr l a b) (y : Gr l b c) : Gr l a c := ⟨Nat.le_trans x.len y.len, fun j o n h => y.at_ j o n (x.at_ j o n h)⟩
theorem Gr0.app (μ ν : List O) : Gr0 μ (μ ++ ν) := ⟨by simp, fun j o h => by rw [List.getElem?_append_left (List.getElem?_eq_some_iff.mp h).1]; exact h⟩
theorem Gr.set (l : Nat) (μ : List O) (o : O) : Gr l μ (μ.set l o) := ⟨by simp, fun j o' n h => by rw [List.getElem?_set_ne (Ne.symm n)]; exact h⟩
theorem Gr0.put {l : Nat} {μ μ' : List O} {o : O} (x : Gr l μ μ') : Gr0 (μ.set l o) (μ'.set l o) := by
  refine ⟨by simpa using x.len, fun j o' h => ?_⟩
  by_cases hj : j = l
  · subst hj
    have hl : j < μ.length := by
      have := (List.getElem?_eq_some_iff.mp h).1
      simpa using this
    rw [List.getElem?_set_self hl] at h
    rw [List.getElem?_set_self (Nat.lt_of_lt_of_le hl x.len)]
    exact h
  · rw [List.getElem?_set_ne (Ne.symm hj)] at h ⊢
    exact x.at_ j o' hj h

theorem seeL_mono {f g : D → Option PyData} (h : ∀ d p, f d = some p → g d = some p) : ∀ {ds : List D} {ps : List PyData}, seeL f ds = some ps → seeL g ds = some ps
  | [], _, e => e
  | d :: ds, ps, e => by
    unfold seeL at e ⊢
    cases e1 : f d with
    | none => rw [e1] at e; cases e
    | some a =>
      cases e2 : seeL f ds with
      | none => rw [e1, e2] at e; cases e
      | some b =>
        rw [e1, e2] at e
        rw [h d a e1, seeL_mono h e2]
        exact e
theorem seeK_mono {f g : D → Option PyData} (h : ∀ d p, f d = some p → g d = some p) : ∀ {ds : List (Key × D)} {ps : List (PyData × PyData)}, seeK f ds = some ps → seeK g ds = some ps
  | [], _, e => e
  | (k, d) :: ds, ps, e => by
    unfold seeK at e ⊢
    cases e1 : f d with
    | none => rw [e1] at e; cases e
    | some a =>
      cases e2 : seeK f ds with
      | none => rw [e1, e2] at e; cases e
      | some b =>
        rw [e1, e2] at e
        rw [h d a e1, seeK_mono h e2]
        exact e
theorem see_mono {μ μ' : List O} (x : ∀ (j : Nat) o, μ[j]? = some o → μ'[j]? = some o) : ∀ {n m : Nat} {d : D} {p : PyData}, n ≤ m → see μ n d = some p → see μ' m d = some p
  | 0, _, _, _, _, h => by cases h
  | n + 1, 0, _, _, hm, _ => by omega
  | n + 1, m + 1, d, p, hm, h => by
    have ih : ∀ d p, see μ n d = some p → see μ' m d = some p := fun d p e => see_mono x (by omega) e
    cases d with
    | non => exact h
    | bl b => exact h
    | int i => exact h
    | str s => exact h
    | fro ds => cases h
    | tup ds =>
      have h' : (seeL (see μ n) ds).map PyData.tuple = some p := h
      show (seeL (see μ' m) ds).map PyData.tuple = some p
      cases e1 : seeL (see μ n) ds with
      | none => rw [e1] at h'; cases h'
      | some ps =>
        rw [e1] at h'
        rw [seeL_mono ih e1]
        exact h'
    | ref l =>
      cases e0 : μ[l]? with
      | none =>
        dsimp only [see] at h
        rw [e0] at h
        cases h
      | some o =>
        have e0' := x l o e0
        dsimp only [see] at h ⊢
        rw [e0] at h
        rw [e0']
        cases o with
        | lst ds =>
          dsimp only at h ⊢
          cases e1 : seeL (see μ n) ds with
          | none => rw [e1] at h; cases h
          | some ps =>
            rw [e1] at h
            rw [seeL_mono ih e1]
            exact h
        | dct ds =>
          dsimp only at h ⊢
          cases e1 : seeK (see μ n) ds with
          | none => rw [e1] at h; cases h
          | some ps =>
            rw [e1] at h
            rw [seeK_mono ih e1]
            exact h
/-- the type that a seen thing has -/
def tyP : PyData → String
  | .none => "NoneType"
  | .bool _ => "bool"
  | .int _ => "int"
  | .str _ => "str"
  | .tuple _ => "tuple"
  | .list _ => "list"
  | .dict _ => "dict"
theorem see_ty {μ : List O} {n : Nat} {d : D} {p : PyData} (h : see μ n d = some p) : tyN μ d = some (tyP p) := by
  cases n with
  | zero => cases h
  | succ n =>
    cases d with
    | non => cases h; rfl
    | bl b => cases h; rfl
    | int i => cases h; rfl
    | str s => cases h; rfl
    | fro ds => cases h
    | tup ds =>
      have h' : (seeL (see μ n) ds).map PyData.tuple = some p := h
      cases e1 : seeL (see μ n) ds with
      | none => rw [e1] at h'; cases h'
      | some ps => rw [e1] at h'; cases h'; rfl
    | ref l =>
      dsimp only [see] at h
      cases e0 : μ[l]? with
      | none => rw [e0] at h; cases h
      | some o =>
        rw [e0] at h
        cases o with
        | lst ds =>
          dsimp only at h
          cases e1 : seeL (see μ n) ds with
          | none => rw [e1] at h; cases h
          | some ps =>
            rw [e1] at h
            cases h
            dsimp only [tyN]
            rw [e0]
            rfl
        | dct ds =>
          dsimp only at h
          cases e1 : seeK (see μ n) ds with
          | none => rw [e1] at h; cases h
          | some ps =>
            rw [e1] at h
            cases h
            dsimp only [tyN]
            rw [e0]
            rfl
theorem seeL_len {f : D → Option PyData} : ∀ {ds : List D} {ps : List PyData}, seeL f ds = some ps → ds.length = ps.length
  | [], _, e => by cases e; rfl
  | d :: ds, ps, e => by
    unfold seeL at e
    cases e1 : f d with
    | none => rw [e1] at e; cases e
    | some a =>
      cases e2 : seeL f ds with
      | none => rw [e1, e2] at e; cases e
      | some b => rw [e1, e2] at e; cases e; simp [seeL_len e2]

/-! ### a thing that can be shown, whatever stands at l -/
/-- how big: w the weight -/
structure Fit (n w : Nat) (p : PyData) : Prop where
  sh : p.showable = true
  lv : p.leavesShort 2000 = true
  wt : p.weight ≤ w
  dp : p.depth ≤ n
theorem Fit.ok {n w : Nat} {p : PyData} (f : Fit n w p) (hn : n ≤ 60) (hw : w ≤ 8000) : reprOk p = true := by
  have h := PyData.shown_le 2000 (by omega) p f.lv
  have h2 : (2000 + 2) * p.weight ≤ 2002 * 8000 := Nat.mul_le_mul (Nat.le_refl _) (Nat.le_trans f.wt hw)
  have hs : sizeLine = 16777216 := sizeLine_eq
  unfold reprOk
  simp only [Bool.and_eq_true, decide_eq_true_eq]
  exact ⟨f.sh, by omega, Nat.le_trans f.dp hn⟩
/-- d is seen as p whatever stands at l -/
def Sn (l : Nat) (μ : List O) (n w : Nat) (d : D) : Prop := ∃ p, (∀ o, see (μ.set l o) (n + 1) d = some p) ∧ Fit n w p
theorem Sn.up {l : Nat} {μ μ' : List O} {n m w v : Nat} {d : D} (h : Sn l μ n w d) (x : Gr l μ μ') (hn : n ≤ m) (hw : w ≤ v) : Sn l μ' m v d := by
  obtain ⟨p, h1, h2⟩ := h
  exact ⟨p, fun o => see_mono (Gr0.put x).at_ (by omega) (h1 o), h2.sh, h2.lv, Nat.le_trans h2.wt hw, Nat.le_trans h2.dp hn⟩
theorem set_self {μ : List O} {l : Nat} {o : O} (h : μ[l]? = some o) : μ.set l o = μ := by
  apply List.ext_getElem?
  intro j
  by_cases hj : j = l
  · subst hj
    rw [List.getElem?_set_self (List.getElem?_eq_some_iff.mp h).1, h]
  · rw [List.getElem?_set_ne (Ne.symm hj)]
theorem Sn.see {l : Nat} {μ : List O} {n w : Nat} {d : D} (h : Sn l μ n w d) (hl : ∃ o, μ[l]? = some o) : ∃ p, see μ (n + 1) d = some p ∧ Fit n w p := by
  obtain ⟨p, h1, h2⟩ := h
  obtain ⟨o, e⟩ := hl
  refine ⟨p, ?_, h2⟩
  have := h1 o
  rw [set_self e] at this
  exact this
theorem int_leaf {i : Int} (h : i.natAbs.log2 < 1920) : (PyData.int i).leavesShort 2000 = true := by
  have := int_text_length_le (a := i) (k := 1920) (by omega) h
  have e : (PyData.shown (.int i)).length ≤ 2000 := by
    show (Str.ofString (toString i)).length ≤ 2000
    rw [PySem.ofString_length]
    omega
  simp only [PyData.leavesShort, decide_eq_true_eq]
  exact e
section
variable {l : Nat} {μ : List O} {n w v : Nat} {a b : D}
theorem sn_int {i : Int} (h : i.natAbs.log2 < 1920) (hw : 1921 ≤ w) : Sn l μ n w (.int i) := ⟨.int i, fun _ => rfl, by simp [PyData.showable, h], int_leaf h, by
  simp only [PyData.weight]
  split <;> omega, by simp [PyData.depth]⟩
theorem sn_bl {i : Bool} : Sn l μ n w (.bl i) := ⟨.bool i, fun _ => rfl, by simp [PyData.showable], by simp [PyData.leavesShort], by simp [PyData.weight], by simp [PyData.depth]⟩
theorem sn_non : Sn l μ n w .non := ⟨.none, fun _ => rfl, by simp [PyData.showable], by simp [PyData.leavesShort], by simp [PyData.weight], by simp [PyData.depth]⟩
theorem sn_str {x : Str} (hx : (x.cps.toList.all fun c => decide (c < 16 ^ 8)) = true) (hl : x.cps.size ≤ w) : Sn l μ n w (.str x) :=
  ⟨.str x, fun _ => rfl, by simp [PyData.showable], by simpa [PyData.leavesShort] using hx, by simpa [PyData.weight] using hl, by simp [PyData.depth]⟩
/-- several things -/
def Sns (l : Nat) (μ : List O) (n w : Nat) (ds : List D) : Prop := ∃ ps, (∀ o, seeL (see (μ.set l o) (n + 1)) ds = some ps) ∧ PyData.showableAll ps = true ∧ PyData.leavesShortAll 2000 ps = true ∧ PyData.weightAll ps ≤ w ∧ PyData.depthAll ps ≤ n
theorem sns_nil : Sns l μ n w [] := ⟨[], fun _ => rfl, by simp [PyData.showableAll], by simp [PyData.leavesShortAll], by simp [PyData.weightAll], by simp [PyData.depthAll]⟩
theorem sns_cons {ds : List D} (h : Sn l μ n w a) (hs : Sns l μ n v ds) : Sns l μ n (w + 1 + v) (a :: ds) := by
  obtain ⟨p, h1, h2⟩ := h
  obtain ⟨ps, h3, h4, h5, h6, h7⟩ := hs
  refine ⟨p :: ps, fun o => ?_, by simp [PyData.showableAll, h2.sh, h4], by simp [PyData.leavesShortAll, h2.lv, h5], ?_, ?_⟩
  · unfold seeL
    rw [h1 o, h3 o]
  · simp only [PyData.weightAll]
    have := h2.wt
    omega
  · simp only [PyData.depthAll]
    have := h2.dp
    omega
theorem Sns.up {μ' : List O} {m u : Nat} {ds : List D} (h : Sns l μ n w ds) (x : Gr l μ μ') (hn : n ≤ m) (hw : w ≤ u) : Sns l μ' m u ds := by
  obtain ⟨ps, h3, h4, h5, h6, h7⟩ := h
  exact ⟨ps, fun o => seeL_mono (fun d p e => see_mono (Gr0.put x).at_ (by omega) e) (h3 o), h4, h5, Nat.le_trans h6 hw, Nat.le_trans h7 hn⟩
theorem sn_tup {ds : List D} (h : Sns l μ n w ds) : Sn l μ (n + 1) w (.tup ds) := by
  obtain ⟨ps, h3, h4, h5, h6, h7⟩ := h
  refine ⟨.tuple ps, fun o => ?_, by simpa [PyData.showable] using h4, by simpa [PyData.leavesShort] using h5, by simpa [PyData.weight] using h6, by simp only [PyData.depth]; omega⟩
  show (seeL (see (μ.set l o) (n + 1)) ds).map PyData.tuple = _
  rw [h3 o]
  rfl
/-- a new list -/
theorem sn_new {ds : List D} (h : Sns l μ n w ds) (hl : l < μ.length) : Sn l (μ ++ [.lst ds]) (n + 1) w (.ref μ.length) := by
  have h' := h.up (Gr0.app μ [O.lst ds]).gr (Nat.le_refl _) (Nat.le_refl _)
  obtain ⟨ps, h3, h4, h5, h6, h7⟩ := h'
  refine ⟨.list ps, fun o => ?_, by simpa [PyData.showable] using h4, by simpa [PyData.leavesShort] using h5, by simpa [PyData.weight] using h6, by simp only [PyData.depth]; omega⟩
  have e : ((μ ++ [O.lst ds]).set l o)[μ.length]? = some (O.lst ds) := by
    rw [List.getElem?_set_ne (by omega), List.getElem?_append_right (Nat.le_refl _)]
    simp
  dsimp only [Mi.see]
  rw [e]
  show (seeL (see ((μ ++ [O.lst ds]).set l o) (n + 1)) ds).map PyData.list = _
  rw [h3 o]
  rfl
theorem sn_intB {i : Int} (B : Nat) (h : i.natAbs.log2 < B) (h1 : B ≤ 1920) (hw : B ≤ w) : Sn l μ n w (.int i) := ⟨.int i, fun _ => rfl, by simp [PyData.showable]; omega, int_leaf (by omega), by
  simp only [PyData.weight]
  split <;> omega, by simp [PyData.depth]⟩
theorem cps_ok (s : String) : ((Str.ofString s).cps.toList.all fun c => decide (c < 16 ^ 8)) = true := by
  rw [Str.ofString_eq_toList]
  simp only [List.all_eq_true, decide_eq_true_eq]
  intro x hx
  simp only [List.mem_map] at hx
  obtain ⟨c, _, rfl⟩ := hx
  have h1 : c.val.toNat < 4294967296 := c.val.toNat_lt
  show c.val.toNat < _
  omega
/-- an int's text -/
theorem sn_strI {i : Int} (B : Nat) (h0 : 0 < B) (h : i.natAbs.log2 < B) (hw : B + 1 ≤ w) : Sn l μ n w (.str (Str.ofString (toString i))) := by
  refine sn_str (cps_ok _) ?_
  have := int_text_length_le (a := i) h0 h
  show (Str.ofString (toString i)).length ≤ w
  rw [PySem.ofString_length]
  omega
theorem sn_strL (s : String) (hw : s.length ≤ w) : Sn l μ n w (.str (Str.ofString s)) := by
  refine sn_str (cps_ok _) ?_
  show (Str.ofString s).length ≤ w
  rw [PySem.ofString_length]
  exact hw
theorem sn_lst {ds : List D} {j : Nat} (h : Sns l μ n w ds) (hj : μ[j]? = some (.lst ds)) (hn : j ≠ l) : Sn l μ (n + 1) w (.ref j) := by
  obtain ⟨ps, h3, h4, h5, h6, h7⟩ := h
  refine ⟨.list ps, fun o => ?_, by simpa [PyData.showable] using h4, by simpa [PyData.leavesShort] using h5, by simpa [PyData.weight] using h6, by simp only [PyData.depth]; omega⟩
  have e : (μ.set l o)[j]? = some (O.lst ds) := by
    rw [List.getElem?_set_ne (Ne.symm hn)]
    exact hj
  dsimp only [Mi.see]
  rw [e]
  show (seeL (see (μ.set l o) (n + 1)) ds).map PyData.list = _
  rw [h3 o]
  rfl
/-- a dict of one entry -/
theorem sn_dct1 {kk : Key} {d : D} {j : Nat} (hk : Fit 0 v (keyP kk)) (h : Sn l μ n w d) (hj : μ[j]? = some (.dct [(kk, d)])) (hn : j ≠ l) : Sn l μ (n + 1) (v + w + 2) (.ref j) := by
  obtain ⟨p, h3, h4, h5, h6, h7⟩ := h
  obtain ⟨k1, k2, k3, k4⟩ := hk
  refine ⟨.dict [(keyP kk, p)], fun o => ?_, by simp [PyData.showable, PyData.showableKv, k1, h4], by simp [PyData.leavesShort, PyData.leavesShortKv, k2, h5], by simp only [PyData.weight, PyData.weightKv]; omega, by simp only [PyData.depth, PyData.depthKv]; omega⟩
  have e : (μ.set l o)[j]? = some (O.dct [(kk, d)]) := by
    rw [List.getElem?_set_ne (Ne.symm hn)]
    exact hj
  dsimp only [Mi.see]
  rw [e]
  show (seeK (see (μ.set l o) (n + 1)) [(kk, d)]).map PyData.dict = _
  unfold seeK
  rw [h3 o]
  rfl
theorem fit_keyI {i : Int} (B : Nat) (h : i.natAbs.log2 < B) (h1 : B ≤ 1920) (hw : B ≤ w) : Fit n w (keyP (.inl i)) := by
  obtain ⟨p, h1, h2⟩ := sn_intB (l := 0) (μ := []) (n := n) (w := w) (i := i) B h h1 hw
  have := h1 (O.lst [])
  cases this
  exact h2
theorem fit_keyS (s : String) (hw : s.length ≤ w) : Fit n w (keyP (.inr (Str.ofString s))) := by
  obtain ⟨p, h1, h2⟩ := sn_strL (l := 0) (μ := []) (n := n) (w := w) s hw
  have := h1 (O.lst [])
  cases this
  exact h2
theorem sns_c {ds : List D} {u : Nat} (h : Sn l μ n w a) (hs : Sns l μ n v ds) (hu : w + 1 + v ≤ u) : Sns l μ n u (a :: ds) := (sns_cons h hs).up (Gr.refl _ _) (Nat.le_refl _) hu
theorem sns_n : Sns l μ n w [] := sns_nil
theorem sn_t0 : Sn l μ (n + 1) w (.tup []) := sn_tup sns_n
theorem sn_t1 (w : Nat) (h : Sn l μ n w a) (hv : w + 1 ≤ v) : Sn l μ (n + 1) v (.tup [a]) := sn_tup (sns_c h (sns_n (w := 0)) hv)
theorem sn_t2 (w : Nat) (h : Sn l μ n w a) (k : Sn l μ n w b) (hv : 2 * w + 2 ≤ v) : Sn l μ (n + 1) v (.tup [a, b]) := sn_tup (sns_c h (sns_c k (sns_n (w := 0)) (Nat.le_refl _)) (by omega))
theorem sn_t3 {c : D} (w : Nat) (h : Sn l μ n w a) (k : Sn l μ n w b) (m : Sn l μ n w c) (hv : 3 * w + 3 ≤ v) : Sn l μ (n + 1) v (.tup [a, b, c]) := sn_tup (sns_c h (sns_c k (sns_c m (sns_n (w := 0)) (Nat.le_refl _)) (Nat.le_refl _)) (by omega))
theorem sn_l1 {j : Nat} (w : Nat) (h : Sn l μ n w a) (hv : w + 1 ≤ v) (hj : μ[j]? = some (.lst [a])) (hn : j ≠ l) : Sn l μ (n + 1) v (.ref j) := sn_lst (sns_c h (sns_n (w := 0)) hv) hj hn
theorem sn_l2 {j : Nat} (w : Nat) (h : Sn l μ n w a) (k : Sn l μ n w b) (hv : 2 * w + 2 ≤ v) (hj : μ[j]? = some (.lst [a, b])) (hn : j ≠ l) : Sn l μ (n + 1) v (.ref j) := sn_lst (sns_c h (sns_c k (sns_n (w := 0)) (Nat.le_refl _)) (by omega)) hj hn
theorem log2_mono {a b : Nat} (h : a ≤ b) : a.log2 ≤ b.log2 := by
  by_cases h0 : a = 0
  · subst h0; simp
  · exact (Nat.le_log2 (by omega)).mpr (Nat.le_trans (Nat.log2_self_le h0) h)
/-- a number of at most 31 digits -/
theorem sn_i {i : Int} (h : i.natAbs ≤ 2 * 10 ^ 30) (hw : 102 ≤ w) : Sn l μ n w (.int i) := sn_intB 102 (Nat.lt_of_le_of_lt (log2_mono h) (by decide)) (by omega) hw
theorem Sn.wide {m u : Nat} (h : Sn l μ n w a) (hn : n ≤ m) (hw : w ≤ u) : Sn l μ m u a := h.up (Gr.refl _ _) hn hw
theorem Sn.see_out (h : Sn l μ n w a) (hl : μ.length ≤ l) : ∃ p, Mi.see μ (n + 1) a = some p ∧ Fit n w p := by
  obtain ⟨p, h1, h2⟩ := h
  refine ⟨p, ?_, h2⟩
  have := h1 (.lst [])
  rwa [List.set_eq_of_length_le hl] at this
theorem see_lst {i j : Nat} {ds : List D} (h1 : μ[i]? = some (.lst ds)) (h2 : μ[j]? = some (.lst ds)) : see μ n (.ref i) = see μ n (.ref j) := by
  cases n with
  | zero => rfl
  | succ n =>
    show (match μ[i]? with | some (.lst ds) => (seeL (see μ n) ds).map PyData.list | some (.dct kvs) => _ | none => _) = (match μ[j]? with | some (.lst ds) => _ | some (.dct kvs) => _ | none => _)
    rw [h1, h2]
end
end Mi
/-! S1: codes that many laws share (fractions; the laws' own draws), and what they do. -/
namespace Std
open PySem L2 PyProof.Rows Mi
local macro_rules | `(tactic| walk_at "mi") => `(tactic| simp only [wp_mir, ws_cons, ws_nil, nx_nx, nx_rt, nx_bk, nx_ct, nx_er, fn_nx, fn_rt, fn_er, ws_asgN, ws_asgT, gs_cons, gs_nil, ex_tup, ex_pr, ws_asgS, ws_of, ws_some, wp_bnd, wp_ret, wp_new, ws_ite, wp_iteB, wp_stop,
  r_var, r_int, r_bl, r_str, r_non, r_glo, r_nil, r_cons, r_tup, r_lst, r_bin, r_cmp, r_tcmp, r_tval, r_tnot, r_and1, r_or1, r_and, r_or, r_if, r_vone, r_vand, r_vor, r_not, r_neg, r_chain, r_tchain,
  r_ix, r_slice, r_ono, r_oyes, r_B, r_call, r_call0, r_isi, s_expr, s_ret, s_if, s_par, s_while, s_for, s_brk, s_cont, s_pass, s_retN, i_T, i_L, i_A, i_En, i_Zp, i_Zp3, r_step, o_stepM, o_stepD, r_rev, r_J, j_nil, j_lit, j_fmt, s_par3, o_isBt, o_isBn, o_fmtI, o_fmtS, o_put, o_sw, o_ls, o_part, r_callK, r_kNil, r_kCons, r_m0, r_m, f_nil, f_one, s_asg2, s_setLc, r_lc, s_setLc2, r_lc2, o_revT, o_revL, o_max, o_min, o_all, o_any, o_aT, o_aF, o_aL, o_aS, o_enT, o_enL, o_zipT, o_zipL, fuelE, fuelZ, fuelS, o_mulL, o_mulS, o_isTL, o_isTS, q_nil, q_cons, r_dict, r_dict0, kd_nil, kd_S, Option.map_some, wp_dctE, ex_dct, ix_refS, setL_S, o_isTD, wp_dget1, wp_dget2, wp_popA0, wp_app, wp_pop, i_R1, i_R2,
  List.map_cons, List.map_nil, List.replicate_succ, List.replicate_zero, List.nil_append, List.cons_append, List.length_cons, List.length_nil, Nat.reduceAdd, Nat.add_assoc, Nat.zero_add, Nat.add_zero, Nat.reduceSub, true_and, getV, List.getElem?_cons_zero, List.getElem?_cons_succ, List.set_cons_zero, List.set_cons_succ,
  o_add, o_addS, o_addT, o_addL, o_sub, o_mul, o_fdiv, o_mod, o_pow, o_neg, o_lt, o_le, o_gt, o_ge, o_eq, o_eqS, o_eqB, o_ne, o_neS, o_neB, o_is, o_isn, o_asB, o_asI, o_lenT, o_lenF, o_lenL, o_abs', o_int, o_intB, o_str, o_slT, o_slF, o_slL, o_listT, o_listF, o_listL, o_tupT, o_tupL, o_newL, o_seqF, o_seqL, o_tupW, o_rng1, o_rng2, fuelOf, fuelL, fuelR, wp_isi, tyN_int, tyN_bl, tyN_str, tyN_non, tyN_tup, tyN_fro, iS_NoneType, iS_bool, iS_int, iS_str, iS_tuple, iS_list, iS_dict, List.length_append, List.length_map, List.length_set,
  wp_lstE, setL_E, ex_lst, ex_n, at_off, at_off0, wp_withNew, o_keyI, o_keyS, wp_setE, set_off, set_off0, r_dict1, trn_nx, trn_ct, trn_bk, trn_rt, trn_er, List.append_assoc, List.getElem?_append_left, List.set_set, List.getElem?_set_self, wp_need, ix_ref, Mi.ix_tup, ix_fro, atD_0, atD_1, atD_2, decide_eq_true_eq, Bool.false_eq_true, false_implies, not_false_eq_true, true_implies, not_true_eq_false, Bool.true_eq_false, and_true, if_true, if_false, Int.cast_ofNat_Int, Int.reduceEq, Int.reduceLT, Int.reduceLE, decide_true, decide_false, Bool.not_true, Bool.not_false, reduceIte, eq_self, Nat.reduceLeDiff])
local macro_rules | `(tactic| walk_at "mi*") => `(tactic| simp only [wp_mir, ws_cons, ws_nil, nx_nx, nx_rt, nx_bk, nx_ct, nx_er, fn_nx, fn_rt, fn_er, ws_asgN, ws_asgT, gs_cons, gs_nil, ex_tup, ex_pr, ws_asgS, ws_of, ws_some, wp_bnd, wp_ret, wp_new, ws_ite, wp_iteB, wp_stop,
  r_var, r_int, r_bl, r_str, r_non, r_glo, r_nil, r_cons, r_tup, r_lst, r_bin, r_cmp, r_tcmp, r_tval, r_tnot, r_and1, r_or1, r_and, r_or, r_if, r_vone, r_vand, r_vor, r_not, r_neg, r_chain, r_tchain,
  r_ix, r_slice, r_ono, r_oyes, r_B, r_call, r_call0, r_isi, s_expr, s_ret, s_if, s_par, s_while, s_for, s_brk, s_cont, s_pass, s_retN, i_T, i_L, i_A, i_En, i_Zp, i_Zp3, r_step, o_stepM, o_stepD, r_rev, r_J, j_nil, j_lit, j_fmt, s_par3, o_isBt, o_isBn, o_fmtI, o_fmtS, o_put, o_sw, o_ls, o_part, r_callK, r_kNil, r_kCons, r_m0, r_m, f_nil, f_one, s_asg2, s_setLc, r_lc, s_setLc2, r_lc2, o_revT, o_revL, o_max, o_min, o_all, o_any, o_aT, o_aF, o_aL, o_aS, o_enT, o_enL, o_zipT, o_zipL, fuelE, fuelZ, fuelS, o_mulL, o_mulS, o_isTL, o_isTS, q_nil, q_cons, r_dict, r_dict0, kd_nil, kd_S, Option.map_some, wp_dctE, ex_dct, ix_refS, setL_S, o_isTD, wp_dget1, wp_dget2, wp_popA0, wp_app, wp_pop, i_R1, i_R2,
  List.map_cons, List.map_nil, List.replicate_succ, List.replicate_zero, List.nil_append, List.cons_append, List.length_cons, List.length_nil, Nat.reduceAdd, Nat.add_assoc, Nat.zero_add, Nat.add_zero, Nat.reduceSub, true_and, getV, List.getElem?_cons_zero, List.getElem?_cons_succ, List.set_cons_zero, List.set_cons_succ,
  o_add, o_addS, o_addT, o_addL, o_sub, o_mul, o_fdiv, o_mod, o_pow, o_neg, o_lt, o_le, o_gt, o_ge, o_eq, o_eqS, o_eqB, o_ne, o_neS, o_neB, o_is, o_isn, o_asB, o_asI, o_lenT, o_lenF, o_lenL, o_abs', o_int, o_intB, o_str, o_slT, o_slF, o_slL, o_listT, o_listF, o_listL, o_tupT, o_tupL, o_newL, o_seqF, o_seqL, o_tupW, o_rng1, o_rng2, fuelOf, fuelL, fuelR, wp_isi, tyN_int, tyN_bl, tyN_str, tyN_non, tyN_tup, tyN_fro, iS_NoneType, iS_bool, iS_int, iS_str, iS_tuple, iS_list, iS_dict, List.length_append, List.length_map, List.length_set,
  wp_lstE, setL_E, ex_lst, ex_n, at_off, at_off0, wp_withNew, o_keyI, o_keyS, wp_setE, set_off, set_off0, r_dict1, trn_nx, trn_ct, trn_bk, trn_rt, trn_er, List.append_assoc, List.getElem?_append_left, List.set_set, List.getElem?_set_self, wp_need, ix_ref, Mi.ix_tup, ix_fro, atD_0, atD_1, atD_2, decide_eq_true_eq, Bool.false_eq_true, false_implies, not_false_eq_true, true_implies, not_true_eq_false, Bool.true_eq_false, and_true, if_true, if_false, Int.cast_ofNat_Int, Int.reduceEq, Int.reduceLT, Int.reduceLE, decide_true, decide_false, Bool.not_true, Bool.not_false, reduceIte, eq_self, Nat.reduceLeDiff, *])
def c_is_whole : CB := (bCons (sRet (vAnd (cIsi "int" "int" (cVar 0)) (vOne .And (cNot (cIsi "bool" "bool" (cVar 0))))))
  bNil)
def m_is_whole : List D → M D := mir 1 1 c_is_whole.run
def c_shared_by : CB := (bCons (sWhile (fun ρ => gas 1 ρ) (tCmpC .NotEq neD (cVar 1) (cInt 0)) (bCons (sPar 0 1 (cVar 1) (cBin .Mod modD (cVar 0) (cVar 1)))
  bNil))
  (bCons (sRet (cVar 0))
  bNil))
def m_shared_by : List D → M D := mir 2 2 c_shared_by.run
def c_is_fraction : CB := (bCons (sIf (wOr (tNotC (tVal (cIsi "tuple" "tuple" (cVar 0)))) (wOr (tCmpC .NotEq neD (cB "len" lenD (aCons (cVar 0) aNil)) (cInt 2)) (wOr (tNotC (tVal (cCall "is_whole" m_is_whole (aCons (cIx (cVar 0) (cInt 0)) aNil)))) (wOr1 (tNotC (tVal (cCall "is_whole" m_is_whole (aCons (cIx (cVar 0) (cInt 1)) aNil)))))))) (bCons (sRet (cBl false))
  bNil) bNil)
  (bCons (sRet (vAnd (cCmp .GtE geD (cIx (cVar 0) (cInt 1)) (cInt 1)) (vOne .And (cCmp .Eq eqD (cCall "shared_by" m_shared_by (aCons (cB "abs" absD (aCons (cIx (cVar 0) (cInt 0)) aNil)) (aCons (cIx (cVar 0) (cInt 1)) aNil))) (cInt 1)))))
  bNil))
def m_is_fraction : List D → M D := mir 1 1 c_is_fraction.run
def c_l_begin : CB := (bCons (sPar 3 4 (cIf (tCmpC .Lt ltD (cVar 1) (cB "len" lenD (aCons (cVar 0) aNil))) (cIx (cVar 0) (cVar 1)) (cInt 0)) (cBin .Add addD (cBin .Mult mulD (cInt 104729) (cVar 1)) (cInt 17)))
  (bCons (sFor (gN 2) (iA (cBin .Add addD (cLst (aCons (cVar 3) aNil)) (cSlice (cVar 0) oNo (oYes (cInt 60))))) (bCons (sAsg (gN 4) (cBin .Mod modD (cBin .Add addD (cBin .Add addD (cBin .Mult mulD (cVar 4) (cInt 636413622399)) (cBin .Mult mulD (cInt 2) (cB "abs" absD (aCons (cVar 2) aNil)))) (cB "int" intTx (aCons (cCmp .Lt ltD (cVar 2) (cInt 0)) aNil))) (cInt 2305843009213693951)))
  bNil))
  (bCons (sRet (cLst (aCons (cIf (tCmpC .GtE geD (cB "abs" absD (aCons (cVar 3) aNil)) (cBin .Pow powD (cInt 10) (cInt 18))) (cB "abs" absD (aCons (cVar 3) aNil)) (cInt 0)) (aCons (cVar 4) (aCons (cInt 0) aNil)))))
  bNil)))
def m_l_begin : List D → M D := mir 5 2 c_l_begin.run
def c_l_draw : CB := (bCons (sIf (tCmpC .Gt gtD (cIx (cVar 0) (cInt 0)) (cInt 0)) (bCons (sAsg (gN 4) (cBin .Mod modD (cIx (cVar 0) (cInt 0)) (cVar 1)))
  (bCons (sAsg (gS (cVar 0) (cInt 0)) (cBin .FloorDiv fdivD (cIx (cVar 0) (cInt 0)) (cVar 1)))
  (bCons (sRet (cVar 4))
  bNil))) bNil)
  (bCons (sAsg (gS (cVar 0) (cInt 2)) (cBin .Add addD (cIx (cVar 0) (cInt 2)) (cInt 1)))
  (bCons (sAsg (gN 2) (cIx (cVar 0) (cInt 2)))
  (bCons (sAsg (gN 3) (cBin .Mod modD (cBin .Mult mulD (cBin .Add addD (cIx (cVar 0) (cInt 1)) (cBin .Mult mulD (cInt 40503) (cVar 2))) (cBin .Add addD (cBin .Mult mulD (cBin .Mult mulD (cVar 2) (cVar 2)) (cInt 65539)) (cInt 97))) (cInt 2305843009213693921)))
  (bCons (sAsg (gN 3) (cBin .Mod modD (cBin .Mult mulD (cVar 3) (cBin .Add addD (cBin .Mod modD (cVar 3) (cInt 1000003)) (cVar 2))) (cInt 2305843009213693907)))
  (bCons (sRet (cBin .Mod modD (cBin .FloorDiv fdivD (cVar 3) (cInt 8191)) (cVar 1)))
  bNil))))))
def m_l_draw : List D → M D := mir 5 2 c_l_draw.run
def c_l_shared : CB := (bCons (sWhile (fun ρ => gas 1 ρ) (tCmpC .NotEq neD (cVar 1) (cInt 0)) (bCons (sPar 0 1 (cVar 1) (cBin .Mod modD (cVar 0) (cVar 1)))
  bNil))
  (bCons (sRet (cVar 0))
  bNil))
def m_l_shared : List D → M D := mir 2 2 c_l_shared.run
def c_l_made : CB := (bCons (sPar 2 3 (cCall "_law_shared" m_l_shared (aCons (cB "abs" absD (aCons (cVar 0) aNil)) (aCons (cB "abs" absD (aCons (cVar 1) aNil)) aNil))) (cBin .Sub subD (cInt 1) (cBin .Mult mulD (cInt 2) (cB "int" intTx (aCons (cCmp .Lt ltD (cVar 1) (cInt 0)) aNil)))))
  (bCons (sRet (cTup (aCons (cBin .FloorDiv fdivD (cBin .Mult mulD (cVar 3) (cVar 0)) (cVar 2)) (aCons (cBin .FloorDiv fdivD (cBin .Mult mulD (cVar 3) (cVar 1)) (cVar 2)) aNil))))
  bNil))
def m_l_made : List D → M D := mir 4 2 c_l_made.run
def c_l_whole : CB := (bCons (sAsg (gN 1) (cLst (aCons (cInt 0) (aCons (cInt 1) (aCons (cNeg (cInt 1)) (aCons (cBin .Sub subD (cCall "_law_draw" m_l_draw (aCons (cVar 0) (aCons (cInt 19) aNil))) (cInt 9)) (aCons (cCall "_law_draw" m_l_draw (aCons (cVar 0) (aCons (cBin .Pow powD (cInt 10) (cInt 6)) aNil))) (aCons (cBin .Sub subD (cCall "_law_draw" m_l_draw (aCons (cVar 0) (aCons (cBin .Mult mulD (cInt 2) (cBin .Pow powD (cInt 10) (cInt 30))) aNil))) (cBin .Pow powD (cInt 10) (cInt 30))) aNil))))))))
  (bCons (sRet (cIx (cVar 1) (cCall "_law_draw" m_l_draw (aCons (cVar 0) (aCons (cInt 6) aNil)))))
  bNil))
def m_l_whole : List D → M D := mir 2 1 c_l_whole.run
def c_l_some : CB := (bCons (sAsg (gN 1) (cIx (cLst (aCons (cInt 1) (aCons (cBin .Add addD (cInt 1) (cCall "_law_draw" m_l_draw (aCons (cVar 0) (aCons (cInt 9) aNil)))) (aCons (cBin .Add addD (cInt 1) (cCall "_law_draw" m_l_draw (aCons (cVar 0) (aCons (cBin .Pow powD (cInt 10) (cInt 6)) aNil)))) (aCons (cBin .Add addD (cInt 1) (cCall "_law_draw" m_l_draw (aCons (cVar 0) (aCons (cBin .Pow powD (cInt 10) (cInt 20)) aNil)))) aNil))))) (cCall "_law_draw" m_l_draw (aCons (cVar 0) (aCons (cInt 4) aNil)))))
  (bCons (sRet (cCall "_law_made" m_l_made (aCons (cCall "_law_whole" m_l_whole (aCons (cVar 0) aNil)) (aCons (cVar 1) aNil))))
  bNil))
def m_l_some : List D → M D := mir 2 1 c_l_some.run
/-! ### the greatest common divisor -/
theorem gcd_turn {a b : Nat} (h : b ≠ 0) : Nat.gcd a b = Nat.gcd b (a % b) := by
  rw [Nat.gcd_comm a b, Nat.gcd_rec b a, Nat.gcd_comm]
theorem fmod_nat (a b : Nat) : Int.fmod (a : Int) (b : Int) = ((a % b : Nat) : Int) := by
  rw [Int.fmod_eq_emod_of_nonneg _ (by omega)]
  simp
theorem run_shared : ∀ (a b : Nat) (μ : List O) (E : Ex → List O → Prop), Wp (m_shared_by [.int a, .int b]) μ (fun r μ' => r = .int (Nat.gcd a b) ∧ μ' = μ) E := by
  intro a b μ E
  have loop : ∀ (n a b : Nat) (S : SR → List O → Prop), b < n → S (.nx [some (.int (Nat.gcd a b)), some (.int 0)]) μ →
      Ws (whl (tCmpC .NotEq neD (cVar 1) (cInt 0)).run (bCons (sPar 0 1 (cVar 1) (cBin .Mod modD (cVar 0) (cVar 1))) bNil).run n [some (.int a), some (.int b)]) μ S := by
    intro n
    induction n with
    | zero => intro a b S h; omega
    | succ n ih =>
      intro a b S h k
      rw [ws_whl]
      walk_at "mi"
      by_cases hb : b = 0
      · subst hb
        simp [decide_eq_true] at k ⊢
        exact k
      · have hd : decide ((b : Int) = 0) = false := decide_eq_false (by omega)
        rw [hd]
        simp only [Bool.not_false, if_true, Trn]
        have hb' : (b : Int) ≠ 0 := by omega
        refine ⟨hb', ?_⟩
        rw [fmod_nat]
        refine ih b (a % b) S (Nat.lt_of_lt_of_le (Nat.mod_lt a (by omega)) (by omega)) ?_
        rw [← gcd_turn hb]
        exact k
  unfold m_shared_by c_shared_by
  walk_at "mi"
  show Ws (whl _ _ ((b : Int).natAbs + 1) _) μ _
  refine loop _ a b _ (by simp) ?_
  walk_at "mi"
/-! ### draws -/
def Pot (μ : List O) (l n : Nat) : Prop := ∃ a b c : Int, μ[l]? = some (.lst [.int a, .int b, .int c]) ∧ 0 ≤ a ∧ 0 ≤ b ∧ b < 2305843009213693951 ∧ 0 ≤ c ∧ c ≤ n
theorem mulOk_l {i j : Int} (h1 : -18446744073709551616 < i) (h2 : i < 18446744073709551616) : mulOk i j := .inl (.inl ⟨h1, h2⟩)
theorem mulOk_r {i j : Int} (h1 : -18446744073709551616 < j) (h2 : j < 18446744073709551616) : mulOk i j := .inl (.inr ⟨h1, h2⟩)
theorem run_draw {μ : List O} {l n : Nat} {many : Int} {E : Ex → List O → Prop} (h : Pot μ l n) (hn : n ≤ 1000000) (h0 : 0 < many) (h9 : many.natAbs.log2 < 400000) :
    Wp (m_l_draw [.ref l, .int many]) μ (fun r μ' => (∃ d, r = .int d ∧ 0 ≤ d ∧ d < many) ∧ Pot μ' l (n + 1) ∧ Gr l μ μ') E := by
  obtain ⟨a, b, c, hl, ha, hb, hb2, hc, hc2⟩ := h
  have hlt : l < μ.length := (List.getElem?_eq_some_iff.mp hl).1
  unfold m_l_draw c_l_draw
  have i0 : ixN 3 0 = some 0 := rfl
  have i2 : ixN 3 2 = some 2 := rfl
  walk_at "mi*"
  have m9 : many ≠ 0 := by omega
  refine ⟨fun h => ⟨m9, m9, ⟨_, rfl, Int.fmod_nonneg_of_pos _ h0, Int.fmod_lt_of_pos _ h0⟩, ⟨_, _, _, at_set hl, Int.fdiv_nonneg ha (by omega), hb, hb2, hc, by omega⟩, Gr.set _ _ _⟩,
    fun h => ⟨mulOk_l (by omega) (by omega), mulOk_l (by omega) (by omega), mulOk_r (by omega) (by omega), mulOk_l (by omega) (by omega), by omega, by omega, ?_, by omega, by decide, m9, ⟨_, rfl, Int.fmod_nonneg_of_pos _ h0, Int.fmod_lt_of_pos _ h0⟩, ⟨_, _, _, at_set hl, ha, hb, hb2, by omega, by omega⟩, Gr.set _ _ _⟩⟩
  generalize (b + 40503 * (c + 1)) * ((c + 1) * (c + 1) * 65539 + 97) = z
  have y1 := Int.fmod_nonneg_of_pos z (b := 2305843009213693921) (by omega)
  have y2 := Int.fmod_lt_of_pos z (b := 2305843009213693921) (by omega)
  exact mulOk_l (by omega) (by omega)
theorem run_begin {ns : List Int} {k : Nat} {μ : List O} {E : Ex → List O → Prop} (hk : k ≤ 63) :
    Wp (m_l_begin [scr ns, .int k]) μ (fun r μ' => ∃ l, r = .ref l ∧ μ.length ≤ l ∧ Pot μ' l 0 ∧ Gr0 μ μ') E := by
  unfold m_l_begin c_l_begin scr
  have at_ : ∀ h : k < ns.length, atD (List.map D.int ns) k = M.ret (.int ns[k]) := fun h => atD_nat (by rw [List.getElem?_map, List.getElem?_eq_getElem h]; rfl)
  have cl : (Mi.cutD ns none (some 60)).length ≤ 60 := by
    simp [Mi.cutD, HT.sIx]
    omega
  have hs : sizeLine = 16777216 := sizeLine_eq
  have p18 : powOk 10 18 := by decide
  by_cases h : k < ns.length
  all_goals
    first
    | have e := at_ h
      have h' : (k : Int) < ns.length := by omega
      walk_at "mi*"
    | have h' : ¬ ((k : Int) < ns.length) := by omega
      walk_at "mi*"
    rw [cut_map, List.length_map]
    refine ⟨mulOk_l (by omega) (by omega), by omega, ?_⟩
    generalize Mi.cutD ns none (some 60) = xs at cl ⊢
    first
    | generalize ns[k] = c
    | obtain ⟨c, h0⟩ : ∃ c : Int, D.int 0 = D.int c := ⟨0, rfl⟩
      rw [h0]
      clear h0
    rw [show 1 + xs.length = (D.int c :: List.map D.int xs).length by simp [Nat.add_comm]]
    refine ws_forL (fun i ρ μ' => μ' = μ ++ [O.lst [D.int c], O.lst (List.map D.int xs), O.lst (D.int c :: List.map D.int xs)] ∧ ∃ x s, ρ = [some (D.fro (List.map D.int ns)), some (D.int k), x, some (.int c), some (.int s)] ∧ 0 ≤ s ∧ (0 < i → s < 2305843009213693951)) ?_ ?_ ?_ ?_
    · exact ⟨rfl, _, _, rfl, by omega, fun z => absurd z (by omega)⟩
    · rintro i ρ _ ⟨rfl, _⟩
      rw [at_off]
      rfl
    · rintro i d ρ _ hd ⟨rfl, x, s, rfl, h1, h2⟩
      have hd' : d ∈ (c :: xs).map D.int := List.mem_of_getElem? (by exact hd)
      obtain ⟨z, _, rfl⟩ := List.mem_map.mp hd'
      refine ⟨_, _, rfl, ?_⟩
      walk_at "mi*"
      refine ⟨mulOk_r (by omega) (by omega), mulOk_l (by omega) (by omega), by omega, _, _, rfl, Int.fmod_nonneg_of_pos _ (by omega), fun _ => Int.fmod_lt_of_pos _ (by omega)⟩
    · rintro ρ _ ⟨rfl, x, s, rfl, h1, h2⟩
      have h3 := h2 (by simp)
      walk_at "mi*"
      exact ⟨fun _ => ⟨_, rfl, by omega, ⟨_, _, _, at_off, by omega, h1, h3, by omega, by omega⟩, Gr0.app _ _⟩, fun _ => ⟨_, rfl, by omega, ⟨_, _, _, at_off, by omega, h1, h3, by omega, by omega⟩, Gr0.app _ _⟩⟩
/-! ### fractions -/
theorem run_lshared (a b : Nat) (μ : List O) (E : Ex → List O → Prop) : Wp (m_l_shared [.int a, .int b]) μ (fun r μ' => r = .int (Nat.gcd a b) ∧ μ' = μ) E := run_shared a b μ E
theorem fdiv_mul {a g : Int} (h : g ∣ a) : a.fdiv g * g = a := by
  rw [Int.fdiv_eq_ediv_of_dvd h]
  exact Int.ediv_mul_cancel h
/-- what a made fraction is -/
structure Made (t low a b : Int) : Prop where
  pos : 0 < b
  low_ : Nat.gcd a.natAbs b.natAbs = 1
  eq : a * low = t * b
  sa : a.natAbs ≤ t.natAbs
  sb : b.natAbs ≤ low.natAbs
theorem made_of {t low s : Int} (h : low ≠ 0) (hs : s * low = low.natAbs) (hs1 : s = 1 ∨ s = -1) : Made t low ((s * t).fdiv (Nat.gcd t.natAbs low.natAbs : Nat)) ((s * low).fdiv (Nat.gcd t.natAbs low.natAbs : Nat)) := by
  have hg : 0 < Nat.gcd t.natAbs low.natAbs := Nat.gcd_pos_of_pos_right _ (by omega)
  have e1 : (s * t).fdiv (Nat.gcd t.natAbs low.natAbs : Nat) * (Nat.gcd t.natAbs low.natAbs : Nat) = s * t := fdiv_mul (Int.dvd_mul_of_dvd_right (Int.ofNat_dvd_left.mpr (Nat.gcd_dvd_left _ _)))
  have e2 : (s * low).fdiv (Nat.gcd t.natAbs low.natAbs : Nat) * (Nat.gcd t.natAbs low.natAbs : Nat) = s * low := fdiv_mul (Int.dvd_mul_of_dvd_right (Int.ofNat_dvd_left.mpr (Nat.gcd_dvd_right _ _)))
  generalize (s * t).fdiv (Nat.gcd t.natAbs low.natAbs : Nat) = a at e1 ⊢
  generalize (s * low).fdiv (Nat.gcd t.natAbs low.natAbs : Nat) = b at e2 ⊢
  have n1 : a.natAbs * Nat.gcd t.natAbs low.natAbs = t.natAbs := by
    have := congrArg Int.natAbs e1
    rw [Int.natAbs_mul, Int.natAbs_mul, Int.natAbs_natCast] at this
    rcases hs1 with rfl | rfl <;> simpa using this
  have n2 : b.natAbs * Nat.gcd t.natAbs low.natAbs = low.natAbs := by
    have := congrArg Int.natAbs e2
    rw [Int.natAbs_mul, Int.natAbs_mul, Int.natAbs_natCast] at this
    rcases hs1 with rfl | rfl <;> simpa using this
  have hb : 0 < b := by
    rcases Int.lt_trichotomy b 0 with x | x | x
    · have := Int.mul_neg_of_neg_of_pos x (Int.natCast_pos.mpr hg)
      rw [e2, hs] at this
      omega
    · subst x
      simp at n2
      omega
    · exact x
  refine ⟨hb, ?_, ?_, ?_, ?_⟩
  · have := Nat.gcd_mul_right a.natAbs (Nat.gcd t.natAbs low.natAbs) b.natAbs
    rw [n1, n2] at this
    exact Nat.eq_of_mul_eq_mul_right hg (by omega)
  · have hss : s * s = 1 := by rcases hs1 with rfl | rfl <;> rfl
    have k : a * low * (Nat.gcd t.natAbs low.natAbs : Nat) = t * b * (Nat.gcd t.natAbs low.natAbs : Nat) := by
      rw [Int.mul_right_comm, e1, Int.mul_assoc t, e2, Int.mul_comm s t, Int.mul_assoc, ← Int.mul_assoc]
    exact Int.eq_of_mul_eq_mul_right (by omega) k
  · exact n1 ▸ Nat.le_mul_of_pos_right _ hg
  · exact n2 ▸ Nat.le_mul_of_pos_right _ hg
theorem run_made {t low : Int} {μ : List O} {E : Ex → List O → Prop} (h : low ≠ 0) (h9 : low.natAbs.log2 < 400000) :
    Wp (m_l_made [.int t, .int low]) μ (fun r μ' => (∃ a b, r = .tup [.int a, .int b] ∧ Made t low a b) ∧ μ' = μ) E := by
  unfold m_l_made c_l_made
  have hs : sizeLine = 16777216 := sizeLine_eq
  walk_at "mi*"
  refine Wp.go (run_lshared _ _ _ _) ?_
  rintro _ _ ⟨rfl, rfl⟩
  have hg : 0 < Nat.gcd t.natAbs low.natAbs := Nat.gcd_pos_of_pos_right _ (by omega)
  have hd : divOk (Nat.gcd t.natAbs low.natAbs : Nat) := by show ((Nat.gcd t.natAbs low.natAbs : Nat) : Int) ≠ 0; omega
  walk_at "mi*"
  by_cases hn : low < 0
  · simp only [hn, decide_true, if_true]
    exact ⟨mulOk_l (by omega) (by omega), mulOk_l (by omega) (by omega), mulOk_l (by omega) (by omega), _, _, rfl, made_of h (by omega) (.inr rfl)⟩
  · simp only [hn, decide_false, if_false]
    exact ⟨mulOk_l (by omega) (by omega), mulOk_l (by omega) (by omega), mulOk_l (by omega) (by omega), _, _, rfl, made_of h (by omega) (.inl rfl)⟩
theorem Pot.lt {μ : List O} {l n : Nat} (h : Pot μ l n) : l < μ.length := by
  obtain ⟨_, _, _, h, _⟩ := h
  exact (List.getElem?_eq_some_iff.mp h).1
theorem Pot.gr {μ μ' : List O} {l n : Nat} (h : Pot μ l n) (g : Gr0 μ μ') : Pot μ' l n := by
  obtain ⟨a, b, c, h, r⟩ := h
  exact ⟨a, b, c, g.at_ _ _ h, r⟩
theorem Pot.app {μ ν : List O} {l n : Nat} (h : Pot μ l n) : Pot (μ ++ ν) l n := h.gr (Gr0.app _ _)
theorem Pot.up {μ : List O} {l n m : Nat} (h : Pot μ l n) (g : n ≤ m) : Pot μ l m := by
  obtain ⟨a, b, c, h, r1, r2, r3, r4, r5⟩ := h
  exact ⟨a, b, c, h, r1, r2, r3, r4, by omega⟩
theorem run_whole {l n : Nat} {μ : List O} {E : Ex → List O → Prop} (h : Pot μ l n) (hn : n + 10 ≤ 1000000) :
    Wp (m_l_whole [.ref l]) μ (fun r μ' => (∃ z, r = .int z ∧ z.natAbs ≤ 10 ^ 30) ∧ Pot μ' l (n + 4) ∧ Gr l μ μ') E := by
  unfold m_l_whole c_l_whole
  have hs : sizeLine = 16777216 := sizeLine_eq
  have p6 : powOk 10 6 := by decide
  have p30 : powOk 10 30 := by decide
  have m30 : mulOk 2 (10 ^ Int.toNat 30) := mulOk_l (by omega) (by omega)
  walk_at "mi*"
  refine Wp.go (run_draw h (by omega) (by decide) (by decide)) ?_
  rintro _ μ1 ⟨⟨d1, rfl, a1, b1⟩, p1, g1⟩
  walk_at "mi*"
  refine Wp.go (run_draw p1 (by omega) (by decide) (by decide)) ?_
  rintro _ μ2 ⟨⟨d2, rfl, a2, b2⟩, p2, g2⟩
  try walk_at "mi*"
  refine Wp.go (run_draw p2 (by omega) (by decide) (by decide)) ?_
  rintro _ μ3 ⟨⟨d3, rfl, a3, b3⟩, p3, g3⟩
  walk_at "mi*"
  refine Wp.go (run_draw p3.app (by omega) (by decide) (by decide)) ?_
  rintro _ μ4 ⟨⟨d4, rfl, a4, b4⟩, p4, g4⟩
  have h4 := g4.at_ _ _ (Nat.ne_of_gt p3.lt) (List.getElem?_concat_length (l := μ3))
  walk_at "mi*"
  refine wp_at (by omega) (by simp; omega) fun d hd => ?_
  have G : Gr l μ μ4 := ((g1.trans g2).trans g3).trans ((Gr0.app _ _).gr.trans g4)
  simp only [List.mem_cons, List.not_mem_nil, or_false] at hd
  have e6 : (10 : Int) ^ Int.toNat 6 = 10 ^ 6 := rfl
  have e30 : (10 : Int) ^ Int.toNat 30 = 10 ^ 30 := rfl
  rcases hd with rfl | rfl | rfl | rfl | rfl | rfl
  all_goals exact ⟨⟨_, rfl, by omega⟩, p4, G⟩
theorem run_some {l n : Nat} {μ : List O} {E : Ex → List O → Prop} (h : Pot μ l n) (hn : n + 20 ≤ 1000000) :
    Wp (m_l_some [.ref l]) μ (fun r μ' => (∃ t low a b, r = .tup [.int a, .int b] ∧ Made t low a b ∧ t.natAbs ≤ 10 ^ 30 ∧ low.natAbs ≤ 10 ^ 20) ∧ Pot μ' l (n + 8) ∧ Gr l μ μ') E := by
  unfold m_l_some c_l_some
  have hs : sizeLine = 16777216 := sizeLine_eq
  have p6 : powOk 10 6 := by decide
  have p20 : powOk 10 20 := by decide
  walk_at "mi*"
  refine Wp.go (run_draw h (by omega) (by decide) (by decide)) ?_
  rintro _ μ1 ⟨⟨d1, rfl, a1, b1⟩, p1, g1⟩
  walk_at "mi*"
  refine Wp.go (run_draw p1 (by omega) (by decide) (by decide)) ?_
  rintro _ μ2 ⟨⟨d2, rfl, a2, b2⟩, p2, g2⟩
  walk_at "mi*"
  refine Wp.go (run_draw p2 (by omega) (by decide) (by decide)) ?_
  rintro _ μ3 ⟨⟨d3, rfl, a3, b3⟩, p3, g3⟩
  walk_at "mi*"
  refine Wp.go (run_draw p3.app (by omega) (by decide) (by decide)) ?_
  rintro _ μ4 ⟨⟨d4, rfl, a4, b4⟩, p4, g4⟩
  have h4 := g4.at_ _ _ (Nat.ne_of_gt p3.lt) (List.getElem?_concat_length (l := μ3))
  walk_at "mi*"
  have G : Gr l μ μ4 := ((g1.trans g2).trans g3).trans ((Gr0.app _ _).gr.trans g4)
  have W : Wp (atD [D.int 1, D.int (1 + d1), D.int (1 + d2), D.int (1 + d3)] d4) μ4 (fun d μ' => (∃ low, d = .int low ∧ 0 < low ∧ low ≤ 10 ^ 20) ∧ μ' = μ4) E := by
    refine wp_at (by omega) (by simp; omega) fun d hd => ?_
    have e6 : (10 : Int) ^ Int.toNat 6 ≤ 10 ^ 20 := by decide
    have e20 : (10 : Int) ^ Int.toNat 20 = 10 ^ 20 := by decide
    simp only [List.mem_cons, List.not_mem_nil, or_false] at hd
    rcases hd with rfl | rfl | rfl | rfl
    all_goals exact ⟨⟨_, rfl, by omega, by omega⟩, rfl⟩
  refine W.mono ?_ fun _ _ z => z
  rintro _ _ ⟨⟨low, rfl, l1, l2⟩, rfl⟩
  refine Wp.go (run_whole p4 (by omega)) ?_
  rintro _ μ5 ⟨⟨t, rfl, ht⟩, p5, g5⟩
  try walk_at "mi*"
  have l3 : low.natAbs ≤ 10 ^ 20 := by omega
  refine Wp.go (run_made (by omega) (Nat.lt_of_le_of_lt (log2_mono l3) (by decide))) ?_
  rintro _ _ ⟨⟨a, b, rfl, hm⟩, rfl⟩
  exact ⟨⟨t, low, a, b, rfl, hm, ht, l3⟩, p5, G.trans g5⟩
/-! ### is it a fraction -/
def isI : D → Bool
  | .int _ => true
  | _ => false
theorem isI_ty {μ : List O} {d : D} {T : String} (h : tyN μ d = some T) : (isSub T "int" && !isSub T "bool") = isI d := by
  cases d with
  | ref l =>
    dsimp only [tyN] at h
    split at h <;> cases h <;> rfl
  | _ => cases h; rfl
theorem run_is_whole {μ : List O} {d : D} {E : Ex → List O → Prop} (h : ∃ T, tyN μ d = some T) : Wp (m_is_whole [d]) μ (fun r μ' => r = .bl (isI d) ∧ μ' = μ) E := by
  obtain ⟨T, h⟩ := h
  have e := isI_ty h
  unfold m_is_whole c_is_whole
  walk_at "mi*"
  rw [← e]
  cases isSub T "int" <;> simp
def frD : D → Bool
  | .tup [.int a, .int b] => decide (1 ≤ b) && decide (Nat.gcd a.natAbs b.natAbs = 1)
  | _ => false
/-- its type is known, and its items' -/
def Typed (μ : List O) (d : D) : Prop := (∃ T, tyN μ d = some T) ∧ ∀ ds, d = .tup ds → ∀ x ∈ ds, ∃ T, tyN μ x = some T
theorem typed_of {μ : List O} {n : Nat} {d : D} {p : PyData} (h : see μ n d = some p) : Typed μ d := by
  refine ⟨⟨_, see_ty h⟩, ?_⟩
  rintro ds rfl
  cases n with
  | zero => cases h
  | succ n =>
    have h' : (seeL (see μ n) ds).map PyData.tuple = some p := h
    cases e : seeL (see μ n) ds with
    | none => rw [e] at h'; cases h'
    | some ps =>
      clear h h'
      induction ds generalizing ps with
      | nil => intro x hx; cases hx
      | cons a r ih =>
        unfold seeL at e
        cases e1 : see μ n a with
        | none => rw [e1] at e; cases e
        | some q =>
          cases e2 : seeL (see μ n) r with
          | none => rw [e1, e2] at e; cases e
          | some qs =>
            intro x hx
            rcases List.mem_cons.mp hx with rfl | hx
            · exact ⟨_, see_ty e1⟩
            · exact ih qs e2 x hx
theorem not_tup {μ : List O} {d : D} {T : String} (h : tyN μ d = some T) (n : ∀ ds, d ≠ .tup ds) : isSub T "tuple" = false ∧ frD d = false := by
  cases d with
  | tup ds => exact (n ds rfl).elim
  | ref l =>
    dsimp only [tyN] at h
    split at h <;> cases h <;> exact ⟨rfl, rfl⟩
  | _ => cases h; exact ⟨rfl, rfl⟩
theorem frD_len {ds : List D} (h : ds.length ≠ 2) : frD (.tup ds) = false := by
  unfold frD
  split
  · next e => cases e; exact (h rfl).elim
  · rfl
theorem frD_not {x y : D} (h : isI x = false ∨ isI y = false) : frD (.tup [x, y]) = false := by
  cases x with
  | int a =>
    cases y with
    | int b => rcases h with h | h <;> cases h
    | _ => rfl
  | _ => rfl
theorem isI_int {x : D} (h : isI x = true) : ∃ a, x = .int a := by
  cases x with
  | int a => exact ⟨a, rfl⟩
  | _ => cases h
theorem run_is_fraction {μ : List O} {d : D} {E : Ex → List O → Prop} (h : Typed μ d) : Wp (m_is_fraction [d]) μ (fun r μ' => r = .bl (frD d) ∧ μ' = μ) E := by
  obtain ⟨⟨T, hT⟩, hx⟩ := h
  unfold m_is_fraction c_is_fraction
  by_cases ht : ∃ ds, d = .tup ds
  · obtain ⟨ds, rfl⟩ := ht
    have hT' : tyN μ (.tup ds) = some "tuple" := rfl
    have e9 : isSub "tuple" "tuple" = true := rfl
    by_cases hl : ds.length = 2
    · obtain ⟨x, y, rfl⟩ : ∃ x y, ds = [x, y] := by
        match ds, hl with
        | [x, y], _ => exact ⟨x, y, rfl⟩
      clear hT
      walk_at "mi*"
      refine Wp.go (run_is_whole (hx _ rfl x (by simp))) ?_
      rintro _ _ ⟨rfl, rfl⟩
      have hy := hx _ rfl y (by simp)
      clear hx
      cases hi : isI x with
      | false =>
        rw [frD_not (.inl hi)]
        walk_at "mi*"
      | true =>
        obtain ⟨a, rfl⟩ := isI_int hi
        walk_at "mi*"
        refine Wp.go (run_is_whole hy) ?_
        rintro _ _ ⟨rfl, rfl⟩
        cases hj : isI y with
        | false =>
          rw [frD_not (.inr hj)]
          walk_at "mi*"
        | true =>
          obtain ⟨b, rfl⟩ := isI_int hj
          by_cases hb : 1 ≤ b
          · obtain ⟨c, rfl⟩ : ∃ c : Nat, b = c := ⟨b.toNat, by omega⟩
            walk_at "mi*"
            refine Wp.go (run_shared _ _ _ _) ?_
            rintro _ _ ⟨rfl, rfl⟩
            walk_at "mi*"
            simp [frD, hb]
            omega
          · walk_at "mi*"
            simp [frD, hb]
    · have hl' : ¬ (ds.length : Int) = 2 := by omega
      rw [frD_len hl]
      clear hT
      walk_at "mi*"
  · obtain ⟨e1, e2⟩ := not_tup hT fun ds e => ht ⟨ds, e⟩
    rw [e2]
    clear e2
    walk_at "mi*"
end Std
/-! Mi, part Y: rules for told(lambda: ..) and raise C(). -/
namespace Mi
open PySem L2 PyProof.Rows
theorem r_told {x e ret : Str} {c : CE} {ρ : Env} {μ : List O} {P : D → List O → Prop} {E : Ex → List O → Prop} : Wp ((cTold x e ret c).run ρ) μ P E ↔ Wp (c.run ρ) μ P (fun y μ' => y.cls = e ∧ P (.str ret) μ') := by
  constructor
  · rintro ⟨r, μ', h, q⟩
    dsimp only [cTold, toldD] at h
    cases hr : c.run ρ μ with
    | none => rw [hr] at h; cases h
    | some p =>
      obtain ⟨r0, μ0⟩ := p
      rw [hr] at h
      cases r0 with
      | ok d => cases h; exact ⟨_, _, hr, q⟩
      | error y =>
        dsimp only at h
        split at h
        · rename_i he
          cases h
          exact ⟨_, _, hr, he, q⟩
        · cases h
  · rintro ⟨r, μ', h, q⟩
    cases r with
    | ok d => exact ⟨.ok d, μ', by dsimp only [cTold, toldD]; rw [h], q⟩
    | error y => exact ⟨.ok (.str ret), μ', by dsimp only [cTold, toldD]; rw [h]; dsimp only; rw [if_pos q.1], q.2⟩
theorem s_raise {x : Str} {ρ : Env} : (sRaise x).run ρ = fun μ => some (.er ⟨x, none⟩ ρ, μ) := rfl
end Mi
/-! S2: sums and products of fractions, polynomials. -/
namespace Std
open PySem L2 PyProof.Rows Mi
local macro_rules | `(tactic| walk_at "mi") => `(tactic| simp only [wp_mir, ws_cons, ws_nil, nx_nx, nx_rt, nx_bk, nx_ct, nx_er, fn_nx, fn_rt, fn_er, ws_asgN, ws_asgT, gs_cons, gs_nil, ex_tup, ex_pr, ws_asgS, ws_of, ws_some, wp_bnd, wp_ret, wp_new, ws_ite, wp_iteB, wp_stop,
  r_var, r_int, r_bl, r_str, r_non, r_glo, r_nil, r_cons, r_tup, r_lst, r_bin, r_cmp, r_tcmp, r_tval, r_tnot, r_and1, r_or1, r_and, r_or, r_if, r_vone, r_vand, r_vor, r_not, r_neg, r_chain, r_tchain,
  r_ix, r_slice, r_ono, r_oyes, r_B, r_call, r_call0, r_isi, s_expr, s_ret, s_if, s_par, s_while, s_for, s_brk, s_cont, s_pass, s_retN, i_T, i_L, i_A, i_En, i_Zp, i_Zp3, r_step, o_stepM, o_stepD, r_rev, r_J, j_nil, j_lit, j_fmt, s_par3, o_isBt, o_isBn, o_fmtI, o_fmtS, o_put, o_sw, o_ls, o_part, r_callK, r_kNil, r_kCons, r_m0, r_m, f_nil, f_one, s_asg2, s_setLc, r_lc, s_setLc2, r_lc2, o_revT, o_revL, o_max, o_min, o_all, o_any, o_aT, o_aF, o_aL, o_aS, o_enT, o_enL, o_zipT, o_zipL, fuelE, fuelZ, fuelS, o_mulL, o_mulS, o_isTL, o_isTS, q_nil, q_cons, r_dict, r_dict0, kd_nil, kd_S, Option.map_some, wp_dctE, ex_dct, ix_refS, setL_S, o_isTD, wp_dget1, wp_dget2, wp_popA0, wp_app, wp_pop, i_R1, i_R2,
  List.map_cons, List.map_nil, List.replicate_succ, List.replicate_zero, List.nil_append, List.cons_append, List.length_cons, List.length_nil, Nat.reduceAdd, Nat.add_assoc, Nat.zero_add, Nat.add_zero, Nat.reduceSub, true_and, getV, List.getElem?_cons_zero, List.getElem?_cons_succ, List.set_cons_zero, List.set_cons_succ,
  o_add, o_addS, o_addT, o_addL, o_sub, o_mul, o_fdiv, o_mod, o_pow, o_neg, o_lt, o_le, o_gt, o_ge, o_eq, o_eqS, o_eqB, o_ne, o_neS, o_neB, o_is, o_isn, o_asB, o_asI, o_lenT, o_lenF, o_lenL, o_abs', o_int, o_intB, o_str, o_slT, o_slF, o_slL, o_listT, o_listF, o_listL, o_tupT, o_tupL, o_newL, o_seqF, o_seqL, o_tupW, o_rng1, o_rng2, fuelOf, fuelL, fuelR, wp_isi, tyN_int, tyN_bl, tyN_str, tyN_non, tyN_tup, tyN_fro, iS_NoneType, iS_bool, iS_int, iS_str, iS_tuple, iS_list, iS_dict, List.length_append, List.length_map, List.length_set,
  wp_lstE, setL_E, ex_lst, ex_n, at_off, at_off0, wp_withNew, o_keyI, o_keyS, wp_setE, set_off, set_off0, r_dict1, trn_nx, trn_ct, trn_bk, trn_rt, trn_er, List.append_assoc, List.getElem?_append_left, List.set_set, List.getElem?_set_self, wp_need, ix_ref, Mi.ix_tup, ix_fro, atD_0, atD_1, atD_2, decide_eq_true_eq, Bool.false_eq_true, false_implies, not_false_eq_true, true_implies, not_true_eq_false, Bool.true_eq_false, and_true, if_true, if_false, Int.cast_ofNat_Int, Int.reduceEq, Int.reduceLT, Int.reduceLE, decide_true, decide_false, Bool.not_true, Bool.not_false, reduceIte, eq_self, Nat.reduceLeDiff])
local macro_rules | `(tactic| walk_at "mi*") => `(tactic| simp only [wp_mir, ws_cons, ws_nil, nx_nx, nx_rt, nx_bk, nx_ct, nx_er, fn_nx, fn_rt, fn_er, ws_asgN, ws_asgT, gs_cons, gs_nil, ex_tup, ex_pr, ws_asgS, ws_of, ws_some, wp_bnd, wp_ret, wp_new, ws_ite, wp_iteB, wp_stop,
  r_var, r_int, r_bl, r_str, r_non, r_glo, r_nil, r_cons, r_tup, r_lst, r_bin, r_cmp, r_tcmp, r_tval, r_tnot, r_and1, r_or1, r_and, r_or, r_if, r_vone, r_vand, r_vor, r_not, r_neg, r_chain, r_tchain,
  r_ix, r_slice, r_ono, r_oyes, r_B, r_call, r_call0, r_isi, s_expr, s_ret, s_if, s_par, s_while, s_for, s_brk, s_cont, s_pass, s_retN, i_T, i_L, i_A, i_En, i_Zp, i_Zp3, r_step, o_stepM, o_stepD, r_rev, r_J, j_nil, j_lit, j_fmt, s_par3, o_isBt, o_isBn, o_fmtI, o_fmtS, o_put, o_sw, o_ls, o_part, r_callK, r_kNil, r_kCons, r_m0, r_m, f_nil, f_one, s_asg2, s_setLc, r_lc, s_setLc2, r_lc2, o_revT, o_revL, o_max, o_min, o_all, o_any, o_aT, o_aF, o_aL, o_aS, o_enT, o_enL, o_zipT, o_zipL, fuelE, fuelZ, fuelS, o_mulL, o_mulS, o_isTL, o_isTS, q_nil, q_cons, r_dict, r_dict0, kd_nil, kd_S, Option.map_some, wp_dctE, ex_dct, ix_refS, setL_S, o_isTD, wp_dget1, wp_dget2, wp_popA0, wp_app, wp_pop, i_R1, i_R2,
  List.map_cons, List.map_nil, List.replicate_succ, List.replicate_zero, List.nil_append, List.cons_append, List.length_cons, List.length_nil, Nat.reduceAdd, Nat.add_assoc, Nat.zero_add, Nat.add_zero, Nat.reduceSub, true_and, getV, List.getElem?_cons_zero, List.getElem?_cons_succ, List.set_cons_zero, List.set_cons_succ,
  o_add, o_addS, o_addT, o_addL, o_sub, o_mul, o_fdiv, o_mod, o_pow, o_neg, o_lt, o_le, o_gt, o_ge, o_eq, o_eqS, o_eqB, o_ne, o_neS, o_neB, o_is, o_isn, o_asB, o_asI, o_lenT, o_lenF, o_lenL, o_abs', o_int, o_intB, o_str, o_slT, o_slF, o_slL, o_listT, o_listF, o_listL, o_tupT, o_tupL, o_newL, o_seqF, o_seqL, o_tupW, o_rng1, o_rng2, fuelOf, fuelL, fuelR, wp_isi, tyN_int, tyN_bl, tyN_str, tyN_non, tyN_tup, tyN_fro, iS_NoneType, iS_bool, iS_int, iS_str, iS_tuple, iS_list, iS_dict, List.length_append, List.length_map, List.length_set,
  wp_lstE, setL_E, ex_lst, ex_n, at_off, at_off0, wp_withNew, o_keyI, o_keyS, wp_setE, set_off, set_off0, r_dict1, trn_nx, trn_ct, trn_bk, trn_rt, trn_er, List.append_assoc, List.getElem?_append_left, List.set_set, List.getElem?_set_self, wp_need, ix_ref, Mi.ix_tup, ix_fro, atD_0, atD_1, atD_2, decide_eq_true_eq, Bool.false_eq_true, false_implies, not_false_eq_true, true_implies, not_true_eq_false, Bool.true_eq_false, and_true, if_true, if_false, Int.cast_ofNat_Int, Int.reduceEq, Int.reduceLT, Int.reduceLE, decide_true, decide_false, Bool.not_true, Bool.not_false, reduceIte, eq_self, Nat.reduceLeDiff, *])
def k_NOUGHT : D := (.tup [(.int 0), (.int 1)])
def c_plus : CB := (bCons (sAsg (gN 2) (cCall "shared_by" m_shared_by (aCons (cIx (cVar 0) (cInt 1)) (aCons (cIx (cVar 1) (cInt 1)) aNil))))
  (bCons (sIf (tCmpC .Eq eqD (cVar 2) (cInt 1)) (bCons (sRet (cTup (aCons (cBin .Add addD (cBin .Mult mulD (cIx (cVar 0) (cInt 0)) (cIx (cVar 1) (cInt 1))) (cBin .Mult mulD (cIx (cVar 1) (cInt 0)) (cIx (cVar 0) (cInt 1)))) (aCons (cBin .Mult mulD (cIx (cVar 0) (cInt 1)) (cIx (cVar 1) (cInt 1))) aNil))))
  bNil) bNil)
  (bCons (sAsg (gN 3) (cBin .Add addD (cBin .Mult mulD (cIx (cVar 0) (cInt 0)) (cBin .FloorDiv fdivD (cIx (cVar 1) (cInt 1)) (cVar 2))) (cBin .Mult mulD (cIx (cVar 1) (cInt 0)) (cBin .FloorDiv fdivD (cIx (cVar 0) (cInt 1)) (cVar 2)))))
  (bCons (sAsg (gN 4) (cCall "shared_by" m_shared_by (aCons (cB "abs" absD (aCons (cVar 3) aNil)) (aCons (cVar 2) aNil))))
  (bCons (sRet (cTup (aCons (cBin .FloorDiv fdivD (cVar 3) (cVar 4)) (aCons (cBin .Mult mulD (cBin .FloorDiv fdivD (cIx (cVar 0) (cInt 1)) (cVar 2)) (cBin .FloorDiv fdivD (cIx (cVar 1) (cInt 1)) (cVar 4))) aNil))))
  bNil)))))
def m_plus : List D → M D := mir 5 2 c_plus.run
def c_times : CB := (bCons (sPar 2 3 (cCall "shared_by" m_shared_by (aCons (cB "abs" absD (aCons (cIx (cVar 0) (cInt 0)) aNil)) (aCons (cIx (cVar 1) (cInt 1)) aNil))) (cCall "shared_by" m_shared_by (aCons (cB "abs" absD (aCons (cIx (cVar 1) (cInt 0)) aNil)) (aCons (cIx (cVar 0) (cInt 1)) aNil))))
  (bCons (sRet (cTup (aCons (cBin .Mult mulD (cBin .FloorDiv fdivD (cIx (cVar 0) (cInt 0)) (cVar 2)) (cBin .FloorDiv fdivD (cIx (cVar 1) (cInt 0)) (cVar 3))) (aCons (cBin .Mult mulD (cBin .FloorDiv fdivD (cIx (cVar 0) (cInt 1)) (cVar 3)) (cBin .FloorDiv fdivD (cIx (cVar 1) (cInt 1)) (cVar 2))) aNil))))
  bNil))
def m_times : List D → M D := mir 4 2 c_times.run
def c_trimmed : CB := (bCons (sAsg (gN 1) (cB "list" listD (aCons (cVar 0) aNil)))
  (bCons (sWhile (fun _ => 100000) (wAnd (tCmpC .Gt gtD (cB "len" lenD (aCons (cVar 1) aNil)) (cInt 0)) (wAnd1 (tCmpC .Eq eqD (cIx (cVar 1) (cNeg (cInt 1))) (cGlo "NOUGHT" k_NOUGHT)))) (bCons (sExpr (cM0 "list" "pop" popD (cVar 1)))
  bNil))
  (bCons (sRet (cB "tuple" tupleD (aCons (cVar 1) aNil)))
  bNil)))
def m_trimmed : List D → M D := mir 2 1 c_trimmed.run
def c_part_of : CB := (bCons (sRet (cIf (tCmpC .Lt ltD (cVar 1) (cB "len" lenD (aCons (cVar 0) aNil))) (cIx (cVar 0) (cVar 1)) (cGlo "NOUGHT" k_NOUGHT)))
  bNil)
def m_part_of : List D → M D := mir 2 2 c_part_of.run
def c_poly_plus : CB := (bCons (sRet (cCall "trimmed" m_trimmed (aCons (cLc (iR1 (cB "max" maxD (aCons (cB "len" lenD (aCons (cVar 0) aNil)) (aCons (cB "len" lenD (aCons (cVar 1) aNil)) aNil)))) (gN 2) fNil (cCall "plus" m_plus (aCons (cCall "part_of" m_part_of (aCons (cVar 0) (aCons (cVar 2) aNil))) (aCons (cCall "part_of" m_part_of (aCons (cVar 1) (aCons (cVar 2) aNil))) aNil))) [("at", 2)]) aNil)))
  bNil)
def m_poly_plus : List D → M D := mir 3 2 c_poly_plus.run
def c_poly_times : CB := (bCons (sAsg (gN 2) (cBin .Mult mulD (cLst (aCons (cGlo "NOUGHT" k_NOUGHT) aNil)) (cBin .Add addD (cB "len" lenD (aCons (cVar 0) aNil)) (cB "len" lenD (aCons (cVar 1) aNil)))))
  (bCons (sFor (gT (gsCons (gN 3) (gsCons (gN 4) gsNil)) 2) (iEn (cVar 0)) (bCons (sFor (gT (gsCons (gN 5) (gsCons (gN 6) gsNil)) 2) (iEn (cVar 1)) (bCons (sAsg (gS (cVar 2) (cBin .Add addD (cVar 3) (cVar 5))) (cCall "plus" m_plus (aCons (cIx (cVar 2) (cBin .Add addD (cVar 3) (cVar 5))) (aCons (cCall "times" m_times (aCons (cVar 4) (aCons (cVar 6) aNil))) aNil))))
  bNil))
  bNil))
  (bCons (sRet (cCall "trimmed" m_trimmed (aCons (cVar 2) aNil)))
  bNil)))
def m_poly_times : List D → M D := mir 7 2 c_poly_times.run
def c_poly_by : CB := (bCons (sRet (cCall "trimmed" m_trimmed (aCons (cLc (iA (cVar 0)) (gN 2) fNil (cCall "times" m_times (aCons (cVar 2) (aCons (cVar 1) aNil))) [("one", 2)]) aNil)))
  bNil)
def m_poly_by : List D → M D := mir 3 2 c_poly_by.run
def c_poly_at : CB := (bCons (sAsg (gN 2) (cGlo "NOUGHT" k_NOUGHT))
  (bCons (sFor (gN 3) (iA (cRev (cVar 0))) (bCons (sAsg (gN 2) (cCall "plus" m_plus (aCons (cCall "times" m_times (aCons (cVar 2) (aCons (cVar 1) aNil))) (aCons (cVar 3) aNil))))
  bNil))
  (bCons (sRet (cVar 2))
  bNil)))
def m_poly_at : List D → M D := mir 4 2 c_poly_at.run
def c_l_small : CB := (bCons (sRet (cCall "_law_made" m_l_made (aCons (cBin .Sub subD (cCall "_law_draw" m_l_draw (aCons (cVar 0) (aCons (cInt 13) aNil))) (cInt 6)) (aCons (cBin .Add addD (cInt 1) (cCall "_law_draw" m_l_draw (aCons (cVar 0) (aCons (cInt 4) aNil)))) aNil))))
  bNil)
def m_l_small : List D → M D := mir 1 1 c_l_small.run
def c_l_trim : CB := (bCons (sAsg (gN 1) (cB "list" listD (aCons (cVar 0) aNil)))
  (bCons (sWhile (fun _ => 100000) (wAnd (tCmpC .NotEq neD (cVar 1) (cLst aNil)) (wAnd1 (tCmpC .Eq eqD (cIx (cIx (cVar 1) (cNeg (cInt 1))) (cInt 0)) (cInt 0)))) (bCons (sAsg (gN 1) (cSlice (cVar 1) oNo (oYes (cNeg (cInt 1)))))
  bNil))
  (bCons (sRet (cB "tuple" tupleD (aCons (cVar 1) aNil)))
  bNil)))
def m_l_trim : List D → M D := mir 2 1 c_l_trim.run
def c_l_poly : CB := (bCons (sSetLc 2 (iR1 (cCall "_law_draw" m_l_draw (aCons (cVar 0) (aCons (cBin .Add addD (cVar 1) (cInt 1)) aNil)))) (gN 3) fNil (cIx (cLst (aCons (cCall "_law_small" m_l_small (aCons (cVar 0) aNil)) (aCons (cTup (aCons (cInt 0) (aCons (cInt 1) aNil))) aNil))) (cB "int" intTx (aCons (cCmp .Eq eqD (cCall "_law_draw" m_l_draw (aCons (cVar 0) (aCons (cInt 4) aNil))) (cInt 0)) aNil))) [("_law_k", 3)])
  (bCons (sRet (cCall "_law_trim" m_l_trim (aCons (cVar 2) aNil)))
  bNil))
def m_l_poly : List D → M D := mir 4 2 c_l_poly.run
def c_l_add : CB := (bCons (sRet (cCall "_law_made" m_l_made (aCons (cBin .Add addD (cBin .Mult mulD (cIx (cVar 0) (cInt 0)) (cIx (cVar 1) (cInt 1))) (cBin .Mult mulD (cIx (cVar 1) (cInt 0)) (cIx (cVar 0) (cInt 1)))) (aCons (cBin .Mult mulD (cIx (cVar 0) (cInt 1)) (cIx (cVar 1) (cInt 1))) aNil))))
  bNil)
def m_l_add : List D → M D := mir 2 2 c_l_add.run
def c_l_mul : CB := (bCons (sRet (cCall "_law_made" m_l_made (aCons (cBin .Mult mulD (cIx (cVar 0) (cInt 0)) (cIx (cVar 1) (cInt 0))) (aCons (cBin .Mult mulD (cIx (cVar 0) (cInt 1)) (cIx (cVar 1) (cInt 1))) aNil))))
  bNil)
def m_l_mul : List D → M D := mir 2 2 c_l_mul.run
def c_l_sum : CB := (bCons (sAsg (gN 2) (cLst aNil))
  (bCons (sFor (gN 3) (iR1 (cB "max" maxD (aCons (cB "len" lenD (aCons (cVar 0) aNil)) (aCons (cB "len" lenD (aCons (cVar 1) aNil)) aNil)))) (bCons (sExpr (cM "list" "append" appD (cVar 2) (aCons (cCall "_law_add" m_l_add (aCons (cIx (cBin .Add addD (cB "list" listD (aCons (cVar 0) aNil)) (cBin .Mult mulD (cLst (aCons (cTup (aCons (cInt 0) (aCons (cInt 1) aNil))) aNil)) (cInt 99))) (cVar 3)) (aCons (cIx (cBin .Add addD (cB "list" listD (aCons (cVar 1) aNil)) (cBin .Mult mulD (cLst (aCons (cTup (aCons (cInt 0) (aCons (cInt 1) aNil))) aNil)) (cInt 99))) (cVar 3)) aNil))) aNil)))
  bNil))
  (bCons (sRet (cCall "_law_trim" m_l_trim (aCons (cVar 2) aNil)))
  bNil)))
def m_l_sum : List D → M D := mir 4 2 c_l_sum.run
def c_l_product : CB := (bCons (sAsg (gN 2) (cBin .Mult mulD (cLst (aCons (cTup (aCons (cInt 0) (aCons (cInt 1) aNil))) aNil)) (cBin .Add addD (cB "len" lenD (aCons (cVar 0) aNil)) (cB "len" lenD (aCons (cVar 1) aNil)))))
  (bCons (sFor (gT (gsCons (gN 3) (gsCons (gN 4) gsNil)) 2) (iEn (cVar 0)) (bCons (sFor (gT (gsCons (gN 5) (gsCons (gN 6) gsNil)) 2) (iEn (cVar 1)) (bCons (sAsg (gS (cVar 2) (cBin .Add addD (cVar 3) (cVar 5))) (cCall "_law_add" m_l_add (aCons (cIx (cVar 2) (cBin .Add addD (cVar 3) (cVar 5))) (aCons (cCall "_law_mul" m_l_mul (aCons (cVar 4) (aCons (cVar 6) aNil))) aNil))))
  bNil))
  bNil))
  (bCons (sRet (cCall "_law_trim" m_l_trim (aCons (cVar 2) aNil)))
  bNil)))
def m_l_product : List D → M D := mir 7 2 c_l_product.run
def c_l_value : CB := (bCons (sAsg2 (gT (gsCons (gN 3) (gsCons (gN 4) gsNil)) 2) (cTup (aCons (cTup (aCons (cInt 0) (aCons (cInt 1) aNil))) (aCons (cTup (aCons (cInt 1) (aCons (cInt 1) aNil))) aNil))))
  (bCons (sFor (gN 2) (iA (cVar 0)) (bCons (sPar 3 4 (cCall "_law_add" m_l_add (aCons (cVar 3) (aCons (cCall "_law_mul" m_l_mul (aCons (cVar 2) (aCons (cVar 4) aNil))) aNil))) (cCall "_law_mul" m_l_mul (aCons (cVar 4) (aCons (cVar 1) aNil))))
  bNil))
  (bCons (sRet (cVar 3))
  bNil)))
def m_l_value : List D → M D := mir 5 2 c_l_value.run
/-! ### fractions as rational numbers -/
def fr (q : Rat) : D := .tup [.int q.num, .int q.den]
theorem fr_of {q : Rat} {n d : Int} (hd : 0 < d) (hc : Nat.gcd n.natAbs d.natAbs = 1) (hv : q = Rat.divInt n d) : D.tup [.int n, .int d] = fr q := by
  have e : (⟨n, d.natAbs, by omega, hc⟩ : Rat) = q := by
    rw [Rat.mk_eq_divInt, hv]
    congr 1
    omega
  unfold fr
  rw [← e]
  have : ((d.natAbs : Nat) : Int) = d := by omega
  simp only [this]
theorem val_eq {q : Rat} {n d : Int} (hd : d ≠ 0) (h : q = Rat.divInt n d) : q.num * d = n * q.den := by
  have h0 : (q.den : Int) ≠ 0 := by have := q.den_nz; omega
  rw [← Rat.divInt_eq_divInt_iff h0 hd, ← h, Rat.num_divInt_den]
theorem red_le {q : Rat} {n d : Int} (hd : d ≠ 0) (h : q = Rat.divInt n d) : q.num.natAbs ≤ n.natAbs ∧ q.den ≤ d.natAbs := by
  have e := congrArg Int.natAbs (val_eq hd h)
  rw [Int.natAbs_mul, Int.natAbs_mul, Int.natAbs_natCast] at e
  have hc := q.reduced
  constructor
  · by_cases h0 : n.natAbs = 0
    · rw [h0, Nat.zero_mul] at e
      rcases Nat.mul_eq_zero.mp e with z | z <;> omega
    · have : q.num.natAbs ∣ n.natAbs := hc.dvd_of_dvd_mul_right ⟨d.natAbs, e.symm⟩
      exact Nat.le_of_dvd (by omega) this
  · have : q.den ∣ d.natAbs := hc.symm.dvd_of_dvd_mul_left ⟨n.natAbs, by rw [e, Nat.mul_comm]⟩
    exact Nat.le_of_dvd (by omega) this
/-- both parts below 2 ^ B -/
def Sm (B : Nat) (q : Rat) : Prop := q.num.natAbs < 2 ^ B ∧ q.den < 2 ^ B
theorem pow_le {A B : Nat} (h : A ≤ B) : 2 ^ A ≤ 2 ^ B := Nat.pow_le_pow_right (by omega) h
theorem Sm.up {A B : Nat} {q : Rat} (h : Sm A q) (hb : A ≤ B) : Sm B q := ⟨Nat.lt_of_lt_of_le h.1 (pow_le hb), Nat.lt_of_lt_of_le h.2 (pow_le hb)⟩
theorem mul_lt {A B a b : Nat} (h1 : a < 2 ^ A) (h2 : b < 2 ^ B) : a * b < 2 ^ (A + B) := by
  rw [Nat.pow_add]
  by_cases h0 : b = 0
  · subst h0
    rw [Nat.mul_zero]
    exact Nat.mul_pos (Nat.pow_pos (by omega)) (Nat.pow_pos (by omega))
  · exact Nat.lt_of_lt_of_le (Nat.mul_lt_mul_of_pos_right h1 (by omega)) (Nat.mul_le_mul (Nat.le_refl _) (by omega))
theorem Sm.of {B : Nat} {q : Rat} {n d : Int} (hd : d ≠ 0) (h : q = Rat.divInt n d) (hn : n.natAbs < 2 ^ B) (hb : d.natAbs < 2 ^ B) : Sm B q :=
  ⟨Nat.lt_of_le_of_lt (red_le hd h).1 hn, Nat.lt_of_le_of_lt (red_le hd h).2 hb⟩
theorem den_ne (q : Rat) : (q.den : Int) ≠ 0 := by have := q.den_nz; omega
theorem add_val (p q : Rat) : p + q = Rat.divInt (p.num * q.den + q.num * p.den) (p.den * q.den) := by
  conv => lhs; rw [← Rat.num_divInt_den p, ← Rat.num_divInt_den q]
  exact Rat.divInt_add_divInt _ _ (den_ne p) (den_ne q)
theorem mul_val (p q : Rat) : p * q = Rat.divInt (p.num * q.num) (p.den * q.den) := by
  conv => lhs; rw [← Rat.num_divInt_den p, ← Rat.num_divInt_den q]
  exact Rat.divInt_mul_divInt _ _
theorem Sm.mul {A B : Nat} {p q : Rat} (h : Sm A p) (k : Sm B q) : Sm (A + B) (p * q) := by
  refine Sm.of (Int.mul_ne_zero (den_ne p) (den_ne q)) (mul_val p q) ?_ ?_
  · rw [Int.natAbs_mul]; exact mul_lt h.1 k.1
  · rw [Int.natAbs_mul, Int.natAbs_natCast, Int.natAbs_natCast]; exact mul_lt h.2 k.2
theorem Sm.add {A B : Nat} {p q : Rat} (h : Sm A p) (k : Sm B q) : Sm (A + B + 1) (p + q) := by
  refine Sm.of (Int.mul_ne_zero (den_ne p) (den_ne q)) (add_val p q) ?_ ?_
  · have h1 := mul_lt h.1 k.2
    have h2 := mul_lt k.1 h.2
    have h3 := Int.natAbs_add_le (p.num * q.den) (q.num * p.den)
    rw [Int.natAbs_mul, Int.natAbs_mul, Int.natAbs_natCast, Int.natAbs_natCast] at h3
    rw [Nat.add_comm B A] at h2
    rw [Nat.pow_succ]
    omega
  · rw [Int.natAbs_mul, Int.natAbs_natCast, Int.natAbs_natCast]
    exact Nat.lt_of_lt_of_le (mul_lt h.2 k.2) (pow_le (by omega))
theorem Sm.neg {A : Nat} {p : Rat} (h : Sm A p) : Sm A (-p) := ⟨by rw [Rat.neg_num, Int.natAbs_neg]; exact h.1, by rw [Rat.neg_den]; exact h.2⟩
theorem log2_lt {n B : Nat} (h : n < 2 ^ B) (hB : 0 < B) : n.log2 < B := by
  by_cases h0 : n = 0
  · subst h0; simpa using hB
  · exact (Nat.log2_lt h0).mpr h
theorem mulOk_n {A B : Nat} {i j : Int} (h1 : i.natAbs < 2 ^ A) (h2 : j.natAbs < 2 ^ B) (hA : 0 < A) (hB : 0 < B) (h : A + B ≤ 1000000) : mulOk i j := .inr (by
  have := log2_lt h1 hA
  have := log2_lt h2 hB
  omega)
theorem divOk_n {A : Nat} {d : Nat} (h : d < 2 ^ A) (h0 : 0 < d) (hA : A ≤ 400000) : divOk (d : Int) := by show (d : Int) ≠ 0; omega
theorem made_fr {t low a b : Int} (h : low ≠ 0) (m : Made t low a b) : D.tup [.int a, .int b] = fr (Rat.divInt t low) :=
  fr_of m.pos m.low_ (by
    rw [Rat.divInt_eq_divInt_iff h (by have := m.pos; omega)]
    exact m.eq.symm)
theorem run_mk {t low : Int} {μ : List O} {E : Ex → List O → Prop} (h : low ≠ 0) (h9 : ∃ B, B ≤ 400000 ∧ 0 < B ∧ low.natAbs < 2 ^ B) :
    Wp (m_l_made [.int t, .int low]) μ (fun r μ' => r = fr (Rat.divInt t low) ∧ μ' = μ) E := by
  obtain ⟨B, hB, hB0, h9⟩ := h9
  refine (run_made h (Nat.lt_of_lt_of_le (log2_lt h9 hB0) hB)).mono ?_ fun _ _ z => z
  rintro _ _ ⟨⟨a, b, rfl, m⟩, rfl⟩
  exact ⟨made_fr h m, rfl⟩
theorem add_parts (p q : Rat) : (p.den.gcd q.den = 1 → (p + q).num = p.num * q.den + q.num * p.den ∧ (p + q).den = p.den * q.den) ∧
    (p.den.gcd q.den ≠ 1 → (p + q).num = (p.num * ↑(q.den / p.den.gcd q.den) + q.num * ↑(p.den / p.den.gcd q.den)) / ((p.num * ↑(q.den / p.den.gcd q.den) + q.num * ↑(p.den / p.den.gcd q.den)).natAbs.gcd (p.den.gcd q.den) : Nat) ∧
      (p + q).den = (p.den / p.den.gcd q.den * q.den) / (p.num * ↑(q.den / p.den.gcd q.den) + q.num * ↑(p.den / p.den.gcd q.den)).natAbs.gcd (p.den.gcd q.den)) := by
  have e : p + q = Rat.add p q := rfl
  rw [e]
  unfold Rat.add
  constructor
  · intro h
    simp [h]
  · intro h
    simp only [h]
    simp [Rat.maybeNormalize_eq]
theorem mul_parts (p q : Rat) : (p * q).num = p.num / (p.num.natAbs.gcd q.den : Nat) * (q.num / (q.num.natAbs.gcd p.den : Nat)) ∧ (p * q).den = p.den / (q.num.natAbs.gcd p.den) * (q.den / (p.num.natAbs.gcd q.den)) := by
  have e : p * q = Rat.mul p q := rfl
  rw [e]
  unfold Rat.mul
  simp
theorem fdiv_nat (a b : Nat) : Int.fdiv (a : Int) (b : Int) = ((a / b : Nat) : Int) := by
  rw [Int.fdiv_eq_ediv_of_nonneg _ (by omega)]
  simp
theorem fdiv_int (a : Int) (b : Nat) : Int.fdiv a (b : Int) = a / (b : Int) := Int.fdiv_eq_ediv_of_nonneg _ (by omega)
theorem run_plus {A : Nat} {p q : Rat} {μ : List O} {E : Ex → List O → Prop} (hp : Sm A p) (hq : Sm A q) (h0 : 0 < A) (hA : A ≤ 400000) : Wp (m_plus [fr p, fr q]) μ (fun r μ' => r = fr (p + q) ∧ μ' = μ) E := by
  unfold m_plus c_plus fr
  have hs : sizeLine = 16777216 := sizeLine_eq
  walk_at "mi*"
  refine Wp.go (run_shared _ _ _ _) ?_
  rintro _ _ ⟨rfl, rfl⟩
  have hg : 0 < p.den.gcd q.den := Nat.gcd_pos_of_pos_left _ p.den_pos
  have dg : p.den.gcd q.den < 2 ^ A := Nat.lt_of_le_of_lt (Nat.le_of_dvd p.den_pos (Nat.gcd_dvd_left _ _)) hp.2
  have kd := divOk_n dg hg hA
  obtain ⟨P1, P2⟩ := add_parts p q
  by_cases h : p.den.gcd q.den = 1
  · have h' : ((p.den.gcd q.den : Nat) : Int) = 1 := by omega
    obtain ⟨e1, e2⟩ := P1 h
    have m1 : mulOk p.num q.den := mulOk_n (A := A) (B := A) hp.1 (by rw [Int.natAbs_natCast]; exact hq.2) h0 h0 (by omega)
    have m2 : mulOk q.num p.den := mulOk_n (A := A) (B := A) hq.1 (by rw [Int.natAbs_natCast]; exact hp.2) h0 h0 (by omega)
    have m3 : mulOk p.den q.den := mulOk_n (A := A) (B := A) (by rw [Int.natAbs_natCast]; exact hp.2) (by rw [Int.natAbs_natCast]; exact hq.2) h0 h0 (by omega)
    walk_at "mi*"
    rw [Int.natCast_mul]
  · have h' : ¬ ((p.den.gcd q.den : Nat) : Int) = 1 := by omega
    obtain ⟨e1, e2⟩ := P2 h
    have d1 : q.den / p.den.gcd q.den < 2 ^ A := Nat.lt_of_le_of_lt (Nat.div_le_self _ _) hq.2
    have d2 : p.den / p.den.gcd q.den < 2 ^ A := Nat.lt_of_le_of_lt (Nat.div_le_self _ _) hp.2
    have m1 : mulOk p.num (q.den / p.den.gcd q.den : Nat) := mulOk_n (A := A) (B := A) hp.1 (by rw [Int.natAbs_natCast]; exact d1) h0 h0 (by omega)
    have m2 : mulOk q.num (p.den / p.den.gcd q.den : Nat) := mulOk_n (A := A) (B := A) hq.1 (by rw [Int.natAbs_natCast]; exact d2) h0 h0 (by omega)
    walk_at "mi*"
    simp only [fdiv_nat]
    refine ⟨m1, m2, ?_⟩
    generalize hz : p.num * ↑(q.den / p.den.gcd q.den) + q.num * ↑(p.den / p.den.gcd q.den) = z at e1 e2 ⊢
    refine Wp.go (run_shared _ _ _ _) ?_
    rintro _ _ ⟨rfl, rfl⟩
    have hm : 0 < z.natAbs.gcd (p.den.gcd q.den) := Nat.gcd_pos_of_pos_right _ hg
    have dm : z.natAbs.gcd (p.den.gcd q.den) ∣ q.den := Nat.dvd_trans (Nat.gcd_dvd_right _ _) (Nat.gcd_dvd_right _ _)
    have km := divOk_n (d := z.natAbs.gcd (p.den.gcd q.den)) (Nat.lt_of_le_of_lt (Nat.le_of_dvd hg (Nat.gcd_dvd_right _ _)) dg) hm hA
    have m3 : mulOk (p.den / p.den.gcd q.den : Nat) (q.den / z.natAbs.gcd (p.den.gcd q.den) : Nat) := mulOk_n (A := A) (B := A) (by rw [Int.natAbs_natCast]; exact d2)
      (by rw [Int.natAbs_natCast]; exact Nat.lt_of_le_of_lt (Nat.div_le_self _ _) hq.2) h0 h0 (by omega)
    walk_at "mi*"
    simp only [fdiv_nat, fdiv_int]
    refine ⟨m3, ?_⟩
    rw [Nat.mul_div_assoc _ dm, Int.natCast_mul]
    simp only [Int.natCast_ediv]
theorem run_times {A : Nat} {p q : Rat} {μ : List O} {E : Ex → List O → Prop} (hp : Sm A p) (hq : Sm A q) (h0 : 0 < A) (hA : A ≤ 400000) : Wp (m_times [fr p, fr q]) μ (fun r μ' => r = fr (p * q) ∧ μ' = μ) E := by
  unfold m_times c_times fr
  have hs : sizeLine = 16777216 := sizeLine_eq
  walk_at "mi*"
  refine Wp.go (run_shared _ _ _ _) ?_
  rintro _ _ ⟨rfl, rfl⟩
  walk_at "mi*"
  refine Wp.go (run_shared _ _ _ _) ?_
  rintro _ _ ⟨rfl, rfl⟩
  obtain ⟨e1, e2⟩ := mul_parts p q
  have g1 : 0 < p.num.natAbs.gcd q.den := Nat.gcd_pos_of_pos_right _ q.den_pos
  have g2 : 0 < q.num.natAbs.gcd p.den := Nat.gcd_pos_of_pos_right _ p.den_pos
  have k1 := divOk_n (d := p.num.natAbs.gcd q.den) (Nat.lt_of_le_of_lt (Nat.le_of_dvd q.den_pos (Nat.gcd_dvd_right _ _)) hq.2) g1 hA
  have k2 := divOk_n (d := q.num.natAbs.gcd p.den) (Nat.lt_of_le_of_lt (Nat.le_of_dvd p.den_pos (Nat.gcd_dvd_right _ _)) hp.2) g2 hA
  have ab : ∀ (x : Int) (y : Nat), (x / (y : Int)).natAbs ≤ x.natAbs := fun x y => Int.natAbs_ediv_le_natAbs x y
  have m1 : mulOk (p.num / (p.num.natAbs.gcd q.den : Nat)) (q.num / (q.num.natAbs.gcd p.den : Nat)) := mulOk_n (A := A) (B := A) (Nat.lt_of_le_of_lt (ab _ _) hp.1) (Nat.lt_of_le_of_lt (ab _ _) hq.1) h0 h0 (by omega)
  have m2 : mulOk (p.den / (q.num.natAbs.gcd p.den) : Nat) (q.den / (p.num.natAbs.gcd q.den) : Nat) := mulOk_n (A := A) (B := A) (by rw [Int.natAbs_natCast]; exact Nat.lt_of_le_of_lt (Nat.div_le_self _ _) hp.2)
    (by rw [Int.natAbs_natCast]; exact Nat.lt_of_le_of_lt (Nat.div_le_self _ _) hq.2) h0 h0 (by omega)
  walk_at "mi*"
  simp only [fdiv_nat, fdiv_int]
  refine ⟨m1, m2, ?_⟩
  rw [Int.natCast_mul]
  simp only [Int.natCast_ediv]
theorem fr0 : fr 0 = .tup [.int 0, .int 1] := rfl
theorem fr1 : fr 1 = .tup [.int 1, .int 1] := rfl
theorem nought : k_NOUGHT = fr 0 := rfl
theorem fr_inj {p q : Rat} (h : fr p = fr q) : p = q := by
  unfold fr at h
  simp only [D.tup.injEq, List.cons.injEq, D.int.injEq, and_true] at h
  exact Rat.ext h.1 (by omega)
theorem run_ladd {A : Nat} {p q : Rat} {μ : List O} {E : Ex → List O → Prop} (hp : Sm A p) (hq : Sm A q) (h0 : 0 < A) (hA : A ≤ 100000) : Wp (m_l_add [fr p, fr q]) μ (fun r μ' => r = fr (p + q) ∧ μ' = μ) E := by
  unfold m_l_add c_l_add
  rw [fr, fr]
  have m1 : mulOk p.num q.den := mulOk_n (A := A) (B := A) hp.1 (by rw [Int.natAbs_natCast]; exact hq.2) h0 h0 (by omega)
  have m2 : mulOk q.num p.den := mulOk_n (A := A) (B := A) hq.1 (by rw [Int.natAbs_natCast]; exact hp.2) h0 h0 (by omega)
  have m3 : mulOk p.den q.den := mulOk_n (A := A) (B := A) (by rw [Int.natAbs_natCast]; exact hp.2) (by rw [Int.natAbs_natCast]; exact hq.2) h0 h0 (by omega)
  walk_at "mi*"
  have hd := Int.mul_ne_zero (den_ne p) (den_ne q)
  refine (run_mk hd ?_).mono ?_ fun _ _ z => z
  · refine ⟨A + A, by omega, by omega, ?_⟩
    rw [Int.natAbs_mul, Int.natAbs_natCast, Int.natAbs_natCast]
    exact mul_lt hp.2 hq.2
  · rintro _ _ ⟨rfl, rfl⟩
    exact ⟨by rw [← add_val], rfl⟩
theorem run_lmul {A : Nat} {p q : Rat} {μ : List O} {E : Ex → List O → Prop} (hp : Sm A p) (hq : Sm A q) (h0 : 0 < A) (hA : A ≤ 100000) : Wp (m_l_mul [fr p, fr q]) μ (fun r μ' => r = fr (p * q) ∧ μ' = μ) E := by
  unfold m_l_mul c_l_mul
  rw [fr, fr]
  have m1 : mulOk p.num q.num := mulOk_n (A := A) (B := A) hp.1 hq.1 h0 h0 (by omega)
  have m3 : mulOk p.den q.den := mulOk_n (A := A) (B := A) (by rw [Int.natAbs_natCast]; exact hp.2) (by rw [Int.natAbs_natCast]; exact hq.2) h0 h0 (by omega)
  walk_at "mi*"
  have hd := Int.mul_ne_zero (den_ne p) (den_ne q)
  refine (run_mk hd ?_).mono ?_ fun _ _ z => z
  · refine ⟨A + A, by omega, by omega, ?_⟩
    rw [Int.natAbs_mul, Int.natAbs_natCast, Int.natAbs_natCast]
    exact mul_lt hp.2 hq.2
  · rintro _ _ ⟨rfl, rfl⟩
    exact ⟨by rw [← mul_val], rfl⟩
/-! ### polynomials -/
def frs (ps : List Rat) : List D := ps.map fr
def trimR : List Rat → List Rat
  | [] => []
  | p :: r => match trimR r with
    | [] => if p = 0 then [] else [p]
    | q :: s => p :: q :: s
theorem trim_snoc0 : ∀ ps : List Rat, trimR (ps ++ [0]) = trimR ps
  | [] => rfl
  | p :: r => by
    show (match trimR (r ++ [0]) with | [] => _ | q :: s => _) = _
    rw [trim_snoc0 r]
    rfl
theorem trim_snoc {q : Rat} (h : q ≠ 0) : ∀ ps : List Rat, trimR (ps ++ [q]) = ps ++ [q]
  | [] => by simp [trimR, h]
  | p :: r => by
    show (match trimR (r ++ [q]) with | [] => _ | q :: s => _) = _
    rw [trim_snoc h r]
    cases r <;> rfl
theorem trim_mem : ∀ {ps : List Rat} {x : Rat}, x ∈ trimR ps → x ∈ ps
  | p :: r, x, h => by
    unfold trimR at h
    split at h
    · split at h
      · cases h
      · rw [List.mem_singleton.mp h]; exact List.mem_cons_self
    · rename_i q s e
      rcases List.mem_cons.mp h with rfl | h
      · exact List.mem_cons_self
      · exact List.mem_cons_of_mem _ (trim_mem (by rw [e]; exact h))
theorem trim_len : ∀ ps : List Rat, (trimR ps).length ≤ ps.length
  | [] => Nat.le_refl _
  | p :: r => by
    have h := trim_len r
    unfold trimR
    split
    · split <;> simp
    · rename_i q s e
      rw [e] at h
      simp only [List.length_cons] at h ⊢
      omega
/-- the last one looked at -/
theorem eqv_fr (p q : Rat) : eqD (fr p) (fr q) = M.ret (.bl (decide (p = q))) := by
  funext μ
  have h1 : see μ 65 (fr p) = some (.tuple [.int p.num, .int p.den]) := rfl
  have h2 : see μ 65 (fr q) = some (.tuple [.int q.num, .int q.den]) := rfl
  show eqvD false (fr p) (fr q) μ = _
  unfold eqvD
  rw [h1, h2]
  have s1 : ∀ a b : Int, SeqAt.shaped (.tuple [.int a, .int b]) = true := fun a b => rfl
  simp only [s1, and_self, if_true, Bool.false_eq_true, if_false]
  have e : PyData.eqv (.tuple [.int p.num, .int p.den]) (.tuple [.int q.num, .int q.den]) = decide (p = q) := by
    have e1 : PyData.eqv (.tuple [.int p.num, .int p.den]) (.tuple [.int q.num, .int q.den]) = (p.num == q.num && (((p.den : Nat) : Int) == ((q.den : Nat) : Int) && true)) := by
      simp [PyData.eqv, PyData.eqvAll]
    rw [e1]
    by_cases h : p = q
    · subst h; simp
    · rw [decide_eq_false h]
      by_cases hn : p.num = q.num
      · have hd : p.den ≠ q.den := fun z => h (Rat.ext hn z)
        have : ¬ ((p.den : Int) = q.den) := by omega
        simp
        exact fun _ => this
      · simp [hn]
  rw [e]
  rfl
def pF (q : Rat) : PyData := .tuple [.int q.num, .int q.den]
theorem see_frs {μ : List O} {n : Nat} : ∀ ps : List Rat, seeL (see μ (n + 2)) (frs ps) = some (ps.map pF)
  | [] => rfl
  | p :: r => by
    show (match see μ (n + 2) (fr p), seeL (see μ (n + 2)) (frs r) with | some a, some b => _ | _, _ => _) = _
    rw [see_frs r]
    rfl
theorem lay_frs : ∀ ps : List Rat, PyData.canLayAll0 (ps.map pF) = true
  | [] => rfl
  | p :: r => by
    have ih := lay_frs r
    simp [PyData.canLayAll0, pF, PyData.canLay0] at ih ⊢
    exact ih
theorem dep_frs : ∀ ps : List Rat, PyData.depthAll (ps.map pF) ≤ 1
  | [] => by simp [PyData.depthAll]
  | p :: r => by
    have ih := dep_frs r
    have e : PyData.depthAll ((p :: r).map pF) = max (PyData.depth (pF p)) (PyData.depthAll (r.map pF)) := rfl
    have e2 : PyData.depth (pF p) = 1 := by simp [pF, PyData.depth, PyData.depthAll]
    rw [e, e2]
    omega
theorem shaped_l {ps : List Rat} : SeqAt.shaped (.list (ps.map pF)) = true := by
  have h1 := lay_frs ps
  have h2 := dep_frs ps
  unfold SeqAt.shaped
  have e : PyData.depth (.list (ps.map pF)) = PyData.depthAll (ps.map pF) + 1 := by simp [PyData.depth]
  have e2 : PyData.canLay0 (.list (ps.map pF)) = PyData.canLayAll0 (ps.map pF) := by simp [PyData.canLay0]
  rw [e, e2, h1]
  simp
  omega
/-- a list against the empty one -/
theorem wp_ne_nil {ps : List Rat} {a b : Nat} {μ : List O} {E : Ex → List O → Prop} {P : D → List O → Prop} (ha : μ[a]? = some (.lst (frs ps))) (hb : μ[b]? = some (.lst [])) : Wp (neD (.ref a) (.ref b)) μ P E ↔ P (.bl (!decide (ps = []))) μ := by
  have h1 : see μ 65 (.ref a) = some (.list (ps.map pF)) := by
    show (match μ[a]? with | some (.lst ds) => _ | some (.dct ds) => _ | none => _) = _
    rw [ha]
    show (seeL (see μ 64) (frs ps)).map PyData.list = _
    rw [see_frs]
    rfl
  have h2 : see μ 65 (.ref b) = some (.list []) := by
    show (match μ[b]? with | some (.lst ds) => _ | some (.dct ds) => _ | none => _) = _
    rw [hb]
    rfl
  have e : neD (.ref a) (.ref b) μ = some (.ok (.bl (!decide (ps = []))), μ) := by
    show eqvD true (.ref a) (.ref b) μ = _
    unfold eqvD
    rw [h1, h2]
    have s2 : SeqAt.shaped (.list []) = true := shaped_l (ps := [])
    simp only [shaped_l, s2, and_self, if_true]
    cases ps <;> simp [PyData.eqv, PyData.eqvAll]
  constructor
  · rintro ⟨r, μ', e2, q⟩
    rw [e] at e2
    cases e2
    exact q
  · exact fun q => ⟨_, _, e, q⟩
theorem frs_snoc {ps : List Rat} {q : Rat} : frs (ps ++ [q]) = frs ps ++ [fr q] := by simp [frs]
theorem frs_len {ps : List Rat} : (frs ps).length = ps.length := by simp [frs]
theorem snoc_or (ps : List Rat) : ps = [] ∨ ∃ rs q, ps = rs ++ [q] := by
  rcases List.eq_nil_or_concat ps with h | ⟨rs, q, h⟩
  · exact .inl h
  · exact .inr ⟨rs, q, by rw [h]; simp⟩
theorem frs_nil : frs [] = [] := rfl
theorem run_trimmed {l : Nat} {ps : List Rat} {μ : List O} {E : Ex → List O → Prop} (h : μ[l]? = some (.lst (frs ps))) (hz : ps.length < 100000) : Wp (m_trimmed [.ref l]) μ (fun r μ' => r = .tup (frs (trimR ps)) ∧ Gr0 μ μ') E := by
  have loop : ∀ (n : Nat) (qs : List Rat) (S : SR → List O → Prop), qs.length < n → S (.nx [some (.ref l), some (.ref μ.length)]) (μ ++ [.lst (frs (trimR qs))]) →
      Ws (whl (wAnd (tCmpC .Gt gtD (cB "len" lenD (aCons (cVar 1) aNil)) (cInt 0)) (wAnd1 (tCmpC .Eq eqD (cIx (cVar 1) (cNeg (cInt 1))) (cGlo "NOUGHT" k_NOUGHT)))).run (bCons (sExpr (cM0 "list" "pop" popD (cVar 1))) bNil).run n [some (.ref l), some (.ref μ.length)]) (μ ++ [.lst (frs qs)]) S := by
    intro n
    induction n with
    | zero => intro qs S h; omega
    | succ n ih =>
      intro qs S h k
      rw [ws_whl]
      rcases snoc_or qs with rfl | ⟨rs, q, rfl⟩
      · rw [show trimR [] = [] from rfl] at k
        rw [frs_nil] at k ⊢
        walk_at "mi*"
      · rw [frs_snoc]
        have hp : (0 : Int) < ((frs rs ++ [fr q]).length : Nat) := by simp
        have hl : (frs rs ++ [fr q])[(frs rs ++ [fr q]).length - 1]? = some (fr q) := by simp
        have hd : (frs rs ++ [fr q]).dropLast = frs rs := by simp
        generalize hx : frs rs ++ [fr q] = xs at hp hl hd ⊢
        have ha : atD xs (-1) = M.ret (fr q) := by rw [← hx]; exact atD_last
        have hq := eqv_fr q 0
        rw [← nought] at hq
        walk_at "mi*"
        by_cases h0 : q = 0
        · rw [if_pos h0]
          subst h0
          rw [trim_snoc0] at k
          exact ih rs S (by simp at h; omega) k
        · rw [if_neg h0]
          rw [trim_snoc h0, frs_snoc, hx] at k
          exact k
  unfold m_trimmed c_trimmed
  walk_at "mi*"
  refine loop _ ps _ hz ?_
  walk_at "mi"
  exact Gr0.app _ _
theorem cut_last {a : Type} {xs : List a} {x : a} : Mi.cutD (xs ++ [x]) none (some (-1)) = xs := by
  unfold Mi.cutD HT.sIx
  simp
  have e : (-1 + ((xs.length : Int) + 1)).toNat = xs.length := by omega
  rw [e]
  simp
theorem ix_fr0 {q : Rat} : ixD (fr q) (.int 0) = M.ret (.int q.num) := rfl
theorem ix_fr1 {q : Rat} : ixD (fr q) (.int 1) = M.ret (.int q.den) := rfl
theorem num0 {q : Rat} : (q.num = 0) ↔ q = 0 := Rat.num_eq_zero
theorem ltrim_loop {x0 : Option D} {μ : List O} : ∀ (n : Nat) (qs : List Rat) (μ' : List O) (a : Nat) (S : SR → List O → Prop), Gr0 μ μ' → μ'[a]? = some (.lst (frs qs)) → qs.length < n → (∀ μ2 b, Gr0 μ μ2 → μ2[b]? = some (.lst (frs (trimR qs))) → S (.nx [x0, some (.ref b)]) μ2) →
    Ws (whl (wAnd (tCmpC .NotEq neD (cVar 1) (cLst aNil)) (wAnd1 (tCmpC .Eq eqD (cIx (cIx (cVar 1) (cNeg (cInt 1))) (cInt 0)) (cInt 0)))).run (bCons (sAsg (gN 1) (cSlice (cVar 1) oNo (oYes (cNeg (cInt 1))))) bNil).run n [x0, some (.ref a)]) μ' S := by
  intro n
  induction n with
  | zero => intro qs μ' a S _ _ h; omega
  | succ n ih =>
    intro qs μ' a S g ha h k
    have hs : sizeLine = 16777216 := sizeLine_eq
    have ha2 : (μ' ++ [O.lst []])[a]? = some (.lst (frs qs)) := at_old ha
    rw [ws_whl]
    walk_at "mi"
    refine ⟨by omega, (wp_ne_nil ha2 at_off0).mpr ?_⟩
    rcases snoc_or qs with rfl | ⟨rs, q, rfl⟩
    · walk_at "mi*"
      exact k _ a (g.trans (Gr0.app _ _)) ha2
    · have hne : ¬ (rs ++ [q] = []) := by simp
      have hc := cut_last (xs := frs rs) (x := fr q)
      have hat : atD (frs rs ++ [fr q]) (-1) = M.ret (fr q) := atD_last
      rw [frs_snoc] at ha2
      simp only [hne, decide_false, Bool.not_false]
      have ix0 := @ix_fr0
      walk_at "mi*"
      by_cases h0 : q = 0
      · have hn := num0.mpr h0
        rw [if_pos hn]
        subst h0
        rw [trim_snoc0] at k
        refine ih rs _ _ S (g.trans (Gr0.app _ _)) ?_ (by simp at h; omega) k
        rw [at_off]
        rfl
      · have hn : ¬ q.num = 0 := fun z => h0 (num0.mp z)
        rw [if_neg hn]
        rw [trim_snoc h0, frs_snoc] at k
        exact k _ a (g.trans (Gr0.app _ _)) ha2
theorem run_ltrim {l : Nat} {ps : List Rat} {μ : List O} {E : Ex → List O → Prop} (h : μ[l]? = some (.lst (frs ps))) (hz : ps.length < 100000) : Wp (m_l_trim [.ref l]) μ (fun r μ' => r = .tup (frs (trimR ps)) ∧ Gr0 μ μ') E := by
  unfold m_l_trim c_l_trim
  walk_at "mi*"
  refine ltrim_loop _ ps _ _ _ (Gr0.app _ _) at_off0 hz ?_
  rintro μ2 b g hb
  walk_at "mi*"
theorem run_ltrimT {ps : List Rat} {μ : List O} {E : Ex → List O → Prop} (hz : ps.length < 100000) : Wp (m_l_trim [.tup (frs ps)]) μ (fun r μ' => r = .tup (frs (trimR ps)) ∧ Gr0 μ μ') E := by
  unfold m_l_trim c_l_trim
  walk_at "mi*"
  refine ltrim_loop _ ps _ _ _ (Gr0.app _ _) at_off0 hz ?_
  rintro μ2 b g hb
  walk_at "mi*"
theorem sm0 {A : Nat} (h : 0 < A) : Sm A 0 := by
  have := pow_le (A := 1) (B := A) h
  have h1 : (2:Nat) ^ 1 = 2 := rfl
  refine ⟨?_, ?_⟩
  · show (0 : Int).natAbs < _; simp; omega
  · show 1 < _; omega
theorem gd_in {ps : List Rat} {i : Nat} (h : i < ps.length) : ps.getD i 0 = ps[i] := by
  rw [List.getD_eq_getElem?_getD, List.getElem?_eq_getElem h]
  rfl
theorem gd_out {ps : List Rat} {i : Nat} (h : ps.length ≤ i) : ps.getD i 0 = 0 := by
  rw [List.getD_eq_getElem?_getD, List.getElem?_eq_none h]
  rfl
def SmL (A : Nat) (ps : List Rat) : Prop := ∀ p ∈ ps, Sm A p
theorem SmL.get {A i : Nat} {ps : List Rat} (h : SmL A ps) (hA : 0 < A) : Sm A (ps.getD i 0) := by
  by_cases hi : i < ps.length
  · rw [gd_in hi]
    exact h _ (List.getElem_mem hi)
  · rw [gd_out (by omega)]
    exact sm0 hA
theorem frs_get {ps : List Rat} {i : Nat} (h : i < ps.length) : (frs ps)[i]? = some (fr (ps.getD i 0)) := by
  unfold frs
  rw [List.getElem?_map, List.getElem?_eq_getElem h, gd_in h]
  rfl
theorem run_part {ps : List Rat} {i : Nat} {μ : List O} {E : Ex → List O → Prop} : Wp (m_part_of [.tup (frs ps), .int i]) μ (fun r μ' => r = fr (ps.getD i 0) ∧ μ' = μ) E := by
  unfold m_part_of c_part_of
  by_cases h : i < ps.length
  · have h' : (i : Int) < ((frs ps).length : Nat) := by rw [frs_len]; omega
    have e : atD (frs ps) i = M.ret (fr (ps.getD i 0)) := atD_nat (frs_get h)
    walk_at "mi*"
  · have h' : ¬ (i : Int) < ((frs ps).length : Nat) := by rw [frs_len]; omega
    have e : ps.getD i 0 = 0 := gd_out (by omega)
    have hk := nought
    walk_at "mi*"
def addR (ps qs : List Rat) : List Rat := (List.range (max ps.length qs.length)).map fun i => ps.getD i 0 + qs.getD i 0
theorem max_int (a b : Nat) : (if (b : Int) > (a : Int) then (b : Int) else a) = ((max a b : Nat) : Int) := by
  split <;> omega
theorem run_pplus {A : Nat} {ps qs : List Rat} {μ : List O} {E : Ex → List O → Prop} (hp : SmL A ps) (hq : SmL A qs) (h0 : 0 < A) (hA : A ≤ 90000) (l1 : ps.length ≤ 50) (l2 : qs.length ≤ 50) :
    Wp (m_poly_plus [.tup (frs ps), .tup (frs qs)]) μ (fun r μ' => r = .tup (frs (trimR (addR ps qs))) ∧ Gr0 μ μ') E := by
  unfold m_poly_plus c_poly_plus
  have hs : sizeLine = 16777216 := sizeLine_eq
  walk_at "mi*"
  rw [frs_len, frs_len, max_int]
  refine ⟨⟨by omega, by omega⟩, ?_⟩
  refine wp_lc_map (get := fun i => if i < max ps.length qs.length then some (.int (0 + i)) else none) (max ps.length qs.length) (fun i => fr (ps.getD i 0 + qs.getD i 0)) (by show _ ≤ (((max ps.length qs.length : Nat) : Int)).toNat; omega) (by omega) ?_ ?_ ?_ ?_ ?_
  · intro i acc
    show (if i < (((max ps.length qs.length : Nat) : Int)).toNat then some (some (D.int (0 + (i : Int)))) else some none) = _
    rw [Int.toNat_natCast]
    split <;> rfl
  · intro i hi
    rw [if_pos hi]
    rfl
  · rw [if_neg (by omega)]
  · intro i d acc hi hd
    rw [if_pos hi] at hd
    cases hd
    refine ⟨_, rfl, ?_, ?_⟩
    · walk_at "mi*"
    · dsimp only [wipeE, List.map_cons, List.map_nil, List.set_cons_succ, List.set_cons_zero]
      rw [show (0 : Int) + i = i by omega]
      walk_at "mi"
      refine Wp.go run_part ?_
      rintro _ _ ⟨rfl, rfl⟩
      try walk_at "mi"
      refine Wp.go run_part ?_
      rintro _ _ ⟨rfl, rfl⟩
      try walk_at "mi"
      refine Wp.go (run_plus (hp.get h0) (hq.get h0) h0 (by omega)) ?_
      rintro _ _ ⟨rfl, rfl⟩
      exact ⟨rfl, rfl⟩
  · try walk_at "mi"
    have e : (List.range (max ps.length qs.length)).map (fun i => fr (ps.getD i 0 + qs.getD i 0)) = frs (addR ps qs) := by
      unfold frs addR
      rw [List.map_map]
      rfl
    rw [e]
    refine Wp.go (run_trimmed at_off0 (by unfold addR; rw [List.length_map, List.length_range]; omega)) ?_
    rintro _ μ2 ⟨rfl, g⟩
    try walk_at "mi"
    exact (Gr0.app _ _).trans g
theorem at_old_ {μ ν : List O} {j : Nat} {p : O} (h : μ[j]? = some p) : (μ ++ ν)[j]? = some p := (Gr0.app μ ν).at_ _ _ h
theorem flat_rep (n : Nat) (d : D) : (List.replicate n [d]).flatten = List.replicate n d := by
  induction n with
  | zero => rfl
  | succ n ih => rw [List.replicate_succ, List.flatten_cons, ih, List.replicate_succ]; rfl
theorem frs_rep (n : Nat) : frs (List.replicate n 0) = List.replicate n (fr 0) := by simp [frs]
theorem pad_get {ps : List Rat} {i m : Nat} (h : i < ps.length + m) : (frs ps ++ List.replicate m (fr 0))[i]? = some (fr (ps.getD i 0)) := by
  by_cases hi : i < ps.length
  · rw [List.getElem?_append_left (by rw [frs_len]; exact hi)]
    exact frs_get hi
  · rw [List.getElem?_append_right (by rw [frs_len]; omega), frs_len, List.getElem?_replicate, if_pos (by omega), gd_out (by omega)]
theorem run_lsum {A : Nat} {ps qs : List Rat} {μ : List O} {E : Ex → List O → Prop} (hp : SmL A ps) (hq : SmL A qs) (h0 : 0 < A) (hA : A ≤ 90000) (l1 : ps.length ≤ 50) (l2 : qs.length ≤ 50) :
    Wp (m_l_sum [.tup (frs ps), .tup (frs qs)]) μ (fun r μ' => r = .tup (frs (trimR (addR ps qs))) ∧ Gr0 μ μ') E := by
  unfold m_l_sum c_l_sum
  have hs : sizeLine = 16777216 := sizeLine_eq
  walk_at "mi*"
  rw [frs_len, frs_len, max_int]
  refine ⟨⟨by omega, by omega⟩, ?_⟩
  rw [Int.toNat_natCast]
  refine ws_forR (fun i ρ μ' => Gr μ.length μ μ' ∧ μ'[μ.length]? = some (.lst (frs ((List.range i).map fun i => ps.getD i 0 + qs.getD i 0))) ∧ ∃ x, ρ = [some (.tup (frs ps)), some (.tup (frs qs)), some (.ref μ.length), x]) ?_ ?_ ?_
  · exact ⟨(Gr0.app _ _).gr, at_off0, _, rfl⟩
  · rintro i ρ μ' hi ⟨g, hl, x, rfl⟩
    refine ⟨_, _, rfl, ?_⟩
    rw [show (0 : Int) + i = i by omega]
    have hlt := (List.getElem?_eq_some_iff.mp hl).1
    have k99 : (-(2 ^ 63) : Int) ≤ 99 ∧ (99 : Int) < 2 ^ 63 := by omega
    have r99 : repL (Int.toNat 99) [D.tup [.int 0, .int 1]] = List.replicate 99 (fr 0) := flat_rep 99 _
    have n99 : (repL (Int.toNat 99) [D.tup [.int 0, .int 1]]).length = 99 := by rw [r99, List.length_replicate]
    have e1 : atD (frs ps ++ repL (Int.toNat 99) [D.tup [.int 0, .int 1]]) i = M.ret (fr (ps.getD i 0)) := by rw [r99]; exact atD_nat (pad_get (by omega))
    have e2 : atD (frs qs ++ repL (Int.toNat 99) [D.tup [.int 0, .int 1]]) i = M.ret (fr (qs.getD i 0)) := by rw [r99]; exact atD_nat (pad_get (by omega))
    clear r99
    have lp := @frs_len ps
    have lq := @frs_len qs
    walk_at "mi*"
    refine ⟨by omega, by omega, Wp.go (run_ladd (hp.get h0) (hq.get h0) h0 (by omega)) ?_⟩
    rintro _ _ ⟨rfl, rfl⟩
    refine ⟨_, at_old_ hl, by rw [frs_len, List.length_map, List.length_range]; omega, (g.trans (Gr0.app _ _).gr).trans (Gr.set _ _ _), ?_, _, rfl⟩
    rw [at_set (at_old_ hl), List.range_succ, List.map_append]
    rw [frs, frs, List.map_append]
    rfl
  · rintro ρ μ' ⟨g, hl, x, rfl⟩
    try walk_at "mi*"
    refine Wp.go (run_ltrim hl (by rw [List.length_map, List.length_range]; omega)) ?_
    rintro _ μ2 ⟨rfl, g2⟩
    try walk_at "mi"
    exact ⟨rfl, (g.off (Nat.le_refl _)).trans g2⟩
/-! ### products of polynomials -/
def stepR (p : Rat) (at_ : Nat) (qs : List Rat) (acc : List Rat) (j : Nat) : List Rat := acc.set (at_ + j) (acc.getD (at_ + j) 0 + p * qs.getD j 0)
def innerR (p : Rat) (at_ : Nat) (qs : List Rat) (acc : List Rat) : Nat → List Rat
  | 0 => acc
  | j + 1 => stepR p at_ qs (innerR p at_ qs acc j) j
def outerR (ps qs : List Rat) : Nat → List Rat
  | 0 => List.replicate (ps.length + qs.length) 0
  | i + 1 => innerR (ps.getD i 0) i qs (outerR ps qs i) qs.length
def mulR (ps qs : List Rat) : List Rat := outerR ps qs ps.length
theorem inner_len {p : Rat} {at_ : Nat} {qs acc : List Rat} : ∀ j, (innerR p at_ qs acc j).length = acc.length
  | 0 => rfl
  | j + 1 => by
    show (stepR p at_ qs (innerR p at_ qs acc j) j).length = _
    unfold stepR
    rw [List.length_set, inner_len j]
theorem outer_len {ps qs : List Rat} : ∀ i, (outerR ps qs i).length = ps.length + qs.length
  | 0 => by simp [outerR]
  | i + 1 => by
    show (innerR _ _ _ _ _).length = _
    rw [inner_len, outer_len i]
/-- how great: behind place k already one more -/
structure BdI (C b k : Nat) (acc : List Rat) : Prop where
  lo : ∀ i, i < k → Sm (b + C) (acc.getD i 0)
  hi : ∀ i, k ≤ i → Sm b (acc.getD i 0)
theorem gd_set {acc : List Rat} {k i : Nat} {x : Rat} : (acc.set k x).getD i 0 = if k = i ∧ k < acc.length then x else acc.getD i 0 := by
  rw [List.getD_eq_getElem?_getD, List.getD_eq_getElem?_getD]
  by_cases h : k = i
  · subst h
    by_cases hl : k < acc.length
    · rw [List.getElem?_set_self hl, if_pos ⟨rfl, hl⟩]; rfl
    · rw [if_neg (by omega), List.getElem?_eq_none (by rw [List.length_set]; omega), List.getElem?_eq_none (by omega)]
  · rw [List.getElem?_set_ne h, if_neg (by omega)]
theorem bd_step {A B b at_ j : Nat} {p : Rat} {qs acc : List Rat} (hp : Sm A p) (hq : SmL B qs) (hB : 0 < B) (h : BdI (A + B + 1) b (at_ + j) acc) : BdI (A + B + 1) b (at_ + (j + 1)) (stepR p at_ qs acc j) := by
  have hn : Sm (b + (A + B + 1)) (acc.getD (at_ + j) 0 + p * qs.getD j 0) := ((h.hi _ (Nat.le_refl _)).add (hp.mul (hq.get hB))).up (by omega)
  constructor
  · intro i hi
    unfold stepR
    rw [gd_set]
    split
    · exact hn
    · by_cases hlt : i < at_ + j
      · exact h.lo i hlt
      · exact (h.hi i (by omega)).up (by omega)
  · intro i hi
    unfold stepR
    rw [gd_set, if_neg (by omega)]
    exact h.hi i (by omega)
theorem bd_inner {A B b at_ : Nat} {p : Rat} {qs acc : List Rat} (hp : Sm A p) (hq : SmL B qs) (hB : 0 < B) (h : ∀ i, Sm b (acc.getD i 0)) : ∀ j, BdI (A + B + 1) b (at_ + j) (innerR p at_ qs acc j)
  | 0 => ⟨fun i _ => (h i).up (by omega), fun i _ => h i⟩
  | j + 1 => bd_step hp hq hB (bd_inner hp hq hB h j)
theorem BdI.all {C b k : Nat} {acc : List Rat} (h : BdI C b k acc) (i : Nat) : Sm (b + C) (acc.getD i 0) := by
  by_cases hi : i < k
  · exact h.lo i hi
  · exact (h.hi i (by omega)).up (by omega)
theorem bd_outer {A B : Nat} {ps qs : List Rat} (hp : SmL A ps) (hq : SmL B qs) (hA : 0 < A) (hB : 0 < B) : ∀ i k, Sm (1 + i * (A + B + 1)) ((outerR ps qs i).getD k 0)
  | 0, k => by
    have e : (outerR ps qs 0).getD k 0 = 0 := by
      show (List.replicate _ 0).getD k 0 = 0
      rw [List.getD_eq_getElem?_getD, List.getElem?_replicate]
      split <;> rfl
    rw [e]
    exact (sm0 (A := 1) (by omega)).up (by rw [Nat.zero_mul]; omega)
  | i + 1, k => by
    have h := (bd_inner (at_ := i) (hp.get (i := i) hA) hq hB (bd_outer hp hq hA hB i) qs.length).all k
    refine h.up ?_
    rw [Nat.add_mul, Nat.one_mul]
    omega
theorem getL {ps : List Rat} {A : Nat} (h : ∀ i, Sm A (ps.getD i 0)) : SmL A ps := fun p hp => by
  obtain ⟨i, hi, rfl⟩ := List.getElem_of_mem hp
  rw [← gd_in hi]
  exact h i
theorem frs_set {ps : List Rat} {k : Nat} {x : Rat} : (frs ps).set k (fr x) = frs (ps.set k x) := by
  unfold frs
  rw [List.map_set]
theorem enT_get {ps : List Rat} {i : Nat} {μ : List O} (h : i < ps.length) : (wkE (wkOf (frs ps))).get i μ = some (some (.tup [.int i, fr (ps.getD i 0)])) := by
  dsimp only [wkE, wkOf]
  rw [frs_get h]
theorem enT_end {ps : List Rat} {μ : List O} : (wkE (wkOf (frs ps))).get ps.length μ = some none := by
  dsimp only [wkE, wkOf]
  rw [List.getElem?_eq_none (by rw [frs_len]; omega)]
theorem prod_loop {n1 n2 : Str} {f1 f2 : List D → M D} {A B C : Nat} {ps qs : List Rat} {f : Nat} {S : SR → List O → Prop} {μ : List O} (hp : SmL A ps) (hq : SmL B qs) (hA : 0 < A) (hB : 0 < B) (hl : ps.length ≤ 40) (hC : ps.length * (A + B + 1) + (A + B) + 2 ≤ C)
    (s1 : ∀ p q μ, Sm C p → Sm C q → Wp (f1 [fr p, fr q]) μ (fun r μ' => r = fr (p + q) ∧ μ' = μ) fun _ _ => False) (s2 : ∀ p q μ, Sm C p → Sm C q → Wp (f2 [fr p, fr q]) μ (fun r μ' => r = fr (p * q) ∧ μ' = μ) fun _ _ => False)
    (hf : μ[f]? = some (.lst (frs (List.replicate (ps.length + qs.length) 0))))
    (k : ∀ μ' x3 x4 x5 x6, Gr f μ μ' → μ'[f]? = some (.lst (frs (mulR ps qs))) → S (.nx [some (.tup (frs ps)), some (.tup (frs qs)), some (.ref f), x3, x4, x5, x6]) μ') :
    Ws (forRun (wkE (wkOf (frs ps))) (gT (gsCons (gN 3) (gsCons (gN 4) gsNil)) 2) (bCons (sFor (gT (gsCons (gN 5) (gsCons (gN 6) gsNil)) 2) (iEn (cVar 1)) (bCons (sAsg (gS (cVar 2) (cBin .Add addD (cVar 3) (cVar 5))) (cCall n1 f1 (aCons (cIx (cVar 2) (cBin .Add addD (cVar 3) (cVar 5))) (aCons (cCall n2 f2 (aCons (cVar 4) (aCons (cVar 6) aNil))) aNil)))) bNil)) bNil) ps.length 0
      [some (.tup (frs ps)), some (.tup (frs qs)), some (.ref f), none, none, none, none]) μ S := by
  have hlq := @frs_len ps
  have hlq2 := @frs_len qs
  refine ws_forW ps.length (fun i => .tup [.int i, fr (ps.getD i 0)]) (fun i μ h => enT_get h) (fun μ => enT_end) (Nat.le_refl _)
    (fun i ρ μ' => Gr f μ μ' ∧ μ'[f]? = some (.lst (frs (outerR ps qs i))) ∧ ∃ x3 x4 x5 x6, ρ = [some (.tup (frs ps)), some (.tup (frs qs)), some (.ref f), x3, x4, x5, x6]) ?_ ?_ ?_
  · exact ⟨Gr.refl _ _, hf, _, _, _, _, rfl⟩
  · rintro i ρ μ' hi ⟨g, h1, x3, x4, x5, x6, rfl⟩
    refine ⟨_, _, rfl, ?_⟩
    walk_at "mi*"
    have hib : i * (A + B + 1) ≤ ps.length * (A + B + 1) := Nat.mul_le_mul (by omega) (Nat.le_refl _)
    refine ws_forW qs.length (fun j => .tup [.int j, fr (qs.getD j 0)]) (fun i μ h => enT_get h) (fun μ => enT_end) (Nat.le_refl _)
      (fun j ρ μ' => Gr f μ μ' ∧ μ'[f]? = some (.lst (frs (innerR (ps.getD i 0) i qs (outerR ps qs i) j))) ∧ ∃ x5 x6, ρ = [some (.tup (frs ps)), some (.tup (frs qs)), some (.ref f), some (.int i), some (fr (ps.getD i 0)), x5, x6]) ?_ ?_ ?_
    · exact ⟨g, h1, _, _, rfl⟩
    · rintro j ρ μ2 hj ⟨g2, h2, x5, x6, rfl⟩
      refine ⟨_, _, rfl, ?_⟩
      have hlen : i + j < (innerR (ps.getD i 0) i qs (outerR ps qs i) j).length := by
        rw [inner_len, outer_len]
        omega
      have e1 : atD (frs (innerR (ps.getD i 0) i qs (outerR ps qs i) j)) ((i : Int) + j) = M.ret (fr ((innerR (ps.getD i 0) i qs (outerR ps qs i) j).getD (i + j) 0)) := by
        rw [show (i : Int) + j = ((i + j : Nat) : Int) by omega]
        exact atD_nat (frs_get hlen)
      have e2 : ixN (frs (innerR (ps.getD i 0) i qs (outerR ps qs i) j)).length ((i : Int) + j) = some (i + j) := by
        rw [show (i : Int) + j = ((i + j : Nat) : Int) by omega, frs_len]
        exact ixN_nat hlen
      walk_at "mi*"
      have bI := bd_inner (at_ := i) (hp.get (i := i) hA) hq hB (bd_outer hp hq hA hB i) j
      refine Wp.go (s2 _ _ _ ((hp.get hA).up (by omega)) ((hq.get hB).up (by omega))) ?_
      rintro _ _ ⟨rfl, rfl⟩
      try walk_at "mi*"
      refine Wp.go (s1 _ _ _ ((bI.hi _ (Nat.le_refl _)).up (by omega)) (((hp.get hA).mul (hq.get hB)).up (by omega))) ?_
      rintro _ _ ⟨rfl, rfl⟩
      have e2' := e2
      rw [frs_len] at e2'
      walk_at "mi*"
      rw [frs_set]
      exact ⟨g2.trans (Gr.set _ _ _), at_set h2, _, _, rfl⟩
    · rintro ρ μ2 ⟨g2, h2, x5, x6, rfl⟩
      walk_at "mi"
      exact ⟨g2, h2, _, _, _, _, rfl⟩
  · rintro ρ μ' ⟨g, h1, x3, x4, x5, x6, rfl⟩
    exact k μ' _ _ _ _ g h1
theorem run_ptimesC {A B C : Nat} {ps qs : List Rat} {μ : List O} {E : Ex → List O → Prop} (hp : SmL A ps) (hq : SmL B qs) (hA : 0 < A) (hB : 0 < B) (l1 : ps.length ≤ 40) (l2 : qs.length ≤ 40) (hC : ps.length * (A + B + 1) + (A + B) + 2 ≤ C) (hC9 : C ≤ 390000) :
    Wp (m_poly_times [.tup (frs ps), .tup (frs qs)]) μ (fun r μ' => r = .tup (frs (trimR (mulR ps qs))) ∧ Gr0 μ μ') E := by
  unfold m_poly_times c_poly_times
  have hs : sizeLine = 16777216 := sizeLine_eq
  have lp := @frs_len ps
  have lq := @frs_len qs
  have kr : (-(2 ^ 63) : Int) ≤ (ps.length : Int) + qs.length ∧ (ps.length : Int) + qs.length < 2 ^ 63 := by omega
  have er : repL ((ps.length : Int) + qs.length).toNat [fr 0] = frs (List.replicate (ps.length + qs.length) 0) := by
    rw [frs_rep, show ((ps.length : Int) + qs.length).toNat = ps.length + qs.length by omega]
    exact flat_rep _ _
  have el : (frs (List.replicate (ps.length + qs.length) 0)).length ≤ 16777216 := by rw [frs_len, List.length_replicate]; omega
  rw [nought]
  walk_at "mi*"
  refine prod_loop hp hq hA hB l1 hC (fun p q μ a b => run_plus a b (by omega) (by omega)) (fun p q μ a b => run_times a b (by omega) (by omega)) at_off ?_
  intro μ2 x3 x4 x5 x6 g h
  walk_at "mi"
  refine Wp.go (run_trimmed h (by rw [mulR, outer_len]; omega)) ?_
  rintro _ μ3 ⟨rfl, g3⟩
  try walk_at "mi"
  exact ((Gr0.app _ _).gr.trans g).off (by omega) |>.trans g3
theorem run_lproductC {A B C : Nat} {ps qs : List Rat} {μ : List O} {E : Ex → List O → Prop} (hp : SmL A ps) (hq : SmL B qs) (hA : 0 < A) (hB : 0 < B) (l1 : ps.length ≤ 40) (l2 : qs.length ≤ 40) (hC : ps.length * (A + B + 1) + (A + B) + 2 ≤ C) (hC9 : C ≤ 90000) :
    Wp (m_l_product [.tup (frs ps), .tup (frs qs)]) μ (fun r μ' => r = .tup (frs (trimR (mulR ps qs))) ∧ Gr0 μ μ') E := by
  unfold m_l_product c_l_product
  have hs : sizeLine = 16777216 := sizeLine_eq
  have lp := @frs_len ps
  have lq := @frs_len qs
  have kr : (-(2 ^ 63) : Int) ≤ (ps.length : Int) + qs.length ∧ (ps.length : Int) + qs.length < 2 ^ 63 := by omega
  have er : repL ((ps.length : Int) + qs.length).toNat [D.tup [.int 0, .int 1]] = frs (List.replicate (ps.length + qs.length) 0) := by
    rw [frs_rep, show ((ps.length : Int) + qs.length).toNat = ps.length + qs.length by omega]
    exact flat_rep _ _
  have el : (frs (List.replicate (ps.length + qs.length) 0)).length ≤ 16777216 := by rw [frs_len, List.length_replicate]; omega
  walk_at "mi*"
  refine prod_loop hp hq hA hB l1 hC (fun p q μ a b => run_ladd a b (by omega) (by omega)) (fun p q μ a b => run_lmul a b (by omega) (by omega)) at_off ?_
  intro μ2 x3 x4 x5 x6 g h
  walk_at "mi"
  refine Wp.go (run_ltrim h (by rw [mulR, outer_len]; omega)) ?_
  rintro _ μ3 ⟨rfl, g3⟩
  try walk_at "mi"
  exact ((Gr0.app _ _).gr.trans g).off (by omega) |>.trans g3
theorem run_ptimes {A B : Nat} {ps qs : List Rat} {μ : List O} {E : Ex → List O → Prop} (hp : SmL A ps) (hq : SmL B qs) (hA : 0 < A) (hB : 0 < B) (l1 : ps.length ≤ 40) (l2 : qs.length ≤ 40) (hC : 41 * (A + B + 1) + 1 ≤ 4500) :
    Wp (m_poly_times [.tup (frs ps), .tup (frs qs)]) μ (fun r μ' => r = .tup (frs (trimR (mulR ps qs))) ∧ Gr0 μ μ') E := by
  have h := Nat.mul_le_mul l1 (Nat.le_refl (A + B + 1))
  exact run_ptimesC (C := 4501) hp hq hA hB l1 l2 (by omega) (by omega)
theorem run_lproduct {A B : Nat} {ps qs : List Rat} {μ : List O} {E : Ex → List O → Prop} (hp : SmL A ps) (hq : SmL B qs) (hA : 0 < A) (hB : 0 < B) (l1 : ps.length ≤ 40) (l2 : qs.length ≤ 40) (hC : 41 * (A + B + 1) + 1 ≤ 4500) :
    Wp (m_l_product [.tup (frs ps), .tup (frs qs)]) μ (fun r μ' => r = .tup (frs (trimR (mulR ps qs))) ∧ Gr0 μ μ') E := by
  have h := Nat.mul_le_mul l1 (Nat.le_refl (A + B + 1))
  exact run_lproductC (C := 4501) hp hq hA hB l1 l2 (by omega) (by omega)
/-! ### times a number; the value at a number -/
def byR (ps : List Rat) (x : Rat) : List Rat := (List.range ps.length).map fun i => ps.getD i 0 * x
theorem run_lcby {n1 : Str} {f1 : List D → M D} {ps : List Rat} {x : Rat} {c : CE} {μ : List O} {P : D → List O → Prop} {E : Ex → List O → Prop} {g : CG} {ρ : Mi.Env} (hz : ps.length ≤ 50)
    (step : ∀ i acc, i < ps.length → ∃ ρ1, g.run (fr (ps.getD i 0)) ρ (μ ++ [.lst acc]) = some (ρ1, μ ++ [.lst acc]) ∧ Wp (c.run ρ1) (μ ++ [.lst acc]) (fun y μ3 => y = fr (ps.getD i 0 * x) ∧ μ3 = μ ++ [.lst acc]) (fun _ _ => False))
    (q : P (.ref μ.length) (μ ++ [.lst (frs (byR ps x))])) : Wp (lcM (wkOf (frs ps)) g fNil.run c.run ρ) μ P E := by
  have hs : sizeLine = 16777216 := sizeLine_eq
  refine wp_lc_map (get := fun i => (frs ps)[i]?) ps.length (fun i => fr (ps.getD i 0 * x)) (by show _ ≤ (frs ps).length; rw [frs_len]; omega) (by omega) (fun i acc => rfl) (fun i hi => by rw [frs_get hi]; rfl) (List.getElem?_eq_none (by rw [frs_len]; omega)) ?_ ?_
  · intro i d acc hi hd
    rw [frs_get hi] at hd
    cases hd
    obtain ⟨ρ1, h1, h2⟩ := step i acc hi
    exact ⟨ρ1, h1, wp_ret.mpr ⟨rfl, rfl⟩, h2⟩
  · have e : (List.range ps.length).map (fun i => fr (ps.getD i 0 * x)) = frs (byR ps x) := by
      unfold frs byR
      rw [List.map_map]
      rfl
    rw [e]
    exact q
theorem run_pby {A B : Nat} {ps : List Rat} {x : Rat} {μ : List O} {E : Ex → List O → Prop} (hp : SmL A ps) (hx : Sm B x) (hA : 0 < A) (hB : 0 < B) (hC : A + B ≤ 400000) (l1 : ps.length ≤ 50) :
    Wp (m_poly_by [.tup (frs ps), fr x]) μ (fun r μ' => r = .tup (frs (trimR (byR ps x))) ∧ Gr0 μ μ') E := by
  unfold m_poly_by c_poly_by
  walk_at "mi*"
  refine run_lcby (n1 := "") (f1 := m_times) (x := x) l1 ?_ ?_
  · intro i acc hi
    refine ⟨_, rfl, ?_⟩
    dsimp only [wipeE, List.map_cons, List.map_nil, List.set_cons_succ, List.set_cons_zero]
    walk_at "mi"
    refine Wp.go (run_times (A := A + B) ((hp.get hA).up (by omega)) (hx.up (by omega)) (by omega) hC) ?_
    rintro _ _ ⟨rfl, rfl⟩
    exact ⟨rfl, rfl⟩
  · try walk_at "mi"
    refine Wp.go (run_trimmed at_off0 (by unfold byR; rw [List.length_map, List.length_range]; omega)) ?_
    rintro _ μ2 ⟨rfl, g⟩
    try walk_at "mi"
    exact (Gr0.app _ _).trans g
def evalL (x : Rat) : List Rat → Rat
  | [] => 0
  | c :: r => c + x * evalL x r
theorem horner {x : Rat} : ∀ ps : List Rat, ps.reverse.foldl (fun f c => f * x + c) 0 = evalL x ps := by
  intro ps
  rw [List.foldl_reverse]
  induction ps with
  | nil => rfl
  | cons c r ih =>
    rw [List.foldr_cons, ih]
    show evalL x r * x + c = c + x * evalL x r
    grind
theorem powsum {x : Rat} : ∀ (ps : List Rat) (f w : Rat), (ps.foldl (fun (a : Rat × Rat) c => (a.1 + c * a.2, a.2 * x)) (f, w)).1 = f + w * evalL x ps
  | [], f, w => by
    show f = f + w * 0
    grind
  | c :: r, f, w => by
    rw [List.foldl_cons, powsum r]
    show f + c * w + w * x * evalL x r = f + w * (c + x * evalL x r)
    grind
theorem take_get {ps : List Rat} {i : Nat} (h : i < ps.length) : ps.take (i + 1) = ps.take i ++ [ps.getD i 0] := by
  rw [List.take_succ, List.getElem?_eq_getElem h, gd_in h]
  rfl
theorem frs_rev {ps : List Rat} : (frs ps).reverse = frs ps.reverse := by simp [frs]
theorem run_patC {A B C : Nat} {ps : List Rat} {x : Rat} {μ : List O} {E : Ex → List O → Prop} (hp : SmL A ps) (hx : Sm B x) (hA : 0 < A) (hB : 0 < B) (l1 : ps.length ≤ 40) (hC1 : A + B + 1 ≤ C) (hC : (ps.length + 1) * C + 1 ≤ 400000) :
    Wp (m_poly_at [.tup (frs ps), fr x]) μ (fun r μ' => (r = fr (evalL x ps) ∧ Sm (1 + ps.length * C) (evalL x ps)) ∧ μ' = μ) E := by
  unfold m_poly_at c_poly_at
  rw [nought]
  have hr := @frs_rev ps
  have lr : (frs ps.reverse).length = ps.length := by rw [frs_len, List.length_reverse]
  have hp' : SmL A ps.reverse := fun p h => hp p (List.mem_reverse.mp h)
  have ll : ps.reverse.length = ps.length := List.length_reverse
  walk_at "mi*"
  rw [← lr]
  refine ws_for (fun i ρ μ' => i ≤ ps.length ∧ μ' = μ ∧ Sm (1 + i * C) ((ps.reverse.take i).foldl (fun f c => f * x + c) 0) ∧ ∃ y, ρ = [some (.tup (frs ps)), some (fr x), some (fr ((ps.reverse.take i).foldl (fun f c => f * x + c) 0)), y]) ?_ ?_ ?_
  · exact ⟨Nat.zero_le _, rfl, (sm0 (A := 1) (by omega)).up (by omega), _, rfl⟩
  · rintro i d ρ _ hd ⟨hi, rfl, hsm, y, rfl⟩
    have hi2 : i < ps.reverse.length := by
      have := (List.getElem?_eq_some_iff.mp hd).1
      rw [frs_len] at this
      exact this
    rw [frs_get hi2] at hd
    cases hd
    refine ⟨_, _, rfl, ?_⟩
    walk_at "mi"
    have hb : (i + 1) * C ≤ (ps.length + 1) * C := Nat.mul_le_mul (by omega) (Nat.le_refl _)
    rw [Nat.add_mul, Nat.one_mul] at hb
    have sx := hsm.mul hx
    refine Wp.go (run_times (A := 400000) (hsm.up (by omega)) (hx.up (by omega)) (by omega) (by omega)) ?_
    rintro _ _ ⟨rfl, rfl⟩
    try walk_at "mi"
    have sy := sx.add (hp'.get (i := i) hA)
    refine Wp.go (run_plus (A := 400000) (sx.up (by omega)) ((hp'.get hA).up (by omega)) (by omega) (by omega)) ?_
    rintro _ _ ⟨rfl, rfl⟩
    have e : (ps.reverse.take (i + 1)).foldl (fun f c => f * x + c) 0 = (ps.reverse.take i).foldl (fun f c => f * x + c) 0 * x + ps.reverse.getD i 0 := by
      rw [take_get hi2, List.foldl_append]
      rfl
    refine ⟨by omega, rfl, ?_, some (fr (ps.reverse.getD i 0)), ?_⟩
    · rw [e]
      exact sy.up (by rw [Nat.add_mul, Nat.one_mul]; omega)
    · rw [e]
  · rintro ρ _ ⟨hi, rfl, hsm, y, rfl⟩
    have ef : (ps.reverse.take (frs ps.reverse).length).foldl (fun f c => f * x + c) 0 = evalL x ps := by
      rw [frs_len, List.take_length, horner]
    rw [ef] at hsm ⊢
    walk_at "mi"
    exact hsm
theorem run_pat {A B C : Nat} {ps : List Rat} {x : Rat} {μ : List O} {E : Ex → List O → Prop} (hp : SmL A ps) (hx : Sm B x) (hA : 0 < A) (hB : 0 < B) (l1 : ps.length ≤ 40) (hC1 : A + B + 1 ≤ C) (hC : 41 * C + 1 ≤ 400000) :
    Wp (m_poly_at [.tup (frs ps), fr x]) μ (fun r μ' => (r = fr (evalL x ps) ∧ Sm (1 + ps.length * C) (evalL x ps)) ∧ μ' = μ) E := 
  run_patC hp hx hA hB l1 hC1 (by have := Nat.mul_le_mul (show ps.length + 1 ≤ 41 by omega) (Nat.le_refl C); omega)
def lvB (A B : Nat) : Nat → Nat
  | 0 => 1
  | i + 1 => lvB A B i + (A + (1 + i * B)) + 1
theorem lvB_le {A B : Nat} {i : Nat} : ∀ {n : Nat}, i ≤ n → lvB A B i ≤ lvB A B n
  | 0, h => by
    have : i = 0 := by omega
    rw [this]; exact Nat.le_refl _
  | n + 1, h => by
    by_cases e : i = n + 1
    · rw [e]; exact Nat.le_refl _
    · have := lvB_le (A := A) (B := B) (i := i) (n := n) (by omega)
      show _ ≤ lvB A B n + (A + (1 + n * B)) + 1
      omega
theorem run_lvalue {A B : Nat} {ps : List Rat} {x : Rat} {μ : List O} {E : Ex → List O → Prop} (hp : SmL A ps) (hx : Sm B x) (hA : 0 < A) (hB : 0 < B) (hC : lvB A B ps.length ≤ 4500) (hB2 : 1 + ps.length * B ≤ 4500) (hB3 : B ≤ 4500) (hA3 : A ≤ 4500) :
    Wp (m_l_value [.tup (frs ps), fr x]) μ (fun r μ' => r = fr (evalL x ps) ∧ μ' = μ) E := by
  unfold m_l_value c_l_value
  have lr : (frs ps).length = ps.length := frs_len
  have hs : sizeLine = 16777216 := sizeLine_eq
  walk_at "mi*"
  rw [← lr]
  refine ws_for (fun i ρ μ' => i ≤ ps.length ∧ μ' = μ ∧ Sm (lvB A B i) ((ps.take i).foldl (fun (a : Rat × Rat) c => (a.1 + c * a.2, a.2 * x)) (0, 1)).1 ∧ Sm (1 + i * B) ((ps.take i).foldl (fun (a : Rat × Rat) c => (a.1 + c * a.2, a.2 * x)) (0, 1)).2 ∧
    ∃ y, ρ = [some (.tup (frs ps)), some (fr x), y, some (fr ((ps.take i).foldl (fun (a : Rat × Rat) c => (a.1 + c * a.2, a.2 * x)) (0, 1)).1), some (fr ((ps.take i).foldl (fun (a : Rat × Rat) c => (a.1 + c * a.2, a.2 * x)) (0, 1)).2)]) ?_ ?_ ?_
  · have s1 : Sm 1 1 := ⟨by decide, by decide⟩
    exact ⟨Nat.zero_le _, rfl, (sm0 (A := 1) (by omega)).up (Nat.le_refl _), s1.up (by omega), _, rfl⟩
  · rintro i d ρ _ hd ⟨hi, rfl, h1, h2, y, rfl⟩
    have hi2 : i < ps.length := by
      have := (List.getElem?_eq_some_iff.mp hd).1
      rw [frs_len] at this
      exact this
    rw [frs_get hi2] at hd
    cases hd
    refine ⟨_, _, rfl, ?_⟩
    have e : (ps.take (i + 1)).foldl (fun (a : Rat × Rat) c => (a.1 + c * a.2, a.2 * x)) (0, 1) = (((ps.take i).foldl (fun (a : Rat × Rat) c => (a.1 + c * a.2, a.2 * x)) (0, 1)).1 + ps.getD i 0 * ((ps.take i).foldl (fun (a : Rat × Rat) c => (a.1 + c * a.2, a.2 * x)) (0, 1)).2, ((ps.take i).foldl (fun (a : Rat × Rat) c => (a.1 + c * a.2, a.2 * x)) (0, 1)).2 * x) := by
      rw [take_get hi2, List.foldl_append]
      rfl
    rw [e]
    generalize (ps.take i).foldl (fun (a : Rat × Rat) c => (a.1 + c * a.2, a.2 * x)) (0, 1) = st at h1 h2 ⊢
    obtain ⟨f, w⟩ := st
    dsimp only at h1 h2 ⊢
    have hb := lvB_le (A := A) (B := B) (i := i + 1) (n := ps.length) hi2
    have hb0 : lvB A B (i + 1) = lvB A B i + (A + (1 + i * B)) + 1 := rfl
    have hb2 : i * B ≤ ps.length * B := Nat.mul_le_mul (by omega) (Nat.le_refl _)
    have hg := hp.get (i := i) hA
    have sm := hg.mul h2
    have sa := h1.add sm
    have sw := h2.mul hx
    walk_at "mi"
    refine Wp.go (run_lmul (A := 4500) (hg.up (by omega)) (h2.up (by omega)) (by omega) (by omega)) ?_
    rintro _ _ ⟨rfl, rfl⟩
    try walk_at "mi"
    refine Wp.go (run_ladd (A := 4500) (h1.up (by omega)) (sm.up (by omega)) (by omega) (by omega)) ?_
    rintro _ _ ⟨rfl, rfl⟩
    try walk_at "mi"
    refine Wp.go (run_lmul (A := 4500) (h2.up (by omega)) (hx.up (by omega)) (by omega) (by omega)) ?_
    rintro _ _ ⟨rfl, rfl⟩
    try walk_at "mi"
    refine ⟨by omega, ?_, ?_, some (fr (ps.getD i 0)), rfl⟩
    · exact sa.up (Nat.le_of_eq hb0.symm)
    · exact sw.up (by rw [Nat.add_mul, Nat.one_mul]; omega)
  · rintro ρ _ ⟨hi, rfl, h1, h2, y, rfl⟩
    have ef : ((ps.take (frs ps).length).foldl (fun (a : Rat × Rat) c => (a.1 + c * a.2, a.2 * x)) (0, 1)).1 = evalL x ps := by
      rw [frs_len, List.take_length, powsum]
      grind
    rw [ef]
    walk_at "mi"
/-! ### drawn fractions, polynomials -/
theorem sm_of_made {t low : Int} {B : Nat} (h : low ≠ 0) (ht : t.natAbs < 2 ^ B) (hl : low.natAbs < 2 ^ B) : Sm B (Rat.divInt t low) := Sm.of h rfl ht hl
theorem run_some_q {l n : Nat} {μ : List O} {E : Ex → List O → Prop} (h : Pot μ l n) (hn : n + 20 ≤ 1000000) :
    Wp (m_l_some [.ref l]) μ (fun r μ' => (∃ q, r = fr q ∧ Sm 100 q) ∧ Pot μ' l (n + 8) ∧ Gr l μ μ') E := by
  refine (run_some h hn).mono ?_ fun _ _ z => z
  rintro _ μ' ⟨⟨t, low, a, b, rfl, hm, ht, hlow⟩, p, g⟩
  have h0 : low ≠ 0 := fun z => by
    have := hm.sb
    have := hm.pos
    subst z
    omega
  have e30 : (10 : Nat) ^ 30 < 2 ^ 100 := by decide
  have e20 : (10 : Nat) ^ 20 < 2 ^ 100 := by decide
  exact ⟨⟨_, made_fr h0 hm, sm_of_made h0 (by omega) (by omega)⟩, p, g⟩
theorem run_lsmall {l n : Nat} {μ : List O} {E : Ex → List O → Prop} (h : Pot μ l n) (hn : n + 20 ≤ 1000000) :
    Wp (m_l_small [.ref l]) μ (fun r μ' => (∃ q, r = fr q ∧ Sm 3 q) ∧ Pot μ' l (n + 2) ∧ Gr l μ μ') E := by
  unfold m_l_small c_l_small
  walk_at "mi*"
  refine Wp.go (run_draw h (by omega) (by decide) (by decide)) ?_
  rintro _ μ1 ⟨⟨d1, rfl, a1, b1⟩, p1, g1⟩
  walk_at "mi*"
  refine Wp.go (run_draw p1 (by omega) (by decide) (by decide)) ?_
  rintro _ μ2 ⟨⟨d2, rfl, a2, b2⟩, p2, g2⟩
  walk_at "mi*"
  have e8 : (2 : Nat) ^ 3 = 8 := rfl
  refine Wp.go (run_mk (by omega) ⟨3, by omega, by omega, by omega⟩) ?_
  rintro _ _ ⟨rfl, rfl⟩
  exact ⟨⟨_, rfl, sm_of_made (by omega) (by omega) (by omega)⟩, p2, g1.trans g2⟩
theorem run_lpoly {l n : Nat} {most : Nat} {μ : List O} {E : Ex → List O → Prop} (h : Pot μ l n) (hn : n + 500 ≤ 1000000) (hm : most ≤ 40) :
    Wp (m_l_poly [.ref l, .int most]) μ (fun r μ' => (∃ ps, r = .tup (frs ps) ∧ SmL 3 ps ∧ ps.length ≤ most) ∧ Pot μ' l (n + 200) ∧ Gr l μ μ') E := by
  unfold m_l_poly c_l_poly
  have hs : sizeLine = 16777216 := sizeLine_eq
  walk_at "mi*"
  have hlog : ((most : Int) + 1).natAbs.log2 < 400000 := Nat.lt_of_le_of_lt (log2_mono (b := 41) (by omega)) (by decide)
  refine Wp.go (run_draw h (by omega) (by omega) hlog) ?_
  rintro _ μ1 ⟨⟨d1, rfl, a1, b1⟩, p1, g1⟩
  obtain ⟨k, rfl⟩ : ∃ k : Nat, d1 = k := ⟨d1.toNat, by omega⟩
  walk_at "mi*"
  refine ⟨⟨by omega, by omega⟩, ?_⟩
  rw [Int.toNat_natCast]
  have hl1 := p1.lt
  refine wp_lc k (fun i acc μ' => ∃ cs, acc = frs cs ∧ cs.length = i ∧ SmL 3 cs ∧ Pot μ' l (n + 1 + 4 * i) ∧ Gr l μ1 μ' ∧ μ'[μ1.length]? = some (.lst acc)) (Nat.le_refl _) ?_ ?_ ?_
  · exact ⟨[], rfl, rfl, fun p hp => (nomatch hp), p1.app, (Gr0.app _ _).gr, at_off0⟩
  · rintro i acc μ2 hi ⟨cs, rfl, hc, hsm, p2, g2, h2⟩
    refine ⟨.int (0 + i), by show (if i < k then _ else _) = _; rw [if_pos hi], _, _, rfl, ?_⟩
    dsimp only [wipeE, List.map_cons, List.map_nil, List.set_cons_succ, List.set_cons_zero]
    try walk_at "mi"
    refine Wp.go (run_lsmall p2 (by omega)) ?_
    rintro _ μ3 ⟨⟨q, rfl, hq⟩, p3, g3⟩
    try walk_at "mi"
    refine ⟨by omega, by omega, Wp.go (run_draw p3.app (by omega) (by decide) (by decide)) ?_⟩
    rintro _ μ4 ⟨⟨d4, rfl, a4, b4⟩, p4, g4⟩
    have h4 := g4.at_ _ _ (Nat.ne_of_gt p3.lt) at_off0
    have G4 : Gr l μ2 μ4 := g3.trans ((Gr0.app _ _).gr.trans g4)
    have h24 := G4.at_ _ _ (Nat.ne_of_gt hl1) h2
    walk_at "mi*"
    have fin : ∀ c : Rat, Sm 3 c → (∃ ds, some (O.lst (frs cs)) = some (O.lst ds) ∧ ds.length < 16777216 ∧ ∃ cs', ds ++ [fr c] = frs cs' ∧ cs'.length = i + 1 ∧ SmL 3 cs' ∧ Pot (μ4.set μ1.length (O.lst (ds ++ [fr c]))) l (n + (1 + 4 * (i + 1))) ∧ Gr l μ1 (μ4.set μ1.length (O.lst (ds ++ [fr c]))) ∧ (μ4.set μ1.length (O.lst (ds ++ [fr c])))[μ1.length]? = some (.lst (ds ++ [fr c]))) := by
      intro c hcs
      refine ⟨_, rfl, by rw [frs_len]; omega, cs ++ [c], frs_snoc.symm, by simp [hc], ?_, ?_, (g2.trans G4).set_off (Nat.le_refl _), at_set h24⟩
      · intro p hp
        rcases List.mem_append.mp hp with h | h
        · exact hsm p h
        · rw [List.mem_singleton.mp h]; exact hcs
      · have := p4.up (m := n + (1 + 4 * (i + 1))) (by omega)
        obtain ⟨a, b, c', hh, r⟩ := this
        exact ⟨a, b, c', by rw [List.getElem?_set_ne (by omega)]; exact hh, r⟩
    by_cases h0 : d4 = 0
    · subst h0
      try walk_at "mi"
      rw [h24]
      exact fin 0 (sm0 (by omega))
    · simp only [h0, decide_false, Bool.false_eq_true, if_false]
      try walk_at "mi"
      rw [h24]
      exact fin q hq
  · rintro acc μ2 ⟨cs, rfl, hc, hsm, p2, g2, h2⟩
    refine ⟨by show (if k < k then _ else _) = _; rw [if_neg (by omega)], ?_⟩
    try walk_at "mi"
    refine Wp.go (run_ltrim h2 (by omega)) ?_
    rintro _ μ3 ⟨rfl, g3⟩
    try walk_at "mi"
    have hle := trim_len cs
    exact ⟨⟨_, rfl, fun p hp => hsm p (trim_mem hp), by omega⟩, (p2.gr g3).up (by omega), (g1.trans g2).trans g3.gr⟩
/-! ### seen -/
section
variable {l n w A : Nat} {μ : List O}
theorem sn_fr {q : Rat} (h : Sm A q) (hA : A ≤ 1900) (h0 : 0 < A) (hw : 2 * A + 2 ≤ w) : Sn l μ (n + 1) w (fr q) :=
  sn_t2 A (sn_intB A (log2_lt h.1 h0) (by omega) (Nat.le_refl _)) (sn_intB A (log2_lt (by rw [Int.natAbs_natCast]; exact h.2) h0) (by omega) (Nat.le_refl _)) hw
theorem sns_frs (hA : A ≤ 1900) (h0 : 0 < A) : ∀ {ps : List Rat}, SmL A ps → Sns l μ (n + 1) (ps.length * (2 * A + 3)) (frs ps)
  | [], _ => sns_n
  | p :: r, h => sns_c (sn_fr (w := 2 * A + 2) (h p List.mem_cons_self) hA h0 (Nat.le_refl _)) (sns_frs hA h0 fun q hq => h q (List.mem_cons_of_mem _ hq)) (by rw [List.length_cons, Nat.add_mul, Nat.one_mul]; omega)
theorem sn_poly {ps : List Rat} (h : SmL A ps) (hA : A ≤ 1900) (h0 : 0 < A) (hl : ps.length * (2 * A + 3) ≤ w) : Sn l μ (n + 2) w (.tup (frs ps)) := sn_tup ((sns_frs hA h0 h).up (Gr.refl _ _) (Nat.le_refl _) hl)
end
theorem add_sm {A B : Nat} {ps qs : List Rat} (hp : SmL A ps) (hq : SmL B qs) (hA : 0 < A) (hB : 0 < B) : SmL (A + B + 1) (addR ps qs) := fun p h => by
  obtain ⟨i, _, rfl⟩ := List.mem_map.mp h
  exact (hp.get hA).add (hq.get hB)
theorem by_sm {A B : Nat} {ps : List Rat} {x : Rat} (hp : SmL A ps) (hx : Sm B x) (hA : 0 < A) : SmL (A + B) (byR ps x) := fun p h => by
  obtain ⟨i, _, rfl⟩ := List.mem_map.mp h
  exact (hp.get hA).mul hx
theorem mul_sm {A B C : Nat} {ps qs : List Rat} (hp : SmL A ps) (hq : SmL B qs) (hA : 0 < A) (hB : 0 < B) (hC : 1 + ps.length * (A + B + 1) ≤ C) : SmL C (mulR ps qs) := fun p h => by
  exact (getL (bd_outer hp hq hA hB ps.length) p h).up hC
theorem SmL.trim {A : Nat} {ps : List Rat} (h : SmL A ps) : SmL A (trimR ps) := fun p hp => h p (trim_mem hp)
end Std
/-! S3: more of fractions; their texts. -/
namespace Std
open PySem L2 PyProof.Rows Mi
local macro_rules | `(tactic| walk_at "mi") => `(tactic| simp only [wp_mir, ws_cons, ws_nil, nx_nx, nx_rt, nx_bk, nx_ct, nx_er, fn_nx, fn_rt, fn_er, ws_asgN, ws_asgT, gs_cons, gs_nil, ex_tup, ex_pr, ws_asgS, ws_of, ws_some, wp_bnd, wp_ret, wp_new, ws_ite, wp_iteB, wp_stop,
  r_var, r_int, r_bl, r_str, r_non, r_glo, r_nil, r_cons, r_tup, r_lst, r_bin, r_cmp, r_tcmp, r_tval, r_tnot, r_and1, r_or1, r_and, r_or, r_if, r_vone, r_vand, r_vor, r_not, r_neg, r_chain, r_tchain,
  r_ix, r_slice, r_ono, r_oyes, r_B, r_call, r_call0, r_isi, s_expr, s_ret, s_if, s_par, s_while, s_for, s_brk, s_cont, s_pass, s_retN, i_T, i_L, i_A, i_En, i_Zp, i_Zp3, r_step, o_stepM, o_stepD, r_rev, r_J, j_nil, j_lit, j_fmt, s_par3, o_isBt, o_isBn, o_fmtI, o_fmtS, o_put, o_sw, o_ls, o_part, r_callK, r_kNil, r_kCons, r_m0, r_m, f_nil, f_one, s_asg2, s_setLc, r_lc, s_setLc2, r_lc2, o_revT, o_revL, o_max, o_min, o_all, o_any, o_aT, o_aF, o_aL, o_aS, o_enT, o_enL, o_zipT, o_zipL, fuelE, fuelZ, fuelS, o_mulL, o_mulS, o_isTL, o_isTS, q_nil, q_cons, r_dict, r_dict0, kd_nil, kd_S, Option.map_some, wp_dctE, ex_dct, ix_refS, setL_S, o_isTD, wp_dget1, wp_dget2, wp_popA0, wp_app, wp_pop, i_R1, i_R2,
  List.map_cons, List.map_nil, List.replicate_succ, List.replicate_zero, List.nil_append, List.cons_append, List.length_cons, List.length_nil, Nat.reduceAdd, Nat.add_assoc, Nat.zero_add, Nat.add_zero, Nat.reduceSub, true_and, getV, List.getElem?_cons_zero, List.getElem?_cons_succ, List.set_cons_zero, List.set_cons_succ,
  o_add, o_addS, o_addT, o_addL, o_sub, o_mul, o_fdiv, o_mod, o_pow, o_neg, o_lt, o_le, o_gt, o_ge, o_eq, o_eqS, o_eqB, o_ne, o_neS, o_neB, o_is, o_isn, o_asB, o_asI, o_lenT, o_lenF, o_lenL, o_abs', o_int, o_intB, o_str, o_slT, o_slF, o_slL, o_listT, o_listF, o_listL, o_tupT, o_tupL, o_newL, o_seqF, o_seqL, o_tupW, o_rng1, o_rng2, fuelOf, fuelL, fuelR, wp_isi, tyN_int, tyN_bl, tyN_str, tyN_non, tyN_tup, tyN_fro, iS_NoneType, iS_bool, iS_int, iS_str, iS_tuple, iS_list, iS_dict, List.length_append, List.length_map, List.length_set,
  wp_lstE, setL_E, ex_lst, ex_n, at_off, at_off0, wp_withNew, o_keyI, o_keyS, wp_setE, set_off, set_off0, r_dict1, trn_nx, trn_ct, trn_bk, trn_rt, trn_er, List.append_assoc, List.getElem?_append_left, List.set_set, List.getElem?_set_self, wp_need, ix_ref, Mi.ix_tup, ix_fro, atD_0, atD_1, atD_2, decide_eq_true_eq, Bool.false_eq_true, false_implies, not_false_eq_true, true_implies, not_true_eq_false, Bool.true_eq_false, and_true, if_true, if_false, Int.cast_ofNat_Int, Int.reduceEq, Int.reduceLT, Int.reduceLE, decide_true, decide_false, Bool.not_true, Bool.not_false, reduceIte, eq_self, Nat.reduceLeDiff])
local macro_rules | `(tactic| walk_at "mi*") => `(tactic| simp only [wp_mir, ws_cons, ws_nil, nx_nx, nx_rt, nx_bk, nx_ct, nx_er, fn_nx, fn_rt, fn_er, ws_asgN, ws_asgT, gs_cons, gs_nil, ex_tup, ex_pr, ws_asgS, ws_of, ws_some, wp_bnd, wp_ret, wp_new, ws_ite, wp_iteB, wp_stop,
  r_var, r_int, r_bl, r_str, r_non, r_glo, r_nil, r_cons, r_tup, r_lst, r_bin, r_cmp, r_tcmp, r_tval, r_tnot, r_and1, r_or1, r_and, r_or, r_if, r_vone, r_vand, r_vor, r_not, r_neg, r_chain, r_tchain,
  r_ix, r_slice, r_ono, r_oyes, r_B, r_call, r_call0, r_isi, s_expr, s_ret, s_if, s_par, s_while, s_for, s_brk, s_cont, s_pass, s_retN, i_T, i_L, i_A, i_En, i_Zp, i_Zp3, r_step, o_stepM, o_stepD, r_rev, r_J, j_nil, j_lit, j_fmt, s_par3, o_isBt, o_isBn, o_fmtI, o_fmtS, o_put, o_sw, o_ls, o_part, r_callK, r_kNil, r_kCons, r_m0, r_m, f_nil, f_one, s_asg2, s_setLc, r_lc, s_setLc2, r_lc2, o_revT, o_revL, o_max, o_min, o_all, o_any, o_aT, o_aF, o_aL, o_aS, o_enT, o_enL, o_zipT, o_zipL, fuelE, fuelZ, fuelS, o_mulL, o_mulS, o_isTL, o_isTS, q_nil, q_cons, r_dict, r_dict0, kd_nil, kd_S, Option.map_some, wp_dctE, ex_dct, ix_refS, setL_S, o_isTD, wp_dget1, wp_dget2, wp_popA0, wp_app, wp_pop, i_R1, i_R2,
  List.map_cons, List.map_nil, List.replicate_succ, List.replicate_zero, List.nil_append, List.cons_append, List.length_cons, List.length_nil, Nat.reduceAdd, Nat.add_assoc, Nat.zero_add, Nat.add_zero, Nat.reduceSub, true_and, getV, List.getElem?_cons_zero, List.getElem?_cons_succ, List.set_cons_zero, List.set_cons_succ,
  o_add, o_addS, o_addT, o_addL, o_sub, o_mul, o_fdiv, o_mod, o_pow, o_neg, o_lt, o_le, o_gt, o_ge, o_eq, o_eqS, o_eqB, o_ne, o_neS, o_neB, o_is, o_isn, o_asB, o_asI, o_lenT, o_lenF, o_lenL, o_abs', o_int, o_intB, o_str, o_slT, o_slF, o_slL, o_listT, o_listF, o_listL, o_tupT, o_tupL, o_newL, o_seqF, o_seqL, o_tupW, o_rng1, o_rng2, fuelOf, fuelL, fuelR, wp_isi, tyN_int, tyN_bl, tyN_str, tyN_non, tyN_tup, tyN_fro, iS_NoneType, iS_bool, iS_int, iS_str, iS_tuple, iS_list, iS_dict, List.length_append, List.length_map, List.length_set,
  wp_lstE, setL_E, ex_lst, ex_n, at_off, at_off0, wp_withNew, o_keyI, o_keyS, wp_setE, set_off, set_off0, r_dict1, trn_nx, trn_ct, trn_bk, trn_rt, trn_er, List.append_assoc, List.getElem?_append_left, List.set_set, List.getElem?_set_self, wp_need, ix_ref, Mi.ix_tup, ix_fro, atD_0, atD_1, atD_2, decide_eq_true_eq, Bool.false_eq_true, false_implies, not_false_eq_true, true_implies, not_true_eq_false, Bool.true_eq_false, and_true, if_true, if_false, Int.cast_ofNat_Int, Int.reduceEq, Int.reduceLT, Int.reduceLE, decide_true, decide_false, Bool.not_true, Bool.not_false, reduceIte, eq_self, Nat.reduceLeDiff, *])
def k_FIGURES : D := (.str "0123456789")
def k_MOST_FIGURES : D := (.int 6)
def c_minus : CB := (bCons (sRet (cCall "plus" m_plus (aCons (cVar 0) (aCons (cTup (aCons (cNeg (cIx (cVar 1) (cInt 0))) (aCons (cIx (cVar 1) (cInt 1)) aNil))) aNil))))
  bNil)
def m_minus : List D → M D := mir 2 2 c_minus.run
def c_over : CB := (bCons (sIf (tCmpC .Eq eqD (cIx (cVar 1) (cInt 0)) (cInt 0)) (bCons sNever
  bNil) bNil)
  (bCons (sRet (cCall "times" m_times (aCons (cVar 0) (aCons (cIf (tCmpC .Gt gtD (cIx (cVar 1) (cInt 0)) (cInt 0)) (cTup (aCons (cIx (cVar 1) (cInt 1)) (aCons (cIx (cVar 1) (cInt 0)) aNil))) (cTup (aCons (cNeg (cIx (cVar 1) (cInt 1))) (aCons (cNeg (cIx (cVar 1) (cInt 0))) aNil)))) aNil))))
  bNil))
def m_over : List D → M D := mir 2 2 c_over.run
def c_less : CB := (bCons (sRet (cCmp .Lt ltD (cBin .Mult mulD (cIx (cVar 0) (cInt 0)) (cIx (cVar 1) (cInt 1))) (cBin .Mult mulD (cIx (cVar 1) (cInt 0)) (cIx (cVar 0) (cInt 1)))))
  bNil)
def m_less : List D → M D := mir 2 2 c_less.run
def c_fraction : CB := (bCons (sIf (tCmpC .Eq eqD (cVar 1) (cInt 0)) (bCons sNever
  bNil) bNil)
  (bCons (sAsg (gN 2) (cCall "shared_by" m_shared_by (aCons (cB "abs" absD (aCons (cVar 0) aNil)) (aCons (cB "abs" absD (aCons (cVar 1) aNil)) aNil))))
  (bCons (sIf (tCmpC .Lt ltD (cVar 1) (cInt 0)) (bCons (sPar 0 1 (cNeg (cVar 0)) (cNeg (cVar 1)))
  bNil) bNil)
  (bCons (sRet (cTup (aCons (cBin .FloorDiv fdivD (cVar 0) (cVar 2)) (aCons (cBin .FloorDiv fdivD (cVar 1) (cVar 2)) aNil))))
  bNil))))
def m_fraction : List D → M D := mir 3 2 c_fraction.run
def c_shown : CB := (bCons (sRet (cIf (tCmpC .Eq eqD (cIx (cVar 0) (cInt 1)) (cInt 1)) (cB "str" strD (aCons (cIx (cVar 0) (cInt 0)) aNil)) (cJ (jFmt (cIx (cVar 0) (cInt 0)) (jLit "/" (jFmt (cIx (cVar 0) (cInt 1)) jNil))))))
  bNil)
def m_shown : List D → M D := mir 1 1 c_shown.run
def c_number_of : CB := (bCons (sIf (wOr (tNotC (tChainC .LtE .LtE leD leD (cInt 1) (cB "len" lenD (aCons (cVar 0) aNil)) (cGlo "MOST_FIGURES" k_MOST_FIGURES))) (wOr1 (tNotC (tVal (cB "all" allD (aCons (cLc (iA (cVar 0)) (gN 1) fNil (cCmp .In (inD false) (cVar 1) (cGlo "FIGURES" k_FIGURES)) [("sign", 1)]) aNil)))))) (bCons (sRet cNon)
  bNil) bNil)
  (bCons (sRet (cB "int" intTx (aCons (cVar 0) aNil)))
  bNil))
def m_number_of : List D → M D := mir 2 1 c_number_of.run
def c_fraction_of : CB := (bCons (sIf (tNotC (tVal (cIsi "str" "str" (cVar 0)))) (bCons (sRet cNon)
  bNil) bNil)
  (bCons (sAsg (gT (gsCons (gN 2) (gsCons (gN 3) (gsCons (gN 4) gsNil))) 3) (cM "str" "partition" partD (cVar 0) (aCons (cStr "/") aNil)))
  (bCons (sPar 5 6 (cCall "number_of" m_number_of (aCons (cM "str" "lstrip" lsD (cVar 2) (aCons (cStr "-") aNil)) aNil)) (cIf (tCmpC .NotEq neD (cVar 3) (cStr "")) (cCall "number_of" m_number_of (aCons (cVar 4) aNil)) (cInt 1)))
  (bCons (sIf (wOr (tCmpC .Is isD (cVar 5) cNon) (wOr (tCmpC .Is isD (cVar 6) cNon) (wOr1 (tCmpC .Eq eqD (cVar 6) (cInt 0))))) (bCons (sRet cNon)
  bNil) bNil)
  (bCons (sAsg (gN 1) (cCall "fraction" m_fraction (aCons (cIf (tVal (cM "str" "startswith" swD (cVar 2) (aCons (cStr "-") aNil))) (cNeg (cVar 5)) (cVar 5)) (aCons (cVar 6) aNil))))
  (bCons (sRet (cIf (tCmpC .Eq eqD (cCall "shown" m_shown (aCons (cVar 1) aNil)) (cVar 0)) (cVar 1) cNon))
  bNil))))))
def m_fraction_of : List D → M D := mir 7 1 c_fraction_of.run
/-! ### minus, over, less, fraction -/
theorem fr_negq {q : Rat} : D.tup [.int (-q.num), .int q.den] = fr (-q) := rfl
theorem run_minus {A : Nat} {p q : Rat} {μ : List O} {E : Ex → List O → Prop} (hp : Sm A p) (hq : Sm A q) (h0 : 0 < A) (hA : A ≤ 400000) : Wp (m_minus [fr p, fr q]) μ (fun r μ' => r = fr (p - q) ∧ μ' = μ) E := by
  unfold m_minus c_minus
  have hs : sizeLine = 16777216 := sizeLine_eq
  have ix0 := @ix_fr0
  have ix1 := @ix_fr1
  walk_at "mi*"
  rw [fr_negq]
  refine (run_plus hp hq.neg h0 hA).mono ?_ fun _ _ z => z
  rintro _ _ ⟨rfl, rfl⟩
  exact ⟨by rw [Rat.sub_eq_add_neg], rfl⟩
theorem inv_pos {q : Rat} (h : 0 < q.num) : (q⁻¹).num = q.den ∧ (q⁻¹).den = q.num.natAbs := by
  have e : q⁻¹ = Rat.inv q := rfl
  rw [e]
  unfold Rat.inv
  rw [dif_neg (by omega), dif_pos h]
  exact ⟨rfl, rfl⟩
theorem inv_neg {q : Rat} (h : q.num < 0) : (q⁻¹).num = -q.den ∧ (q⁻¹).den = q.num.natAbs := by
  have e : q⁻¹ = Rat.inv q := rfl
  rw [e]
  unfold Rat.inv
  rw [dif_pos h]
  exact ⟨rfl, rfl⟩
theorem Sm.inv {A : Nat} {q : Rat} (h : Sm A q) (h0 : q ≠ 0) : Sm A (q⁻¹) := by
  have hn : q.num ≠ 0 := fun z => h0 (num0.mp z)
  rcases Int.lt_or_gt_of_ne hn with z | z
  · obtain ⟨e1, e2⟩ := inv_neg z
    exact ⟨by rw [e1, Int.natAbs_neg, Int.natAbs_natCast]; exact h.2, by rw [e2]; exact h.1⟩
  · obtain ⟨e1, e2⟩ := inv_pos z
    exact ⟨by rw [e1, Int.natAbs_natCast]; exact h.2, by rw [e2]; exact h.1⟩
theorem run_over {A : Nat} {p q : Rat} {μ : List O} {E : Ex → List O → Prop} (hp : Sm A p) (hq : Sm A q) (h0 : 0 < A) (hA : A ≤ 400000) (hne : q ≠ 0) : Wp (m_over [fr p, fr q]) μ (fun r μ' => r = fr (p / q) ∧ μ' = μ) E := by
  unfold m_over c_over
  have hs : sizeLine = 16777216 := sizeLine_eq
  have ix0 := @ix_fr0
  have ix1 := @ix_fr1
  have hn : ¬ q.num = 0 := fun z => hne (num0.mp z)
  have fin : Wp (m_times [fr p, fr (q⁻¹)]) μ (fun r μ' => r = fr (p / q) ∧ μ' = μ) E := by
    refine (run_times hp (hq.inv hne) h0 hA).mono ?_ fun _ _ z => z
    rintro _ _ ⟨rfl, rfl⟩
    exact ⟨by rw [Rat.div_def], rfl⟩
  by_cases hz : 0 < q.num
  · obtain ⟨e1, e2⟩ := inv_pos hz
    have e : D.tup [.int q.den, .int q.num] = fr (q⁻¹) := by
      unfold fr
      rw [e1, e2]
      have : ((q.num.natAbs : Nat) : Int) = q.num := by omega
      rw [this]
    walk_at "mi*"
  · have hz2 : q.num < 0 := by omega
    obtain ⟨e1, e2⟩ := inv_neg hz2
    have e : D.tup [.int (-q.den), .int (-q.num)] = fr (q⁻¹) := by
      unfold fr
      rw [e1, e2]
      have : ((q.num.natAbs : Nat) : Int) = -q.num := by omega
      rw [this]
    walk_at "mi*"
theorem lt_cross (p q : Rat) : (p.num * q.den < q.num * p.den) ↔ p < q := (Rat.lt_iff p q).symm
theorem run_less {A : Nat} {p q : Rat} {μ : List O} {E : Ex → List O → Prop} (hp : Sm A p) (hq : Sm A q) (h0 : 0 < A) (hA : A ≤ 400000) : Wp (m_less [fr p, fr q]) μ (fun r μ' => r = .bl (decide (p < q)) ∧ μ' = μ) E := by
  unfold m_less c_less
  have ix0 := @ix_fr0
  have ix1 := @ix_fr1
  have m1 : mulOk p.num q.den := mulOk_n (A := A) (B := A) hp.1 (by rw [Int.natAbs_natCast]; exact hq.2) h0 h0 (by omega)
  have m2 : mulOk q.num p.den := mulOk_n (A := A) (B := A) hq.1 (by rw [Int.natAbs_natCast]; exact hp.2) h0 h0 (by omega)
  have hl := lt_cross p q
  walk_at "mi*"
theorem run_fraction {A : Nat} {n d : Int} {μ : List O} {E : Ex → List O → Prop} (hd : d ≠ 0) (h1 : n.natAbs < 2 ^ A) (h2 : d.natAbs < 2 ^ A) (hA : A ≤ 400000) : Wp (m_fraction [.int n, .int d]) μ (fun r μ' => r = fr (Rat.divInt n d) ∧ μ' = μ) E := by
  unfold m_fraction c_fraction
  have hs : sizeLine = 16777216 := sizeLine_eq
  walk_at "mi*"
  refine Wp.go (run_shared _ _ _ _) ?_
  rintro _ _ ⟨rfl, rfl⟩
  have hg : 0 < Nat.gcd n.natAbs d.natAbs := Nat.gcd_pos_of_pos_right _ (by omega)
  have kd := divOk_n (d := Nat.gcd n.natAbs d.natAbs) (Nat.lt_of_le_of_lt (Nat.le_of_dvd (by omega) (Nat.gcd_dvd_right _ _)) h2) hg hA
  by_cases hn : d < 0
  · walk_at "mi*"
    have hm := made_of (t := n) (low := d) (s := -1) hd (by omega) (.inr rfl)
    rw [Int.neg_one_mul, Int.neg_one_mul] at hm
    exact made_fr hd hm
  · walk_at "mi*"
    have hm := made_of (t := n) (low := d) (s := 1) hd (by omega) (.inl rfl)
    rw [Int.one_mul, Int.one_mul] at hm
    exact made_fr hd hm
/-! ### texts by their signs -/
abbrev T (l : List Nat) : Str := SX.S l
def sgn (i : Int) : List Nat := if i < 0 then [45] else []
theorem txt_int (i : Int) : Str.ofString (toString i) = T (sgn i ++ TL.numL i.natAbs) := by
  cases i with
  | ofNat n =>
    have e : sgn (Int.ofNat n) = [] := by unfold sgn; rw [if_neg (by simp)]
    rw [e]
    exact SX.num_S n
  | negSucc m =>
    have e : sgn (Int.negSucc m) = [45] := by unfold sgn; rw [if_pos (Int.negSucc_lt_zero m)]
    rw [e]
    refine TL.ext_tl ?_
    rw [TL.tl_ofString]
    have h1 : toString (Int.negSucc m) = "-" ++ toString (m + 1) := rfl
    have h2 : TL.tl (Str.ofString (toString (((m + 1 : Nat) : Nat) : Int))) = TL.numL (m + 1) := TL.tl_num (m + 1)
    rw [TL.tl_ofString] at h2
    have h3 : toString (((m + 1 : Nat) : Nat) : Int) = toString (m + 1) := rfl
    rw [h3] at h2
    rw [h1, String.toList_append, List.map_append, h2]
    rfl
theorem minus_S : Str.ofString "-" = T [45] := by decide +kernel
theorem bar_S : Str.ofString "/" = T [47] := by decide +kernel
theorem empty_S : Str.ofString "" = T [] := by decide +kernel
theorem blank_S : Str.ofString " " = T [32] := by decide +kernel
theorem dropw {p : Nat → Bool} : ∀ l : List Nat, l.drop (l.takeWhile p).length = l.dropWhile p
  | [] => rfl
  | c :: r => by
    rw [List.takeWhile_cons, List.dropWhile_cons]
    split
    · rw [List.length_cons, List.drop_succ_cons, dropw r]
    · rfl
theorem lstrip_S (l : List Nat) : Txt.lstripChars (T l) (T [45]) = T (l.dropWhile (· == 45)) := by
  unfold Txt.lstripChars
  rw [PyProof.Rows.stripBy_eq]
  refine TL.ext_tl ?_
  have hlo : stripLo (T [45]).cps.contains true (T l) = (l.takeWhile (· == 45)).length := by
    unfold stripLo
    rw [if_pos rfl]
    have e : (T [45]).cps.contains = fun c => c == 45 := by
      funext c
      show (#[45] : Array Nat).contains c = _
      simp [Bool.beq_comm]
      rfl
    rw [e]
  have hhi : ∀ lo, stripHi (T [45]).cps.contains false (T l) lo = (T l).length := fun lo => by
    unfold stripHi
    rw [if_neg Bool.false_ne_true]
  rw [hlo, hhi, TL.tl_strSub_end]
  exact dropw l
theorem sw_S (c : Nat) (l : List Nat) : Txt.startswith (T (c :: l)) (T [45]) = (c == 45) := by
  unfold Txt.startswith Builtin.Str.subAt
  simp [Str.length]
def dig (c : Nat) : Bool := decide (48 ≤ c) && decide (c ≤ 57)
def numO (l : List Nat) : Option Nat := if 1 ≤ l.length ∧ l.length ≤ 6 ∧ l.all dig = true then some (NumText.digitsVal l) else none
def ofO : Option Nat → D
  | some n => .int n
  | none => .non
theorem figs : (Str.ofString "0123456789").cps.toList = [48, 49, 50, 51, 52, 53, 54, 55, 56, 57] := by decide +kernel
theorem in_figs (c : Nat) : inD false (.str ⟨#[c]⟩) (.str (Str.ofString "0123456789")) = M.ret (.bl (dig c)) := by
  show M.ret (D.bl (decide (c ∈ (Str.ofString "0123456789").cps.toList))) = _
  congr 2
  rw [figs]
  unfold dig
  by_cases h : 48 ≤ c ∧ c ≤ 57
  · rw [decide_eq_true (by simp only [List.mem_cons, List.not_mem_nil, or_false]; omega), decide_eq_true h.1, decide_eq_true h.2]
    rfl
  · rw [decide_eq_false (by simp only [List.mem_cons, List.not_mem_nil, or_false]; omega)]
    by_cases h1 : 48 ≤ c
    · have h2 : ¬ c ≤ 57 := fun z => h ⟨h1, z⟩
      simp [h1, h2]
    · simp [h1]
theorem bls_map : ∀ l : List Nat, blsOf (l.map fun c => D.bl (dig c)) = some (l.map dig)
  | [] => rfl
  | c :: r => by
    rw [List.map_cons]
    unfold blsOf
    rw [bls_map r]
    rfl
theorem all_id (l : List Nat) : (l.map dig).all id = l.all dig := by
  rw [List.all_map]
  rfl
theorem run_number {l : List Nat} {μ : List O} {E : Ex → List O → Prop} (hl : l.length ≤ 10000) : Wp (m_number_of [.str (T l)]) μ (fun r μ' => r = ofO (numO l) ∧ Gr0 μ μ') E := by
  unfold m_number_of c_number_of k_MOST_FIGURES k_FIGURES
  have hs : sizeLine = 16777216 := sizeLine_eq
  have lt := SX.S_len l
  have ol : lenD [.str (T l)] = M.ret (.int l.length) := by
    show (if (T l).length ≤ sizeLine then M.ret (D.int (T l).length) else M.stop) = _
    rw [lt, if_pos (by omega)]
  by_cases h1 : 1 ≤ (l.length : Int)
  · by_cases h6 : (l.length : Int) ≤ 6
    · walk_at "mi*"
      refine wp_lc_map (get := fun i => (T l).cps[i]?.map fun c => .str ⟨#[c]⟩) l.length (fun i => .bl (dig (l.getD i 0))) (by show _ ≤ (T l).cps.size; simp) (by omega) (fun i acc => rfl) (fun i hi => by simp [hi]) (by simp) ?_ ?_
      · intro i d acc hi hd
        have hd' : D.str ⟨#[l.getD i 0]⟩ = d := by
          simp [hi] at hd
          rw [← hd, List.getD_eq_getElem?_getD, List.getElem?_eq_getElem hi]
          rfl
        subst hd'
        refine ⟨_, rfl, wp_ret.mpr ⟨rfl, rfl⟩, ?_⟩
        dsimp only [wipeE, List.map_cons, List.map_nil, List.set_cons_succ, List.set_cons_zero]
        have hin := in_figs (l.getD i 0)
        walk_at "mi*"
      · have e : (List.range l.length).map (fun i => D.bl (dig (l.getD i 0))) = l.map fun c => D.bl (dig c) := by
          apply List.ext_getElem?
          intro i
          by_cases hi : i < l.length
          · rw [List.getElem?_map, List.getElem?_range hi, List.getElem?_map, List.getElem?_eq_getElem hi]
            show some (D.bl (dig (l.getD i 0))) = some (D.bl (dig l[i]))
            rw [List.getD_eq_getElem?_getD, List.getElem?_eq_getElem hi]
            rfl
          · rw [List.getElem?_eq_none (by simp; omega), List.getElem?_eq_none (by simp; omega)]
        rw [e]
        have hb := bls_map l
        have ha := all_id l
        walk_at "mi*"
        have hd : ∀ b, l.all dig = b → numO l = (if b = true then some (NumText.digitsVal l) else none) := by
          intro b hb
          unfold numO
          rw [hb]
          cases b
          · rw [if_neg (by simp), if_neg Bool.false_ne_true]
          · rw [if_pos (by refine ⟨by omega, by omega, rfl⟩), if_pos rfl]
        cases hq : l.all dig with
        | false =>
          rw [hd _ hq]
          exact ⟨fun _ => ⟨rfl, Gr0.app _ _⟩, fun z => (z rfl).elim⟩
        | true =>
          rw [hd _ hq]
          refine ⟨fun z => (nomatch z), fun _ => ?_⟩
          have hi : PySem.intText? (T l) = some ((NumText.digitsVal l : Nat) : Int) := SX.int_S hq (by intro z; subst z; simp at h1) (by omega)
          have e2 : intTx [.str (T l)] = M.ret (.int (NumText.digitsVal l : Nat)) := by
            show (match PySem.intText? (T l) with | some n => if (T l).length ≤ 640 then M.ret (D.int n) else M.stop | none => M.stop) = _
            rw [hi]
            show (if (T l).length ≤ 640 then _ else _) = _
            rw [lt, if_pos (by omega)]
          rw [e2, wp_ret]
          exact ⟨rfl, Gr0.app _ _⟩
    · have hn : numO l = none := by unfold numO; rw [if_neg (by omega)]
      walk_at "mi*"
      exact ⟨rfl, Gr0.refl _⟩
  · have hn : numO l = none := by unfold numO; rw [if_neg (by omega)]
    walk_at "mi*"
    exact ⟨rfl, Gr0.refl _⟩
def txt (q : Rat) : List Nat := (sgn q.num ++ TL.numL q.num.natAbs) ++ (if q.den = 1 then [] else 47 :: TL.numL q.den)
theorem numL_le {n A : Nat} (h : n < 2 ^ A) (h0 : 0 < A) : (TL.numL n).length ≤ A := TL.numL_len h0 (Nat.lt_of_lt_of_le h (Nat.pow_le_pow_left (by omega) _))
theorem sgn_len (i : Int) : (sgn i).length ≤ 1 := by
  unfold sgn
  split <;> simp
theorem run_shown {A : Nat} {q : Rat} {μ : List O} {E : Ex → List O → Prop} (hq : Sm A q) (h0 : 0 < A) (hA : A ≤ 1900) : Wp (m_shown [fr q]) μ (fun r μ' => r = .str (T (txt q)) ∧ μ' = μ) E := by
  unfold m_shown c_shown
  have hs : sizeLine = 16777216 := sizeLine_eq
  have ix0 := @ix_fr0
  have ix1 := @ix_fr1
  have l1 : q.num.natAbs.log2 < 1920 := Nat.lt_of_lt_of_le (log2_lt hq.1 h0) (by omega)
  have l2 : q.den.log2 < 1920 := Nat.lt_of_lt_of_le (log2_lt hq.2 h0) (by omega)
  have l2' : ((q.den : Nat) : Int).natAbs.log2 < 1920 := by rw [Int.natAbs_natCast]; exact l2
  have n1 := numL_le hq.1 h0
  have n2 := numL_le hq.2 h0
  have n3 := sgn_len q.num
  by_cases hd : q.den = 1
  · have hd' : ((q.den : Nat) : Int) = 1 := by omega
    have e : txt q = sgn q.num ++ TL.numL q.num.natAbs := by unfold txt; rw [if_pos hd, List.append_nil]
    have ti := txt_int q.num
    walk_at "mi*"
  · have hd' : ¬ ((q.den : Nat) : Int) = 1 := by omega
    have e : txt q = (sgn q.num ++ TL.numL q.num.natAbs) ++ (47 :: TL.numL q.den) := by unfold txt; rw [if_neg hd]
    have ti := txt_int q.num
    have td := SX.num_S q.den
    have hb := bar_S
    have c1 : ∀ a b : List Nat, T a ++ T b = T (a ++ b) := SX.S_cat
    have c0 : Str.empty = T [] := rfl
    have lT : ∀ a : List Nat, (T a).length = a.length := SX.S_len
    walk_at "mi*"
    exact ⟨by omega, by omega, by omega⟩
theorem dv_lt : ∀ (n : Nat) (l : List Nat), l.length = n → l.all dig = true → NumText.digitsVal l < 10 ^ n
  | 0, l, h, _ => by
    have : l = [] := List.length_eq_zero_iff.mp h
    subst this
    decide
  | n + 1, l, h, ha => by
    rcases List.eq_nil_or_concat l with z | ⟨r, c, z⟩
    · subst z; simp at h
    · have z : l = r ++ [c] := by rw [z]; simp
      subst z
      rw [NumText.digitsVal_snoc]
      rw [List.all_append, Bool.and_eq_true] at ha
      have hr := dv_lt n r (by simpa using h) ha.1
      have hc : dig c = true := by simpa using ha.2
      unfold dig at hc
      simp only [Bool.and_eq_true, decide_eq_true_eq] at hc
      rw [Nat.pow_succ]
      omega
theorem numO_lt {l : List Nat} {n : Nat} (h : numO l = some n) : n < 1000000 := by
  unfold numO at h
  split at h
  · rename_i z
    cases h
    have h1 := dv_lt l.length l rfl z.2.2
    have h2 : 10 ^ l.length ≤ 10 ^ 6 := Nat.pow_le_pow_right (by omega) z.2.1
    omega
  · cases h
/-- a text read as a fraction -/
def readO (neg : Bool) (l : List Nat) : Option Nat → Option Nat → Option Rat
  | some a, some b => if b = 0 then none else
    if txt (Rat.divInt (if neg then -(a : Int) else a) b) = l then some (Rat.divInt (if neg then -(a : Int) else a) b) else none
  | _, _ => none
def fracO (l : List Nat) : Option Rat := match TL.par [47] [] l with
  | some (p, r) => readO (p.head? == some 45) l (numO (p.dropWhile (· == 45))) (numO r)
  | none => readO (l.head? == some 45) l (numO (l.dropWhile (· == 45))) (some 1)
def ofQ : Option Rat → D
  | some q => fr q
  | none => .non
theorem sw_head (l : List Nat) : Txt.startswith (T l) (T [45]) = (l.head? == some 45) := by
  cases l with
  | nil => decide
  | cons c r =>
    rw [sw_S]
    show (c == 45) = (some c == some 45)
    rfl
theorem readO_1 {neg : Bool} {l : List Nat} {a b : Nat} (h : b ≠ 0) : readO neg l (some a) (some b) = if txt (Rat.divInt (if neg then -(a : Int) else a) b) = l then some (Rat.divInt (if neg then -(a : Int) else a) b) else none := by
  show (if b = 0 then none else _) = _
  rw [if_neg h]
theorem readO_0 {neg : Bool} {l : List Nat} {a : Nat} : readO neg l (some a) (some 0) = none := rfl
theorem par_len : ∀ (l acc p r : List Nat), TL.par [47] acc l = some (p, r) → p.length + r.length ≤ acc.length + l.length
  | [], acc, p, r, h => by simp [TL.par] at h
  | c :: t, acc, p, r, h => by
    cases hp : TL.pre [47] (c :: t) with
    | true =>
      rw [TL.par_hit hp] at h
      cases h
      simp
    | false =>
      rw [TL.par_miss hp] at h
      have := par_len t (acc ++ [c]) p r h
      simp at this ⊢
      omega
theorem T_inj {a b : List Nat} : (T a = T b) ↔ a = b := ⟨SX.S_inj, fun h => by rw [h]⟩
theorem run_fraction_of {l : List Nat} {μ : List O} {E : Ex → List O → Prop} (hl : l.length ≤ 5000) : Wp (m_fraction_of [.str (T l)]) μ (fun r μ' => r = ofQ (fracO l) ∧ Gr0 μ μ') E := by
  unfold m_fraction_of c_fraction_of
  have hs : sizeLine = 16777216 := sizeLine_eq
  have lt : ∀ a : List Nat, (T a).length = a.length := SX.S_len
  have hm := minus_S
  have hb := bar_S
  have he := empty_S
  have ls := lstrip_S
  have sw := sw_head
  have lb : ((T [47]).length == 0) = false := rfl
  have nn : ¬ (T [47] = T []) := fun z => by have := SX.S_inj z; cases this
  -- what comes behind the two numbers
  have fin : ∀ (n : Int) (b : Nat) (μ1 : List O) (X : D), b ≠ 0 → n.natAbs < 2 ^ 20 → b < 2 ^ 20 → Gr0 μ μ1 → X = ofQ (if txt (Rat.divInt n b) = l then some (Rat.divInt n b) else none) →
      Wp (m_fraction [.int n, .int b]) μ1 (fun d μ' => Wp (m_shown [d]) μ' (fun d_1 μ' => Wp (eqD d_1 (.str (T l))) μ' (fun d_2 μ' => Wp (asB d_2) μ' (fun d3 μ' => (d3 = true → d = X ∧ Gr0 μ μ') ∧ (¬ d3 = true → D.non = X ∧ Gr0 μ μ')) fun x μ' => E x μ') fun x μ' => E x μ') fun x μ' => E x μ') fun x μ' => E x μ' := by
    intro n b μ1 X hb0 h1 h2 g hX
    have hd : (b : Int) ≠ 0 := by omega
    refine Wp.go (run_fraction (A := 20) hd h1 (by rw [Int.natAbs_natCast]; exact h2) (by omega)) ?_
    rintro _ _ ⟨rfl, rfl⟩
    have sm : Sm 20 (Rat.divInt n b) := Sm.of hd rfl h1 (by rw [Int.natAbs_natCast]; exact h2)
    refine Wp.go (run_shown sm (by omega) (by omega)) ?_
    rintro _ _ ⟨rfl, rfl⟩
    by_cases ht : txt (Rat.divInt n b) = l
    · rw [if_pos ht] at hX
      rw [ht, o_eqS, wp_ret, o_asB, wp_ret]
      rw [decide_eq_true rfl]
      exact ⟨fun _ => ⟨hX.symm, g⟩, fun z => (z rfl).elim⟩
    · rw [if_neg ht] at hX
      have hT : ¬ (T (txt (Rat.divInt n b)) = T l) := fun z => ht (SX.S_inj z)
      rw [o_eqS, wp_ret, o_asB, wp_ret, decide_eq_false hT]
      exact ⟨fun z => (nomatch z), fun _ => ⟨hX.symm, g⟩⟩
  have e20 : (1000000 : Nat) ≤ 2 ^ 20 := by decide
  have dl : ∀ a : List Nat, (a.dropWhile (· == 45)).length ≤ a.length := fun a => (List.dropWhile_sublist _).length_le
  cases hp : TL.par [47] [] l with
  | none =>
    have hpt : Txt.partition (T l) (T [47]) = (T l, T [], T []) := SX.partition_none (by simp) hp
    have hF : fracO l = readO (l.head? == some 45) l (numO (l.dropWhile (· == 45))) (some 1) := by unfold fracO; rw [hp]
    walk_at "mi*"
    refine ⟨⟨rfl, by omega⟩, by omega, Wp.go (run_number (Nat.le_trans (dl l) (by omega))) ?_⟩
    rintro _ μ1 ⟨rfl, g1⟩
    cases hn : numO (l.dropWhile (· == 45)) with
    | none =>
      refine ⟨fun _ => ⟨rfl, g1⟩, fun z => (z rfl).elim⟩
    | some a =>
      have ha := numO_lt hn
      refine ⟨fun z => (nomatch z), fun _ => ⟨fun z => (nomatch z), fun _ => ?_⟩⟩
      cases hh : (l.head? == some 45) with
      | true =>
        refine ⟨fun _ => ?_, fun z => (z rfl).elim⟩
        show Wp (negD (.int a)) μ1 _ _
        rw [o_neg, wp_ret]
        refine fin (-(a : Int)) 1 μ1 _ (by omega) (by rw [Int.natAbs_neg, Int.natAbs_natCast]; omega) (by omega) g1 ?_
        rw [readO_1 (by omega)]
        rfl
      | false =>
        refine ⟨fun z => (nomatch z), fun _ => ?_⟩
        refine fin (a : Int) 1 μ1 _ (by omega) (by rw [Int.natAbs_natCast]; omega) (by omega) g1 ?_
        rw [readO_1 (by omega)]
        rfl
  | some pr =>
    obtain ⟨p, r⟩ := pr
    have hpt : Txt.partition (T l) (T [47]) = (T p, T [47], T r) := SX.partition_some (by simp) hp
    have hF : fracO l = readO (p.head? == some 45) l (numO (p.dropWhile (· == 45))) (numO r) := by unfold fracO; rw [hp]
    have hlen : p.length ≤ 5000 ∧ r.length ≤ 5000 := by
      have := par_len l [] p r hp
      simp at this
      omega
    walk_at "mi*"
    refine ⟨⟨rfl, by omega⟩, by omega, Wp.go (run_number (Nat.le_trans (dl p) (by omega))) ?_⟩
    rintro _ μ1 ⟨rfl, g1⟩
    refine Wp.go (run_number (by omega)) ?_
    rintro _ μ2 ⟨rfl, g2⟩
    have g12 := g1.trans g2
    cases hn : numO (p.dropWhile (· == 45)) with
    | none => exact ⟨fun _ => ⟨rfl, g12⟩, fun z => (z rfl).elim⟩
    | some a =>
      have ha := numO_lt hn
      refine ⟨fun z => (nomatch z), fun _ => ?_⟩
      cases hm2 : numO r with
      | none => exact ⟨fun _ => ⟨rfl, g12⟩, fun z => (z rfl).elim⟩
      | some b =>
        have hb2 := numO_lt hm2
        refine ⟨fun z => (nomatch z), fun _ => ?_⟩
        show Wp (eqD (.int b) (.int 0)) μ2 _ _
        rw [o_eq, wp_ret, o_asB, wp_ret]
        by_cases hb0 : b = 0
        · subst hb0
          exact ⟨fun _ => ⟨rfl, g12⟩, fun z => (z rfl).elim⟩
        · rw [decide_eq_false (show ¬ ((b : Int) = 0) by omega)]
          refine ⟨fun z => (nomatch z), fun _ => ?_⟩
          cases hh : (p.head? == some 45) with
          | true =>
            refine ⟨fun _ => ?_, fun z => (z rfl).elim⟩
            show Wp (negD (.int a)) μ2 _ _
            rw [o_neg, wp_ret]
            refine fin (-(a : Int)) b μ2 _ hb0 (by rw [Int.natAbs_neg, Int.natAbs_natCast]; omega) (by omega) g12 ?_
            rw [readO_1 hb0]
            rfl
          | false =>
            refine ⟨fun z => (nomatch z), fun _ => ?_⟩
            refine fin (a : Int) b μ2 _ hb0 (by rw [Int.natAbs_natCast]; omega) (by omega) g12 ?_
            rw [readO_1 hb0]
            rfl
theorem dig_num (n : Nat) : (TL.numL n).all dig = true := by
  rw [List.all_eq_true]
  intro c hc
  have h := TL.numL_digits n
  have := h c hc
  unfold dig
  simp only [Bool.and_eq_true, decide_eq_true_eq]
  omega
theorem numO_num (n : Nat) : numO (TL.numL n) = if n < 1000000 then some n else none := by
  have hd := dig_num n
  have h1 : 1 ≤ (TL.numL n).length := by
    have := TL.numL_ne n
    cases h : TL.numL n with
    | nil => exact (this h).elim
    | cons a b => simp
  unfold numO
  by_cases h : n < 1000000
  · rw [if_pos ⟨h1, TL.numL_len (by omega) h, hd⟩, if_pos h, TL.numL_val]
  · rw [if_neg h, if_neg]
    rintro ⟨_, h6, _⟩
    have h2 := dv_lt _ _ rfl hd
    rw [TL.numL_val] at h2
    have h3 : 10 ^ (TL.numL n).length ≤ 10 ^ 6 := Nat.pow_le_pow_right (by omega) h6
    omega
theorem numO_bad {l : List Nat} {c : Nat} (hc : c ∈ l) (h : dig c = false) : numO l = none := by
  unfold numO
  rw [if_neg]
  rintro ⟨_, _, ha⟩
  have := List.all_eq_true.mp ha c hc
  rw [h] at this
  cases this
theorem num_head (n : Nat) : ∃ c r, TL.numL n = c :: r ∧ c ≠ 45 := by
  cases h : TL.numL n with
  | nil => exact (TL.numL_ne n h).elim
  | cons c r =>
    refine ⟨c, r, rfl, fun z => ?_⟩
    have := TL.numL_free (n := n) (s := 45) (by omega)
    rw [h, z] at this
    exact this List.mem_cons_self
theorem drop_sgn (i : Int) (n : Nat) (r : List Nat) : ((sgn i ++ TL.numL n) ++ r).dropWhile (· == 45) = TL.numL n ++ r := by
  obtain ⟨c, t, e, hc⟩ := num_head n
  have h2 : (c :: t ++ r).dropWhile (· == 45) = c :: t ++ r := by
    rw [List.cons_append, List.dropWhile_cons, if_neg (by simpa using hc)]
  unfold sgn
  split
  · rw [e, List.append_assoc, List.singleton_append, List.dropWhile_cons, if_pos (by simp)]
    exact h2
  · rw [e, List.nil_append]
    exact h2
theorem head_sgn (i : Int) (n : Nat) (r : List Nat) : (((sgn i ++ TL.numL n) ++ r).head? == some 45) = decide (i < 0) := by
  obtain ⟨c, t, e, hc⟩ := num_head n
  unfold sgn
  split
  · rename_i h
    rw [decide_eq_true h]
    rfl
  · rename_i h
    rw [decide_eq_false h, e]
    show (some c == some 45) = false
    simpa using hc
theorem sgn_num_free (i : Int) (n : Nat) : 47 ∉ sgn i ++ TL.numL n := by
  intro h
  rcases List.mem_append.mp h with h | h
  · unfold sgn at h
    split at h
    · simp at h
    · cases h
  · exact TL.numL_free (n := n) (s := 47) (by omega) h
theorem signed (q : Rat) : (if decide (q.num < 0) = true then -(q.num.natAbs : Int) else q.num.natAbs) = q.num := by
  by_cases h : q.num < 0
  · rw [decide_eq_true h, if_pos rfl]; omega
  · rw [decide_eq_false h, if_neg Bool.false_ne_true]; omega
def few (q : Rat) : Bool := decide (q.num.natAbs < 1000000) && decide (q.den < 1000000)
theorem fracO_txt (q : Rat) : fracO (txt q) = if few q = true then some q else none := by
  by_cases hd : q.den = 1
  · have e : txt q = (sgn q.num ++ TL.numL q.num.natAbs) ++ [] := by unfold txt; rw [if_pos hd]
    have hp : TL.par [47] [] (txt q) = none := by
      rw [e, List.append_nil]
      exact TL.par_none1 (sgn_num_free _ _)
    unfold fracO
    rw [hp]
    dsimp only
    have hh : ((txt q).head? == some 45) = decide (q.num < 0) := by rw [e]; exact head_sgn _ _ _
    have hw : (txt q).dropWhile (· == 45) = TL.numL q.num.natAbs := by rw [e, drop_sgn, List.append_nil]
    rw [hh, hw, numO_num]
    have hq : Rat.divInt q.num ((1 : Nat) : Int) = q := by
      have := Rat.num_divInt_den q
      rw [hd] at this
      exact this
    unfold few
    by_cases h : q.num.natAbs < 1000000
    · rw [if_pos h, readO_1 (by omega), signed, hq, if_pos rfl, if_pos (by simp [h, hd])]
    · rw [if_neg h, if_neg (by simp [h])]
      rfl
  · have e : txt q = (sgn q.num ++ TL.numL q.num.natAbs) ++ (47 :: TL.numL q.den) := by unfold txt; rw [if_neg hd]
    have hp : TL.par [47] [] (txt q) = some (sgn q.num ++ TL.numL q.num.natAbs, TL.numL q.den) := by
      rw [e]
      exact SX.par_head (c := 47) (sep := []) _ (sgn_num_free _ _)
    unfold fracO
    rw [hp]
    dsimp only
    have hh : ((sgn q.num ++ TL.numL q.num.natAbs).head? == some 45) = decide (q.num < 0) := by
      have := head_sgn q.num q.num.natAbs []
      rwa [List.append_nil] at this
    have hw : (sgn q.num ++ TL.numL q.num.natAbs).dropWhile (· == 45) = TL.numL q.num.natAbs := by
      have := drop_sgn q.num q.num.natAbs []
      rwa [List.append_nil, List.append_nil] at this
    rw [hh, hw, numO_num, numO_num]
    unfold few
    by_cases h : q.num.natAbs < 1000000
    · by_cases h2 : q.den < 1000000
      · rw [if_pos h, if_pos h2, readO_1 q.den_nz, signed, Rat.num_divInt_den, if_pos rfl, if_pos (by simp [h, h2])]
      · rw [if_pos h, if_neg h2, if_neg (by simp [h2])]
        rfl
    · have hf : (decide (q.num.natAbs < 1000000) && decide (q.den < 1000000)) = false := by simp [h]
      rw [hf, if_neg h, if_neg Bool.false_ne_true]
      rfl
theorem fracO_blank (q : Rat) : fracO (txt q ++ [32]) = none := by
  by_cases hd : q.den = 1
  · have e : txt q ++ [32] = (sgn q.num ++ TL.numL q.num.natAbs) ++ [32] := by unfold txt; rw [if_pos hd, List.append_nil]
    have hp : TL.par [47] [] (txt q ++ [32]) = none := by
      rw [e]
      refine TL.par_none1 fun h => ?_
      rcases List.mem_append.mp h with h | h
      · exact sgn_num_free _ _ h
      · simp at h
    unfold fracO
    rw [hp]
    dsimp only
    have hw : (txt q ++ [32]).dropWhile (· == 45) = TL.numL q.num.natAbs ++ [32] := by rw [e, drop_sgn]
    rw [hw, numO_bad (c := 32) (by simp) rfl]
    rfl
  · have e : txt q ++ [32] = (sgn q.num ++ TL.numL q.num.natAbs) ++ (47 :: (TL.numL q.den ++ [32])) := by unfold txt; rw [if_neg hd]; simp
    have hp : TL.par [47] [] (txt q ++ [32]) = some (sgn q.num ++ TL.numL q.num.natAbs, TL.numL q.den ++ [32]) := by
      rw [e]
      exact SX.par_head (c := 47) (sep := []) _ (sgn_num_free _ _)
    unfold fracO
    rw [hp]
    dsimp only
    rw [numO_bad (l := TL.numL q.den ++ [32]) (c := 32) (by simp) rfl]
    cases numO ((sgn q.num ++ TL.numL q.num.natAbs).dropWhile (· == 45)) <;> rfl
theorem sgn_inj {i j : Int} (h : sgn i ++ TL.numL i.natAbs = sgn j ++ TL.numL j.natAbs) : i = j := by
  have h1 := head_sgn i i.natAbs []
  have h2 := head_sgn j j.natAbs []
  have d1 := drop_sgn i i.natAbs []
  have d2 := drop_sgn j j.natAbs []
  rw [List.append_nil] at h1 h2 d1 d2
  rw [h] at h1 d1
  rw [h2] at h1
  rw [d2, List.append_nil, List.append_nil] at d1
  have e := TL.numL_inj d1
  by_cases hi : i < 0
  · rw [decide_eq_true hi] at h1
    have := of_decide_eq_true h1
    omega
  · rw [decide_eq_false hi] at h1
    have := of_decide_eq_false h1
    omega
theorem txt_par (q : Rat) : (q.den = 1 ∧ TL.par [47] [] (txt q) = none ∧ txt q = sgn q.num ++ TL.numL q.num.natAbs) ∨ (q.den ≠ 1 ∧ TL.par [47] [] (txt q) = some (sgn q.num ++ TL.numL q.num.natAbs, TL.numL q.den)) := by
  by_cases hd : q.den = 1
  · have e : txt q = sgn q.num ++ TL.numL q.num.natAbs := by unfold txt; rw [if_pos hd, List.append_nil]
    exact .inl ⟨hd, by rw [e]; exact TL.par_none1 (sgn_num_free _ _), e⟩
  · have e : txt q = (sgn q.num ++ TL.numL q.num.natAbs) ++ (47 :: TL.numL q.den) := by unfold txt; rw [if_neg hd]
    exact .inr ⟨hd, by rw [e]; exact SX.par_head (c := 47) (sep := []) _ (sgn_num_free _ _)⟩
theorem txt_inj {p q : Rat} (h : txt p = txt q) : p = q := by
  rcases txt_par p with ⟨a1, a2, a3⟩ | ⟨a1, a2⟩ <;> rcases txt_par q with ⟨b1, b2, b3⟩ | ⟨b1, b2⟩
  · rw [a3, b3] at h
    exact Rat.ext (sgn_inj h) (by omega)
  · rw [h, b2] at a2
    cases a2
  · rw [h, b2] at a2
    cases a2
  · rw [h, b2] at a2
    simp only [Option.some.injEq, Prod.mk.injEq] at a2
    exact Rat.ext (sgn_inj a2.1.symm) (TL.numL_inj a2.2.symm)
theorem nev_fr (p q : Rat) : neD (fr p) (fr q) = M.ret (.bl (!decide (p = q))) := by
  funext μ
  have h1 : see μ 65 (fr p) = some (.tuple [.int p.num, .int p.den]) := rfl
  have h2 : see μ 65 (fr q) = some (.tuple [.int q.num, .int q.den]) := rfl
  show eqvD true (fr p) (fr q) μ = _
  have e := congrFun (eqv_fr p q) μ
  have e0 : eqvD false (fr p) (fr q) μ = some (.ok (.bl (decide (p = q))), μ) := e
  unfold eqvD at e0 ⊢
  rw [h1, h2] at e0 ⊢
  have s1 : ∀ a b : Int, SeqAt.shaped (.tuple [.int a, .int b]) = true := fun a b => rfl
  simp only [s1, and_self, if_true, Bool.false_eq_true, if_false, Option.some.injEq, Prod.mk.injEq, Except.ok.injEq, D.bl.injEq, and_true] at e0 ⊢
  rw [e0]
  rfl
theorem eq_ofQ (o : Option Rat) (q : Rat) : eqD (ofQ o) (fr q) = M.ret (.bl (decide (o = some q))) := by
  cases o with
  | some p =>
    show eqD (fr p) (fr q) = _
    rw [eqv_fr]
    congr 2
    simp
  | none =>
    funext μ
    have h2 : see μ 65 (fr q) = some (.tuple [.int q.num, .int q.den]) := rfl
    have h1 : see μ 65 .non = some .none := rfl
    show eqvD false .non (fr q) μ = _
    unfold eqvD
    rw [h1, h2]
    have s1 : ∀ a b : Int, SeqAt.shaped (.tuple [.int a, .int b]) = true := fun a b => rfl
    have s2 : SeqAt.shaped .none = true := rfl
    simp only [s1, s2, and_self, if_true, Bool.false_eq_true, if_false]
    have e : PyData.eqv .none (.tuple [.int q.num, .int q.den]) = false := by simp [PyData.eqv]
    rw [e]
    rfl
end Std
/-! S4: what may raise: fractions, polynomials parted, ratios. -/
namespace Sp
open PySem L2 PyProof.Rows Mi
open Std hiding c_over m_over c_fraction m_fraction run_over run_fraction
local macro_rules | `(tactic| walk_at "mi") => `(tactic| simp only [wp_mir, ws_cons, ws_nil, nx_nx, nx_rt, nx_bk, nx_ct, nx_er, fn_nx, fn_rt, fn_er, ws_asgN, ws_asgT, gs_cons, gs_nil, ex_tup, ex_pr, ws_asgS, ws_of, ws_some, wp_bnd, wp_ret, wp_new, ws_ite, wp_iteB, wp_stop,
  r_var, r_int, r_bl, r_str, r_non, r_glo, r_nil, r_cons, r_tup, r_lst, r_bin, r_cmp, r_tcmp, r_tval, r_tnot, r_and1, r_or1, r_and, r_or, r_if, r_vone, r_vand, r_vor, r_not, r_neg, r_chain, r_tchain,
  r_ix, r_slice, r_ono, r_oyes, r_B, r_call, r_call0, r_isi, s_expr, s_ret, s_if, s_par, s_while, s_for, s_brk, s_cont, s_pass, s_retN, i_T, i_L, i_A, i_En, i_Zp, i_Zp3, r_step, o_stepM, o_stepD, r_rev, r_J, j_nil, j_lit, j_fmt, s_par3, o_isBt, o_isBn, o_fmtI, o_fmtS, o_put, o_sw, o_ls, o_part, r_callK, r_kNil, r_kCons, r_m0, r_m, f_nil, f_one, s_asg2, s_setLc, r_lc, s_setLc2, r_lc2, o_revT, o_revL, o_max, o_min, o_all, o_any, o_aT, o_aF, o_aL, o_aS, o_enT, o_enL, o_zipT, o_zipL, fuelE, fuelZ, fuelS, o_mulL, o_mulS, o_isTL, o_isTS, q_nil, q_cons, r_dict, r_dict0, kd_nil, kd_S, Option.map_some, wp_dctE, ex_dct, ix_refS, setL_S, o_isTD, wp_dget1, wp_dget2, wp_popA0, wp_app, wp_pop, i_R1, i_R2,
  List.map_cons, List.map_nil, List.replicate_succ, List.replicate_zero, List.nil_append, List.cons_append, List.length_cons, List.length_nil, Nat.reduceAdd, Nat.add_assoc, Nat.zero_add, Nat.add_zero, Nat.reduceSub, true_and, getV, List.getElem?_cons_zero, List.getElem?_cons_succ, List.set_cons_zero, List.set_cons_succ,
  o_add, o_addS, o_addT, o_addL, o_sub, o_mul, o_fdiv, o_mod, o_pow, o_neg, o_lt, o_le, o_gt, o_ge, o_eq, o_eqS, o_eqB, o_ne, o_neS, o_neB, o_is, o_isn, o_asB, o_asI, o_lenT, o_lenF, o_lenL, o_abs', o_int, o_intB, o_str, o_slT, o_slF, o_slL, o_listT, o_listF, o_listL, o_tupT, o_tupL, o_newL, o_seqF, o_seqL, o_tupW, o_rng1, o_rng2, fuelOf, fuelL, fuelR, wp_isi, tyN_int, tyN_bl, tyN_str, tyN_non, tyN_tup, tyN_fro, iS_NoneType, iS_bool, iS_int, iS_str, iS_tuple, iS_list, iS_dict, List.length_append, List.length_map, List.length_set,
  wp_lstE, setL_E, ex_lst, ex_n, at_off, at_off0, wp_withNew, o_keyI, o_keyS, wp_setE, set_off, set_off0, r_dict1, trn_nx, trn_ct, trn_bk, trn_rt, trn_er, List.append_assoc, List.getElem?_append_left, List.set_set, List.getElem?_set_self, wp_need, ix_ref, Mi.ix_tup, ix_fro, atD_0, atD_1, atD_2, decide_eq_true_eq, Bool.false_eq_true, false_implies, not_false_eq_true, true_implies, not_true_eq_false, Bool.true_eq_false, and_true, if_true, if_false, Int.cast_ofNat_Int, Int.reduceEq, Int.reduceLT, Int.reduceLE, decide_true, decide_false, Bool.not_true, Bool.not_false, reduceIte, eq_self, Nat.reduceLeDiff])
local macro_rules | `(tactic| walk_at "mi*") => `(tactic| simp only [wp_mir, ws_cons, ws_nil, nx_nx, nx_rt, nx_bk, nx_ct, nx_er, fn_nx, fn_rt, fn_er, ws_asgN, ws_asgT, gs_cons, gs_nil, ex_tup, ex_pr, ws_asgS, ws_of, ws_some, wp_bnd, wp_ret, wp_new, ws_ite, wp_iteB, wp_stop,
  r_var, r_int, r_bl, r_str, r_non, r_glo, r_nil, r_cons, r_tup, r_lst, r_bin, r_cmp, r_tcmp, r_tval, r_tnot, r_and1, r_or1, r_and, r_or, r_if, r_vone, r_vand, r_vor, r_not, r_neg, r_chain, r_tchain,
  r_ix, r_slice, r_ono, r_oyes, r_B, r_call, r_call0, r_isi, s_expr, s_ret, s_if, s_par, s_while, s_for, s_brk, s_cont, s_pass, s_retN, i_T, i_L, i_A, i_En, i_Zp, i_Zp3, r_step, o_stepM, o_stepD, r_rev, r_J, j_nil, j_lit, j_fmt, s_par3, o_isBt, o_isBn, o_fmtI, o_fmtS, o_put, o_sw, o_ls, o_part, r_callK, r_kNil, r_kCons, r_m0, r_m, f_nil, f_one, s_asg2, s_setLc, r_lc, s_setLc2, r_lc2, o_revT, o_revL, o_max, o_min, o_all, o_any, o_aT, o_aF, o_aL, o_aS, o_enT, o_enL, o_zipT, o_zipL, fuelE, fuelZ, fuelS, o_mulL, o_mulS, o_isTL, o_isTS, q_nil, q_cons, r_dict, r_dict0, kd_nil, kd_S, Option.map_some, wp_dctE, ex_dct, ix_refS, setL_S, o_isTD, wp_dget1, wp_dget2, wp_popA0, wp_app, wp_pop, i_R1, i_R2,
  List.map_cons, List.map_nil, List.replicate_succ, List.replicate_zero, List.nil_append, List.cons_append, List.length_cons, List.length_nil, Nat.reduceAdd, Nat.add_assoc, Nat.zero_add, Nat.add_zero, Nat.reduceSub, true_and, getV, List.getElem?_cons_zero, List.getElem?_cons_succ, List.set_cons_zero, List.set_cons_succ,
  o_add, o_addS, o_addT, o_addL, o_sub, o_mul, o_fdiv, o_mod, o_pow, o_neg, o_lt, o_le, o_gt, o_ge, o_eq, o_eqS, o_eqB, o_ne, o_neS, o_neB, o_is, o_isn, o_asB, o_asI, o_lenT, o_lenF, o_lenL, o_abs', o_int, o_intB, o_str, o_slT, o_slF, o_slL, o_listT, o_listF, o_listL, o_tupT, o_tupL, o_newL, o_seqF, o_seqL, o_tupW, o_rng1, o_rng2, fuelOf, fuelL, fuelR, wp_isi, tyN_int, tyN_bl, tyN_str, tyN_non, tyN_tup, tyN_fro, iS_NoneType, iS_bool, iS_int, iS_str, iS_tuple, iS_list, iS_dict, List.length_append, List.length_map, List.length_set,
  wp_lstE, setL_E, ex_lst, ex_n, at_off, at_off0, wp_withNew, o_keyI, o_keyS, wp_setE, set_off, set_off0, r_dict1, trn_nx, trn_ct, trn_bk, trn_rt, trn_er, List.append_assoc, List.getElem?_append_left, List.set_set, List.getElem?_set_self, wp_need, ix_ref, Mi.ix_tup, ix_fro, atD_0, atD_1, atD_2, decide_eq_true_eq, Bool.false_eq_true, false_implies, not_false_eq_true, true_implies, not_true_eq_false, Bool.true_eq_false, and_true, if_true, if_false, Int.cast_ofNat_Int, Int.reduceEq, Int.reduceLT, Int.reduceLE, decide_true, decide_false, Bool.not_true, Bool.not_false, reduceIte, eq_self, Nat.reduceLeDiff, *])
def c_fraction : CB := (bCons (sIf (tCmpC .Eq eqD (cVar 1) (cInt 0)) (bCons (sRaise "NoPart")
  bNil) bNil)
  (bCons (sAsg (gN 2) (cCall "shared_by" m_shared_by (aCons (cB "abs" absD (aCons (cVar 0) aNil)) (aCons (cB "abs" absD (aCons (cVar 1) aNil)) aNil))))
  (bCons (sIf (tCmpC .Lt ltD (cVar 1) (cInt 0)) (bCons (sPar 0 1 (cNeg (cVar 0)) (cNeg (cVar 1)))
  bNil) bNil)
  (bCons (sRet (cTup (aCons (cBin .FloorDiv fdivD (cVar 0) (cVar 2)) (aCons (cBin .FloorDiv fdivD (cVar 1) (cVar 2)) aNil))))
  bNil))))
def m_fraction : List D → M D := mir 3 2 c_fraction.run
def c_over : CB := (bCons (sIf (tCmpC .Eq eqD (cIx (cVar 1) (cInt 0)) (cInt 0)) (bCons (sRaise "NoPart")
  bNil) bNil)
  (bCons (sRet (cCall "times" m_times (aCons (cVar 0) (aCons (cIf (tCmpC .Gt gtD (cIx (cVar 1) (cInt 0)) (cInt 0)) (cTup (aCons (cIx (cVar 1) (cInt 1)) (aCons (cIx (cVar 1) (cInt 0)) aNil))) (cTup (aCons (cNeg (cIx (cVar 1) (cInt 1))) (aCons (cNeg (cIx (cVar 1) (cInt 0))) aNil)))) aNil))))
  bNil))
def m_over : List D → M D := mir 2 2 c_over.run
def c_poly_parted : CB := (bCons (sIf (tCmpC .Eq eqD (cVar 1) (cTup aNil)) (bCons (sRaise "NoPart")
  bNil) bNil)
  (bCons (sPar 2 3 (cB "list" listD (aCons (cVar 0) aNil)) (cLst aNil))
  (bCons (sWhile (fun _ => 100000) (tCmpC .GtE geD (cB "len" lenD (aCons (cVar 2) aNil)) (cB "len" lenD (aCons (cVar 1) aNil))) (bCons (sAsg (gN 4) (cCall "over" m_over (aCons (cIx (cVar 2) (cNeg (cInt 1))) (aCons (cIx (cVar 1) (cNeg (cInt 1))) aNil))))
  (bCons (sAsg (gN 5) (cBin .Sub subD (cB "len" lenD (aCons (cVar 2) aNil)) (cB "len" lenD (aCons (cVar 1) aNil))))
  (bCons (sFor (gT (gsCons (gN 6) (gsCons (gN 7) gsNil)) 2) (iEn (cVar 1)) (bCons (sAsg (gS (cVar 2) (cBin .Add addD (cVar 5) (cVar 6))) (cCall "minus" m_minus (aCons (cIx (cVar 2) (cBin .Add addD (cVar 5) (cVar 6))) (aCons (cCall "times" m_times (aCons (cVar 4) (aCons (cVar 7) aNil))) aNil))))
  bNil))
  (bCons (sExpr (cM0 "list" "pop" popD (cVar 2)))
  (bCons (sExpr (cM "list" "append" appD (cVar 3) (aCons (cVar 4) aNil)))
  bNil))))))
  (bCons (sRet (cTup (aCons (cCall "trimmed" m_trimmed (aCons (cRev (cVar 3)) aNil)) (aCons (cCall "trimmed" m_trimmed (aCons (cVar 2) aNil)) aNil))))
  bNil))))
def m_poly_parted : List D → M D := mir 8 2 c_poly_parted.run
def k_ONE : D := (.tup [(.int 1), (.int 1)])
def c_poly_common : CB := (bCons (sWhile (fun _ => 100000) (tCmpC .NotEq neD (cVar 1) (cTup aNil)) (bCons (sPar 0 1 (cVar 1) (cIx (cCall "poly_parted" m_poly_parted (aCons (cVar 0) (aCons (cVar 1) aNil))) (cInt 1)))
  bNil))
  (bCons (sRet (cIf (tCmpC .NotEq neD (cVar 0) (cTup aNil)) (cCall "poly_by" m_poly_by (aCons (cVar 0) (aCons (cCall "over" m_over (aCons (cGlo "ONE" k_ONE) (aCons (cIx (cVar 0) (cNeg (cInt 1))) aNil))) aNil))) (cTup aNil)))
  bNil))
def m_poly_common : List D → M D := mir 2 2 c_poly_common.run
def c_ratio : CB := (bCons (sIf (tCmpC .Eq eqD (cVar 1) (cTup aNil)) (bCons (sRaise "NoPart")
  bNil) bNil)
  (bCons (sAsg (gN 2) (cCall "poly_common" m_poly_common (aCons (cVar 0) (aCons (cVar 1) aNil))))
  (bCons (sPar 4 5 (cIx (cCall "poly_parted" m_poly_parted (aCons (cVar 0) (aCons (cVar 2) aNil))) (cInt 0)) (cIx (cCall "poly_parted" m_poly_parted (aCons (cVar 1) (aCons (cVar 2) aNil))) (cInt 0)))
  (bCons (sAsg (gN 3) (cCall "over" m_over (aCons (cGlo "ONE" k_ONE) (aCons (cIx (cVar 5) (cNeg (cInt 1))) aNil))))
  (bCons (sRet (cTup (aCons (cCall "poly_by" m_poly_by (aCons (cVar 4) (aCons (cVar 3) aNil))) (aCons (cCall "poly_by" m_poly_by (aCons (cVar 5) (aCons (cVar 3) aNil))) aNil))))
  bNil)))))
def m_ratio : List D → M D := mir 6 2 c_ratio.run
def c_ratio_at : CB := (bCons (sAsg (gT (gsCons (gN 3) (gsCons (gN 4) gsNil)) 2) (cVar 0))
  (bCons (sAsg (gN 2) (cCall "poly_at" m_poly_at (aCons (cVar 4) (aCons (cVar 1) aNil))))
  (bCons (sRet (cIf (tCmpC .Eq eqD (cVar 2) (cGlo "NOUGHT" k_NOUGHT)) cNon (cCall "over" m_over (aCons (cCall "poly_at" m_poly_at (aCons (cVar 3) (aCons (cVar 1) aNil))) (aCons (cVar 2) aNil)))))
  bNil)))
def m_ratio_at : List D → M D := mir 5 2 c_ratio_at.run
/-! ### parted by nought, or not -/
theorem run_fr0 {n : Int} {μ : List O} {P : D → List O → Prop} {E : Ex → List O → Prop} (q : E ⟨"NoPart", none⟩ μ) : Wp (m_fraction [.int n, .int 0]) μ P E := by
  unfold m_fraction c_fraction
  walk_at "mi"
  rw [s_raise]
  walk_at "mi"
  exact q
theorem run_ov0 {p : Rat} {μ : List O} {P : D → List O → Prop} {E : Ex → List O → Prop} (q : E ⟨"NoPart", none⟩ μ) : Wp (m_over [fr p, fr 0]) μ P E := by
  unfold m_over c_over fr
  walk_at "mi"
  refine ⟨fun _ => ?_, fun z => absurd rfl z⟩
  rw [s_raise]
  walk_at "mi"
  exact q
theorem run_ov {A : Nat} {p q : Rat} {μ : List O} {E : Ex → List O → Prop} (hp : Sm A p) (hq : Sm A q) (h0 : 0 < A) (hA : A ≤ 400000) (hne : q ≠ 0) : Wp (m_over [fr p, fr q]) μ (fun r μ' => r = fr (p / q) ∧ μ' = μ) E := by
  unfold m_over c_over
  have hs : sizeLine = 16777216 := sizeLine_eq
  have ix0 := @ix_fr0
  have ix1 := @ix_fr1
  have hn : ¬ q.num = 0 := fun z => hne (num0.mp z)
  have fin : Wp (m_times [fr p, fr (q⁻¹)]) μ (fun r μ' => r = fr (p / q) ∧ μ' = μ) E := by
    refine (run_times hp (hq.inv hne) h0 hA).mono ?_ fun _ _ z => z
    rintro _ _ ⟨rfl, rfl⟩
    exact ⟨by rw [Rat.div_def], rfl⟩
  by_cases hz : 0 < q.num
  · obtain ⟨e1, e2⟩ := inv_pos hz
    have e : D.tup [.int q.den, .int q.num] = fr (q⁻¹) := by
      unfold fr
      rw [e1, e2]
      have : ((q.num.natAbs : Nat) : Int) = q.num := by omega
      rw [this]
    walk_at "mi*"
  · have hz2 : q.num < 0 := by omega
    obtain ⟨e1, e2⟩ := inv_neg hz2
    have e : D.tup [.int (-q.den), .int (-q.num)] = fr (q⁻¹) := by
      unfold fr
      rw [e1, e2]
      have : ((q.num.natAbs : Nat) : Int) = -q.num := by omega
      rw [this]
    walk_at "mi*"
theorem run_frac {A : Nat} {n d : Int} {μ : List O} {E : Ex → List O → Prop} (hd : d ≠ 0) (h1 : n.natAbs < 2 ^ A) (h2 : d.natAbs < 2 ^ A) (hA : A ≤ 400000) : Wp (m_fraction [.int n, .int d]) μ (fun r μ' => r = fr (Rat.divInt n d) ∧ μ' = μ) E := by
  unfold m_fraction c_fraction
  have hs : sizeLine = 16777216 := sizeLine_eq
  walk_at "mi*"
  refine Wp.go (run_shared _ _ _ _) ?_
  rintro _ _ ⟨rfl, rfl⟩
  have hg : 0 < Nat.gcd n.natAbs d.natAbs := Nat.gcd_pos_of_pos_right _ (by omega)
  have kd := divOk_n (d := Nat.gcd n.natAbs d.natAbs) (Nat.lt_of_le_of_lt (Nat.le_of_dvd (by omega) (Nat.gcd_dvd_right _ _)) h2) hg hA
  by_cases hn : d < 0
  · walk_at "mi*"
    have hm := made_of (t := n) (low := d) (s := -1) hd (by omega) (.inr rfl)
    rw [Int.neg_one_mul, Int.neg_one_mul] at hm
    exact made_fr hd hm
  · walk_at "mi*"
    have hm := made_of (t := n) (low := d) (s := 1) hd (by omega) (.inl rfl)
    rw [Int.one_mul, Int.one_mul] at hm
    exact made_fr hd hm
/-! ### polynomials parted -/
/-- the share of a step -/
def shr (b rest : List Rat) : Rat := rest.getLastD 0 / b.getLastD 0
/-- i numbers of b, so many times as great, taken off behind place g -/
def subI (sh : Rat) (b : List Rat) (g : Nat) (rest : List Rat) : Nat → List Rat
  | 0 => rest
  | i + 1 => (subI sh b g rest i).set (g + i) ((subI sh b g rest i).getD (g + i) 0 - sh * b.getD i 0)
/-- one step: the last one made to nought by b's last, and dropped -/
def stp (b rest : List Rat) : List Rat := (subI (shr b rest) b (rest.length - b.length) rest b.length).dropLast
/-- what is left behind k steps -/
def stps (b a : List Rat) : Nat → List Rat
  | 0 => a
  | k + 1 => stp b (stps b a k)
/-- the shares of k steps, in order -/
def ofts (b a : List Rat) (k : Nat) : List Rat := (List.range k).map fun i => shr b (stps b a i)
theorem subI_len {sh : Rat} {b rest : List Rat} {g : Nat} : ∀ i, (subI sh b g rest i).length = rest.length
  | 0 => rfl
  | i + 1 => by unfold subI; rw [List.length_set, subI_len i]
theorem subI_hi {sh : Rat} {b rest : List Rat} {g : Nat} : ∀ i k, g + i ≤ k → (subI sh b g rest i).getD k 0 = rest.getD k 0
  | 0, _, _ => rfl
  | i + 1, k, h => by unfold subI; rw [gd_set, if_neg (by omega)]; exact subI_hi i k (by omega)
theorem stp_len {b rest : List Rat} : (stp b rest).length = rest.length - 1 := by unfold stp; rw [List.length_dropLast, subI_len]
theorem stps_len {b a : List Rat} : ∀ k, (stps b a k).length = a.length - k
  | 0 => rfl
  | k + 1 => by unfold stps; rw [stp_len, stps_len k]; omega
theorem frs_dropLast {ps : List Rat} : (frs ps).dropLast = frs ps.dropLast := by unfold Std.frs; rw [List.map_dropLast]
theorem atD_lst {ps : List Rat} (h : ps ≠ []) : atD (frs ps) (-1) = M.ret (fr (ps.getLastD 0)) := by
  rcases snoc_or ps with rfl | ⟨rs, q, rfl⟩
  · exact absurd rfl h
  · rw [frs_snoc, atD_last]
    simp
theorem sub_loop {A R : Nat} {sh : Rat} {b rest : List Rat} {g : Nat} {x0 x3 x6 x7 : Option D} {S : SR → List O → Prop} {μ : List O} (hb : SmL A b) (hr : SmL A rest) (hs : Sm A sh) (h0 : 0 < A) (hA : A ≤ 190000) (hg : g + b.length = rest.length)
    (hR : μ[R]? = some (.lst (frs rest)))
    (k : ∀ μ' x6 x7, Gr R μ μ' → μ'[R]? = some (.lst (frs (subI sh b g rest b.length))) → S (.nx [x0, some (.tup (frs b)), some (.ref R), x3, some (fr sh), some (.int g), x6, x7]) μ') :
    Ws (forRun (wkE (wkOf (frs b))) (gT (gsCons (gN 6) (gsCons (gN 7) gsNil)) 2) (bCons (sAsg (gS (cVar 2) (cBin .Add addD (cVar 5) (cVar 6))) (cCall "minus" m_minus (aCons (cIx (cVar 2) (cBin .Add addD (cVar 5) (cVar 6))) (aCons (cCall "times" m_times (aCons (cVar 4) (aCons (cVar 7) aNil))) aNil)))) bNil) b.length 0
      [x0, some (.tup (frs b)), some (.ref R), x3, some (fr sh), some (.int g), x6, x7]) μ S := by
  have hlb := @frs_len b
  refine ws_forW b.length (fun i => .tup [.int i, fr (b.getD i 0)]) (fun i μ h => enT_get h) (fun μ => enT_end) (Nat.le_refl _)
    (fun i ρ μ' => Gr R μ μ' ∧ μ'[R]? = some (.lst (frs (subI sh b g rest i))) ∧ ∃ x6 x7, ρ = [x0, some (.tup (frs b)), some (.ref R), x3, some (fr sh), some (.int g), x6, x7]) ?_ ?_ ?_
  · exact ⟨Gr.refl _ _, hR, _, _, rfl⟩
  · rintro i ρ μ2 hi ⟨g2, h2, x6, x7, rfl⟩
    refine ⟨_, _, rfl, ?_⟩
    have hlen : g + i < (subI sh b g rest i).length := by
      rw [subI_len]
      omega
    have e0 : (subI sh b g rest i).getD (g + i) 0 = rest.getD (g + i) 0 := subI_hi i _ (Nat.le_refl _)
    have e1 : atD (frs (subI sh b g rest i)) ((g : Int) + i) = M.ret (fr (rest.getD (g + i) 0)) := by
      rw [show (g : Int) + i = ((g + i : Nat) : Int) by omega, ← e0]
      exact atD_nat (frs_get hlen)
    have e2 : ixN (subI sh b g rest i).length ((g : Int) + i) = some (g + i) := by
      rw [show (g : Int) + i = ((g + i : Nat) : Int) by omega]
      exact ixN_nat hlen
    have e3 := @frs_len (subI sh b g rest i)
    walk_at "mi*"
    refine Wp.go (run_times (A := 2 * A) (hs.up (by omega)) ((hb.get h0).up (by omega)) (by omega) (by omega)) ?_
    rintro _ _ ⟨rfl, rfl⟩
    try walk_at "mi*"
    refine Wp.go (run_minus (A := 2 * A) ((hr.get h0).up (by omega)) ((hs.mul (hb.get h0)).up (by omega)) (by omega) (by omega)) ?_
    rintro _ _ ⟨rfl, rfl⟩
    try walk_at "mi*"
    refine ⟨g2.trans (Gr.set _ _ _), ?_, _, _, rfl⟩
    rw [at_set h2, frs_set]
    show _ = some (O.lst (frs ((subI sh b g rest i).set (g + i) ((subI sh b g rest i).getD (g + i) 0 - sh * b.getD i 0))))
    rw [e0]
  · rintro ρ μ2 ⟨g2, h2, x6, x7, rfl⟩
    exact k _ _ _ g2 h2
/-- a tuple of fractions against () -/
theorem see_tfrs {ps : List Rat} {μ : List O} : see μ 65 (.tup (frs ps)) = some (.tuple (ps.map pF)) := by
  show (seeL (see μ 64) (frs ps)).map PyData.tuple = _
  rw [see_frs]
  rfl
theorem shaped_t {ps : List Rat} : SeqAt.shaped (.tuple (ps.map pF)) = true := by
  have h1 := lay_frs ps
  have h2 := dep_frs ps
  unfold SeqAt.shaped
  have e : PyData.depth (.tuple (ps.map pF)) = PyData.depthAll (ps.map pF) + 1 := by simp [PyData.depth]
  have e2 : PyData.canLay0 (.tuple (ps.map pF)) = PyData.canLayAll0 (ps.map pF) := by simp [PyData.canLay0]
  rw [e, e2, h1]
  simp
  omega
theorem eqv_nil {ps : List Rat} {neg : Bool} {μ : List O} : eqvD neg (.tup (frs ps)) (.tup []) μ = some (.ok (.bl (if neg then !decide (ps = []) else decide (ps = []))), μ) := by
  unfold eqvD
  have s2 : SeqAt.shaped (.tuple []) = true := shaped_t (ps := [])
  rw [see_tfrs, show see μ 65 (.tup []) = some (.tuple []) from rfl]
  simp only [shaped_t, s2, and_self, if_true]
  cases neg <;> cases ps <;> simp [PyData.eqv, PyData.eqvAll]
theorem eq_nil (ps : List Rat) : eqD (.tup (frs ps)) (.tup []) = M.ret (.bl (decide (ps = []))) := by
  funext μ
  exact eqv_nil (neg := false)
theorem ne_nil (ps : List Rat) : neD (.tup (frs ps)) (.tup []) = M.ret (.bl (!decide (ps = []))) := by
  funext μ
  exact eqv_nil (neg := true)
theorem run_parted0 {a : List Rat} {μ : List O} {P : D → List O → Prop} {E : Ex → List O → Prop} (q : E ⟨"NoPart", none⟩ μ) : Wp (m_poly_parted [.tup (frs a), .tup []]) μ P E := by
  unfold m_poly_parted c_poly_parted
  have e := eq_nil []
  have e' : eqD (.tup []) (.tup []) = M.ret (.bl true) := e
  walk_at "mi*"
  rw [s_raise]
  walk_at "mi"
  exact ⟨Nat.zero_le _, q⟩
theorem ofts_succ {b a : List Rat} {k : Nat} : ofts b a (k + 1) = ofts b a k ++ [shr b (stps b a k)] := by
  unfold ofts
  rw [List.range_succ, List.map_append]
  rfl
theorem ofts_len {b a : List Rat} {k : Nat} : (ofts b a k).length = k := by simp [ofts]
abbrev cPW : CS := sWhile (fun _ => 100000) (tCmpC .GtE geD (cB "len" lenD (aCons (cVar 2) aNil)) (cB "len" lenD (aCons (cVar 1) aNil))) (bCons (sAsg (gN 4) (cCall "over" m_over (aCons (cIx (cVar 2) (cNeg (cInt 1))) (aCons (cIx (cVar 1) (cNeg (cInt 1))) aNil))))
  (bCons (sAsg (gN 5) (cBin .Sub subD (cB "len" lenD (aCons (cVar 2) aNil)) (cB "len" lenD (aCons (cVar 1) aNil))))
  (bCons (sFor (gT (gsCons (gN 6) (gsCons (gN 7) gsNil)) 2) (iEn (cVar 1)) (bCons (sAsg (gS (cVar 2) (cBin .Add addD (cVar 5) (cVar 6))) (cCall "minus" m_minus (aCons (cIx (cVar 2) (cBin .Add addD (cVar 5) (cVar 6))) (aCons (cCall "times" m_times (aCons (cVar 4) (aCons (cVar 7) aNil))) aNil))))
  bNil))
  (bCons (sExpr (cM0 "list" "pop" popD (cVar 2)))
  (bCons (sExpr (cM "list" "append" appD (cVar 3) (aCons (cVar 4) aNil)))
  bNil)))))
theorem sm_last {A : Nat} {ps : List Rat} (h : SmL A ps) (h0 : 0 < A) : Sm A (ps.getLastD 0) := by
  rcases snoc_or ps with rfl | ⟨rs, q, rfl⟩
  · exact sm0 h0
  · have : (rs ++ [q]).getLastD 0 = q := by simp
    rw [this]
    exact h q (by simp)
theorem part_loop {A : Nat} {a b : List Rat} {R O' : Nat} {μ : List O} {S : SR → List O → Prop} (hb : SmL A b) (hb0 : b ≠ []) (hl : b.getLastD 0 ≠ 0) (hz : ∀ k, k + b.length ≤ a.length + 1 → SmL A (stps b a k)) (hw : ∀ k, k + b.length ≤ a.length → Sm A (shr b (stps b a k))) (h0 : 0 < A) (hA : A ≤ 190000) (la : a.length ≤ 1000) (hRO : R ≠ O')
    (fin : ∀ μ2 y4 y5 y6 y7, (∀ i o, i ≠ R → i ≠ O' → μ[i]? = some o → μ2[i]? = some o) → μ.length ≤ μ2.length → μ2[R]? = some (.lst (frs (stps b a (a.length + 1 - b.length)))) → μ2[O']? = some (.lst (frs (ofts b a (a.length + 1 - b.length)))) →
      S (.nx [some (.tup (frs a)), some (.tup (frs b)), some (.ref R), some (.ref O'), y4, y5, y6, y7]) μ2) :
    ∀ (n k : Nat) (μ1 : List O) (y4 y5 y6 y7 : Option D), k ≤ a.length + 1 - b.length → a.length + 1 - b.length - k < n → (∀ i o, i ≠ R → i ≠ O' → μ[i]? = some o → μ1[i]? = some o) → μ.length ≤ μ1.length → μ1[R]? = some (.lst (frs (stps b a k))) → μ1[O']? = some (.lst (frs (ofts b a k))) →
      Ws (whl (tCmpC .GtE geD (cB "len" lenD (aCons (cVar 2) aNil)) (cB "len" lenD (aCons (cVar 1) aNil))).run (bCons (sAsg (gN 4) (cCall "over" m_over (aCons (cIx (cVar 2) (cNeg (cInt 1))) (aCons (cIx (cVar 1) (cNeg (cInt 1))) aNil))))
  (bCons (sAsg (gN 5) (cBin .Sub subD (cB "len" lenD (aCons (cVar 2) aNil)) (cB "len" lenD (aCons (cVar 1) aNil))))
  (bCons (sFor (gT (gsCons (gN 6) (gsCons (gN 7) gsNil)) 2) (iEn (cVar 1)) (bCons (sAsg (gS (cVar 2) (cBin .Add addD (cVar 5) (cVar 6))) (cCall "minus" m_minus (aCons (cIx (cVar 2) (cBin .Add addD (cVar 5) (cVar 6))) (aCons (cCall "times" m_times (aCons (cVar 4) (aCons (cVar 7) aNil))) aNil))))
  bNil))
  (bCons (sExpr (cM0 "list" "pop" popD (cVar 2)))
  (bCons (sExpr (cM "list" "append" appD (cVar 3) (aCons (cVar 4) aNil)))
  bNil))))).run n [some (.tup (frs a)), some (.tup (frs b)), some (.ref R), some (.ref O'), y4, y5, y6, y7]) μ1 S := by
  intro n
  have hs : sizeLine = 16777216 := sizeLine_eq
  have hbl : 0 < b.length := List.length_pos_iff.mpr hb0
  have hlb := @frs_len b
  induction n with
  | zero => intro k μ1 y4 y5 y6 y7 h1 h2; omega
  | succ n ih =>
    intro k μ1 y4 y5 y6 y7 hk hn hG hlen hR hO
    rw [ws_whl]
    have l1 := @frs_len (stps b a k)
    have l2 := @stps_len b a k
    walk_at "mi*"
    by_cases hc : (b.length : Int) ≤ ((a.length - k : Nat) : Int)
    · have hne : stps b a k ≠ [] := fun z => by
        rw [z] at l2
        simp at l2
        omega
      have a1 := atD_lst hne
      have a2 := atD_lst hb0
      have sR := hz k (by omega)
      rw [if_pos (by simpa using hc)]
      walk_at "mi*"
      refine Wp.go (run_ov (sm_last sR h0) (sm_last hb h0) h0 (by omega) hl) ?_
      rintro _ _ ⟨rfl, rfl⟩
      refine ⟨_, hR, ?_⟩
      have eg : (((frs (stps b a k)).length : Nat) : Int) - (b.length : Int) = ((a.length - k - b.length : Nat) : Int) := by rw [l1, l2]; omega
      rw [eg]
      have es : (stps b a k).getLastD 0 / b.getLastD 0 = shr b (stps b a k) := rfl
      rw [es]
      refine sub_loop (R := R) (sh := shr b (stps b a k)) (g := a.length - k - b.length) hb sR (hw k (by omega)) h0 hA (by omega) hR ?_
      intro μ3 x6 x7 g3 c3
      have lS := @subI_len (shr b (stps b a k)) b (stps b a k) (a.length - k - b.length) b.length
      have est : stps b a (k + 1) = (subI (shr b (stps b a k)) b (a.length - k - b.length) (stps b a k) b.length).dropLast := by
        show stp b (stps b a k) = _
        unfold stp
        rw [l2]
      generalize subI (shr b (stps b a k)) b (a.length - k - b.length) (stps b a k) b.length = Z at c3 lS est
      have lZ := @frs_len Z
      have hy : (frs Z)[Z.length - 1]? = some (fr (Z.getD (Z.length - 1) 0)) := frs_get (by omega)
      have O3 := g3.at_ _ _ (Ne.symm hRO) hO
      have O4 : ∀ u, (μ3.set R u)[O']? = some (.lst (frs (ofts b a k))) := fun u => by rw [List.getElem?_set_ne hRO]; exact O3
      have lO := @ofts_len b a k
      have lO2 := @frs_len (ofts b a k)
      walk_at "mi*"
      have hyk : (frs Z)[a.length - k - 1]? = some (fr (Z.getD (a.length - k - 1) 0)) := frs_get (by omega)
      refine ⟨_, hyk, by omega, ?_⟩
      have RO2 : R < μ3.length := (List.getElem?_eq_some_iff.mp c3).1
      have OO2 : O' < (μ3.set R (O.lst (Std.frs Z).dropLast)).length := (List.getElem?_eq_some_iff.mp (O4 _)).1
      refine ih (k + 1) _ _ _ _ _ (by omega) (by omega) (fun i o h1 h2 h3 => ?_) (by rw [List.length_set, List.length_set]; exact Nat.le_trans hlen g3.len) ?_ ?_
      · rw [List.getElem?_set_ne (Ne.symm h2), List.getElem?_set_ne (Ne.symm h1)]
        exact g3.at_ _ _ h1 (hG i o h1 h2 h3)
      · rw [List.getElem?_set_ne (Ne.symm hRO), List.getElem?_set_self RO2, frs_dropLast, est]
      · rw [List.getElem?_set_self OO2, ofts_succ, frs_snoc]
    · have hkN : k = a.length + 1 - b.length := by omega
      subst hkN
      rw [if_neg (by simpa using hc)]
      exact fin _ _ _ _ _ hG hlen hR hO
/-- a over b: the sizes on the way are given -/
theorem run_parted {A : Nat} {a b : List Rat} {μ : List O} {E : Ex → List O → Prop} (hb : SmL A b) (hb0 : b ≠ []) (hl : b.getLastD 0 ≠ 0) (hz : ∀ k, k + b.length ≤ a.length + 1 → SmL A (stps b a k)) (hw : ∀ k, k + b.length ≤ a.length → Sm A (shr b (stps b a k))) (h0 : 0 < A) (hA : A ≤ 190000) (la : a.length ≤ 1000) :
    Wp (m_poly_parted [.tup (frs a), .tup (frs b)]) μ (fun r μ' => r = .tup [.tup (frs (trimR (ofts b a (a.length + 1 - b.length)).reverse)), .tup (frs (trimR (stps b a (a.length + 1 - b.length))))] ∧ Gr0 μ μ') E := by
  unfold m_poly_parted c_poly_parted
  have hs : sizeLine = 16777216 := sizeLine_eq
  have hlb := @frs_len b
  have hla := @frs_len a
  have hbl : 0 < b.length := List.length_pos_iff.mpr hb0
  rw [show (D.tup (Std.frs b)) = .tup (frs b) from rfl]
  have e := eq_nil b
  rw [decide_eq_false hb0] at e
  walk_at "mi*"
  refine part_loop (R := μ.length) (O' := μ.length + 1) (μ := μ) hb hb0 hl hz hw h0 hA la (by omega) ?_ _ 0 _ _ _ _ _ (by omega) (by omega) (fun i o _ _ h => (Gr0.app _ _).at_ _ _ h) (by simp) at_off0 (at_off (c := 1))
  intro μ2 y4 y5 y6 y7 hG hle hR hO
  have lR := @stps_len b a (a.length + 1 - b.length)
  have lO := @ofts_len b a (a.length + 1 - b.length)
  have lO2 := @frs_len (ofts b a (a.length + 1 - b.length))
  walk_at "mi*"
  have G0 : Gr0 μ μ2 := ⟨hle, fun i o h => hG i o (by have := (List.getElem?_eq_some_iff.mp h).1; omega) (by have := (List.getElem?_eq_some_iff.mp h).1; omega) h⟩
  rw [frs_rev]
  refine Wp.go (run_trimmed at_off0 (by rw [List.length_reverse, lO]; omega)) ?_
  rintro _ μ3 ⟨rfl, g3⟩
  refine Wp.go (run_trimmed (g3.at_ _ _ ((Gr0.app _ _).at_ _ _ hR)) (by rw [lR]; omega)) ?_
  rintro _ μ4 ⟨rfl, g4⟩
  exact ⟨rfl, ((G0.trans (Gr0.app _ _)).trans g3).trans g4⟩
/-! ### what is common -/
/-- the rest of a over b -/
def remR (a b : List Rat) : List Rat := trimR (stps b a (a.length + 1 - b.length))
def quoR (a b : List Rat) : List Rat := trimR (ofts b a (a.length + 1 - b.length)).reverse
/-- a may be parted by b: the sizes -/
structure PtOk (A : Nat) (a b : List Rat) : Prop where
  sb : SmL A b
  ne : b ≠ []
  la : b.getLastD 0 ≠ 0
  z : ∀ k, k + b.length ≤ a.length + 1 → SmL A (stps b a k)
  w : ∀ k, k + b.length ≤ a.length → Sm A (shr b (stps b a k))
  len : a.length ≤ 1000
theorem PtOk.run {A : Nat} {a b : List Rat} {μ : List O} {E : Ex → List O → Prop} (h : PtOk A a b) (h0 : 0 < A) (hA : A ≤ 190000) : Wp (m_poly_parted [.tup (frs a), .tup (frs b)]) μ (fun r μ' => r = .tup [.tup (frs (quoR a b)), .tup (frs (remR a b))] ∧ Gr0 μ μ') E :=
  run_parted h.sb h.ne h.la h.z h.w h0 hA h.len
/-- the way of Euclid: n steps, g the last one that isn't () -/
inductive Euc (A : Nat) : Nat → List Rat → List Rat → List Rat → Prop
  | nil (a : List Rat) (h : SmL A a) (l : a.length ≤ 50) : Euc A 0 a [] a
  | step (n : Nat) (a b g : List Rat) (p : PtOk A a b) (h : Euc A n b (remR a b) g) : Euc A (n + 1) a b g
def monic (g : List Rat) : List Rat := if g = [] then [] else trimR (byR g (1 / g.getLastD 0))
theorem Euc.last {A n : Nat} {a b g : List Rat} (h : Euc A n a b g) : SmL A g ∧ g.length ≤ 50 := by
  induction h with
  | nil a h l => exact ⟨h, l⟩
  | step n a b g p h ih => exact ih
theorem run_common {A n : Nat} {a b g : List Rat} {μ : List O} {E : Ex → List O → Prop} (h : Euc A n a b g) (hn : n < 100000) (hg : g ≠ [] → g.getLastD 0 ≠ 0) (h0 : 0 < A) (hA : A ≤ 190000) :
    Wp (m_poly_common [.tup (frs a), .tup (frs b)]) μ (fun r μ' => r = .tup (frs (monic g)) ∧ Gr0 μ μ') E := by
  unfold m_poly_common c_poly_common
  have hs : sizeLine = 16777216 := sizeLine_eq
  have loop : ∀ {n : Nat} {a b g : List Rat}, Euc A n a b g → ∀ (f : Nat) (μ1 : List O) (S : SR → List O → Prop), n < f → (∀ μ2, Gr0 μ1 μ2 → S (.nx [some (.tup (frs g)), some (.tup [])]) μ2) →
      Ws (whl (tCmpC .NotEq neD (cVar 1) (cTup aNil)).run (bCons (sPar 0 1 (cVar 1) (cIx (cCall "poly_parted" m_poly_parted (aCons (cVar 0) (aCons (cVar 1) aNil))) (cInt 1))) bNil).run f [some (.tup (frs a)), some (.tup (frs b))]) μ1 S := by
    intro n a b g h
    induction h with
    | nil a h l =>
      intro f μ1 S hf k
      obtain ⟨f, rfl⟩ : ∃ f', f = f' + 1 := ⟨f - 1, by omega⟩
      rw [ws_whl]
      have e := ne_nil []
      have e' : neD (.tup []) (.tup []) = M.ret (.bl false) := e
      have e2 : (Std.frs []) = [] := rfl
      walk_at "mi*"
      exact k _ (Gr0.refl _)
    | step n a b g p h ih =>
      intro f μ1 S hf k
      obtain ⟨f, rfl⟩ : ∃ f', f = f' + 1 := ⟨f - 1, by omega⟩
      rw [ws_whl]
      have e := ne_nil b
      rw [decide_eq_false p.ne] at e
      walk_at "mi*"
      refine Wp.go (p.run h0 hA) ?_
      rintro _ μ2 ⟨rfl, g2⟩
      try walk_at "mi*"
      exact ih f μ2 S (by omega) fun μ3 g3 => k μ3 (g2.trans g3)
  walk_at "mi"
  refine loop h _ _ _ hn ?_
  intro μ2 g2
  obtain ⟨sg, lg⟩ := h.last
  have e := ne_nil g
  by_cases hg0 : g = []
  · subst hg0
    have e' : neD (.tup []) (.tup []) = M.ret (.bl false) := ne_nil []
    have e2 : (Std.frs []) = [] := rfl
    walk_at "mi*"
    rfl
  · rw [decide_eq_false hg0] at e
    have a2 := atD_lst hg0
    have hl := hg hg0
    have o1 : k_ONE = fr 1 := rfl
    have s1 : Sm A 1 := Sm.up (A := 1) ⟨by decide, by decide⟩ (by omega)
    have em : monic g = trimR (byR g (1 / g.getLastD 0)) := if_neg hg0
    rw [em]
    walk_at "mi*"
    have sl := sm_last sg h0
    refine Wp.go (run_ov s1 sl h0 (by omega) hl) ?_
    rintro _ _ ⟨rfl, rfl⟩
    have sd : Sm A (1 / g.getLastD 0) := by
      have e1 : (1 : Rat) / g.getLastD 0 = (g.getLastD 0)⁻¹ := by rw [Rat.div_def, Rat.one_mul]
      rw [e1]
      exact sl.inv hl
    refine Wp.go (run_pby sg sd h0 h0 (by omega) lg) ?_
    rintro _ μ4 ⟨rfl, g4⟩
    exact ⟨rfl, g2.trans g4⟩
/-! ### ratios -/
structure RtOk (A : Nat) (a b g : List Rat) : Prop where
  euc : ∃ n, n < 100000 ∧ Euc A n a b g
  g0 : g ≠ [] → g.getLastD 0 ≠ 0
  b0 : b ≠ []
  pa : PtOk A a (monic g)
  pb : PtOk A b (monic g)
  qa : SmL A (quoR a (monic g)) ∧ (quoR a (monic g)).length ≤ 50
  qb : SmL A (quoR b (monic g)) ∧ (quoR b (monic g)).length ≤ 50
  q0 : quoR b (monic g) ≠ []
  ql : (quoR b (monic g)).getLastD 0 ≠ 0
def rtS (b g : List Rat) : Rat := 1 / (quoR b (monic g)).getLastD 0
def rtA (a b g : List Rat) : List Rat := trimR (byR (quoR a (monic g)) (rtS b g))
def rtB (b g : List Rat) : List Rat := trimR (byR (quoR b (monic g)) (rtS b g))
theorem run_ratio {A : Nat} {a b g : List Rat} {μ : List O} {E : Ex → List O → Prop} (h : RtOk A a b g) (h0 : 0 < A) (hA : A ≤ 190000) :
    Wp (m_ratio [.tup (frs a), .tup (frs b)]) μ (fun r μ' => r = .tup [.tup (frs (rtA a b g)), .tup (frs (rtB b g))] ∧ Gr0 μ μ') E := by
  unfold m_ratio c_ratio
  have hs : sizeLine = 16777216 := sizeLine_eq
  have e := eq_nil b
  rw [decide_eq_false h.b0] at e
  obtain ⟨n, hn, he⟩ := h.euc
  walk_at "mi*"
  refine Wp.go (run_common he hn h.g0 h0 hA) ?_
  rintro _ μ1 ⟨rfl, g1⟩
  try walk_at "mi*"
  refine Wp.go (h.pa.run h0 hA) ?_
  rintro _ μ2 ⟨rfl, g2⟩
  try walk_at "mi*"
  refine Wp.go (h.pb.run h0 hA) ?_
  rintro _ μ3 ⟨rfl, g3⟩
  have a2 := atD_lst h.q0
  have o1 : k_ONE = fr 1 := rfl
  have s1 : Sm A 1 := Sm.up (A := 1) ⟨by decide, by decide⟩ (by omega)
  try walk_at "mi*"
  have sl := sm_last h.qb.1 h0
  have sd : Sm A (rtS b g) := by
    have e1 : rtS b g = ((quoR b (monic g)).getLastD 0)⁻¹ := by unfold rtS; rw [Rat.div_def, Rat.one_mul]
    rw [e1]
    exact sl.inv h.ql
  refine Wp.go (run_ov s1 sl h0 (by omega) h.ql) ?_
  rintro _ _ ⟨rfl, rfl⟩
  try walk_at "mi*"
  refine Wp.go (run_pby h.qa.1 sd h0 h0 (by omega) h.qa.2) ?_
  rintro _ μ4 ⟨rfl, g4⟩
  try walk_at "mi*"
  refine Wp.go (run_pby h.qb.1 sd h0 h0 (by omega) h.qb.2) ?_
  rintro _ μ5 ⟨rfl, g5⟩
  try walk_at "mi*"
  exact ⟨rfl, (((g1.trans g2).trans g3).trans g4).trans g5⟩
theorem run_ratio0 {a : List Rat} {μ : List O} {P : D → List O → Prop} {E : Ex → List O → Prop} (q : E ⟨"NoPart", none⟩ μ) : Wp (m_ratio [.tup (frs a), .tup []]) μ P E := by
  unfold m_ratio c_ratio
  have e' : eqD (.tup []) (.tup []) = M.ret (.bl true) := eq_nil []
  walk_at "mi*"
  rw [s_raise]
  walk_at "mi"
  exact ⟨Nat.zero_le _, q⟩
end Sp
/-! P1: polynomials over Rat as lists: values tell the numbers; products; parting. No program here. -/
namespace Po
open Std (evalL trimR)
theorem ev_nil {x : Rat} : evalL x [] = 0 := rfl
theorem ev_cons {x c : Rat} {p : List Rat} : evalL x (c :: p) = c + x * evalL x p := rfl
def padd : List Rat → List Rat → List Rat
  | [], q => q
  | a :: p, [] => a :: p
  | a :: p, b :: q => (a + b) :: padd p q
def pscale (c : Rat) (q : List Rat) : List Rat := q.map (c * ·)
theorem ev_scale {x c : Rat} : ∀ q : List Rat, evalL x (pscale c q) = c * evalL x q
  | [] => by rw [show pscale c [] = [] from rfl, ev_nil]; grind
  | a :: q => by
    rw [show pscale c (a :: q) = (c * a) :: pscale c q from rfl, ev_cons, ev_cons, ev_scale q]
    grind
theorem ev_padd {x : Rat} : ∀ p q : List Rat, evalL x (padd p q) = evalL x p + evalL x q
  | [], q => by rw [show padd [] q = q from rfl, ev_nil]; grind
  | a :: p, [] => by rw [show padd (a :: p) [] = a :: p from rfl, ev_nil]; grind
  | a :: p, b :: q => by
    rw [show padd (a :: p) (b :: q) = (a + b) :: padd p q from rfl, ev_cons, ev_cons, ev_cons, ev_padd p q]
    grind
theorem padd_len : ∀ p q : List Rat, (padd p q).length = max p.length q.length
  | [], q => by simp [padd]
  | a :: p, [] => by simp [padd]
  | a :: p, b :: q => by simp [padd, padd_len p q]
/-- p(x) - p(r) = (x - r) * syn r p (x) -/
def syn (r : Rat) : List Rat → List Rat
  | [] => []
  | _ :: p => padd p (pscale r (syn r p))
theorem syn_len {r : Rat} : ∀ p : List Rat, (syn r p).length = p.length - 1
  | [] => rfl
  | c :: p => by
    have := syn_len (r := r) p
    simp [syn, padd_len, pscale, this]
theorem syn_ev {x r : Rat} : ∀ p : List Rat, evalL x p = evalL r p + (x - r) * evalL x (syn r p)
  | [] => by simp only [ev_nil, syn]; grind
  | c :: p => by
    have := syn_ev (x := x) (r := r) p
    simp only [ev_cons, syn, ev_padd, ev_scale]
    grind
theorem far : ∀ L : List Rat, ∃ r : Rat, ∀ y ∈ L, y < r
  | [] => ⟨0, fun y h => by cases h⟩
  | a :: L => by
    obtain ⟨r, h⟩ := far L
    by_cases k : a < r
    · exact ⟨r, fun y hy => by
        rcases List.mem_cons.mp hy with rfl | hy
        · exact k
        · exact h y hy⟩
    · refine ⟨a + 1, fun y hy => ?_⟩
      rcases List.mem_cons.mp hy with rfl | hy
      · grind
      · have := h y hy
        grind
/-- nought but at some: nought -/
theorem ext0 : ∀ (n : Nat) (p L : List Rat), p.length ≤ n → (∀ x, x ∉ L → evalL x p = 0) → ∀ x, evalL x p = 0
  | 0, p, L, h, _, x => by
    have : p = [] := List.eq_nil_of_length_eq_zero (by omega)
    rw [this]
    rfl
  | n + 1, p, L, h, hz, x => by
    obtain ⟨r, hr⟩ := far L
    have hrL : r ∉ L := fun z => by
      have := hr r z
      grind
    have h0 := hz r hrL
    have hs : ∀ y, evalL y (syn r p) = 0 := ext0 n (syn r p) (r :: L) (by rw [syn_len]; omega) fun y hy => by
      have h1 := syn_ev (x := y) (r := r) p
      rw [hz y (fun z => hy (List.mem_cons_of_mem _ z)), h0] at h1
      have hne : y - r ≠ 0 := fun z => hy (by
        have : y = r := by grind
        rw [this]
        exact List.mem_cons_self)
      have h2 : (y - r) * evalL y (syn r p) = 0 := by grind
      rcases Rat.mul_eq_zero.mp h2 with z | z
      · exact absurd z hne
      · exact z
    rw [syn_ev (x := x) (r := r) p, h0, hs x]
    grind
theorem coef0 : ∀ p : List Rat, (∀ x, evalL x p = 0) → ∀ c ∈ p, c = 0
  | [], _, c, h => by cases h
  | a :: p, hz, c, h => by
    have h0 := hz 0
    rw [ev_cons] at h0
    have a0 : a = 0 := by grind
    have hp : ∀ x, evalL x p = 0 := ext0 _ p [0] (Nat.le_refl _) fun x hx => by
      have h1 := hz x
      rw [ev_cons, a0] at h1
      have h2 : x * evalL x p = 0 := by grind
      rcases Rat.mul_eq_zero.mp h2 with z | z
      · exact absurd z (by simpa using hx)
      · exact z
    rcases List.mem_cons.mp h with rfl | h
    · exact a0
    · exact coef0 p hp c h
theorem trim0 : ∀ p : List Rat, (∀ c ∈ p, c = 0) → trimR p = []
  | [], _ => rfl
  | a :: p, h => by
    unfold trimR
    rw [trim0 p fun c hc => h c (List.mem_cons_of_mem _ hc)]
    dsimp only
    rw [if_pos (h a List.mem_cons_self)]
theorem ev_trim {x : Rat} : ∀ p : List Rat, evalL x (trimR p) = evalL x p
  | [] => rfl
  | a :: p => by
    have ih := ev_trim (x := x) p
    unfold trimR
    cases h : trimR p with
    | nil =>
      rw [h, ev_nil] at ih
      dsimp only
      split
      · rename_i h0
        rw [ev_cons, ← ih, h0, ev_nil]
        grind
      · rw [ev_cons, ev_cons, ← ih, ev_nil]
    | cons b q =>
      dsimp only
      rw [← h, ev_cons, ev_cons, ih]
theorem trim_tail {a : Rat} {p : List Rat} (h : trimR (a :: p) = a :: p) : trimR p = p := by
  unfold trimR at h
  cases e : trimR p with
  | nil =>
    rw [e] at h
    dsimp only at h
    split at h
    · cases h
    · cases h
      rfl
  | cons b q =>
    rw [e] at h
    dsimp only at h
    cases h
    rfl
theorem ev_sub {x : Rat} {p q : List Rat} : evalL x (padd p (pscale (-1) q)) = evalL x p - evalL x q := by
  rw [ev_padd, ev_scale]
  grind
/-- the values tell the polynomial -/
theorem same : ∀ p q : List Rat, trimR p = p → trimR q = q → (∀ x, evalL x p = evalL x q) → p = q
  | [], q, _, hq, h => by
    have := trim0 q (coef0 q fun x => by rw [← h x]; rfl)
    rw [hq] at this
    exact this.symm
  | a :: p, [], hp, _, h => by
    have := trim0 (a :: p) (coef0 (a :: p) fun x => by rw [h x]; rfl)
    rw [hp] at this
    exact this
  | a :: p, b :: q, hp, hq, h => by
    have h0 := h 0
    rw [ev_cons, ev_cons] at h0
    have ab : a = b := by grind
    subst ab
    have ht : ∀ x, evalL x p = evalL x q := fun x => by
      have hz := ext0 _ (padd p (pscale (-1) q)) [0] (Nat.le_refl _) (fun y hy => by
        have h1 := h y
        rw [ev_cons, ev_cons] at h1
        have h2 : y * (evalL y p - evalL y q) = 0 := by grind
        rw [ev_sub]
        rcases Rat.mul_eq_zero.mp h2 with z | z
        · exact absurd z (by simpa using hy)
        · exact z) x
      rw [ev_sub] at hz
      grind
    rw [same p q (trim_tail hp) (trim_tail hq) ht]
theorem trim_cons {a : Rat} {p : List Rat} : trimR (a :: p) = if trimR p = [] then (if a = 0 then [] else [a]) else a :: trimR p := by
  show (match trimR p with | [] => _ | q :: s => _) = _
  cases e : trimR p with
  | nil => rw [if_pos rfl]
  | cons b q => exact (if_neg (List.cons_ne_nil _ _)).symm
theorem trim_trim (p : List Rat) : trimR (trimR p) = trimR p := by
  induction p with
  | nil => rfl
  | cons a p ih =>
    rw [trim_cons]
    by_cases e : trimR p = []
    · rw [if_pos e]
      by_cases h : a = 0
      · rw [if_pos h]
        rfl
      · rw [if_neg h, trim_cons, show trimR [] = [] from rfl, if_pos rfl, if_neg h]
    · rw [if_neg e, trim_cons, ih, if_neg e]
theorem trim_len (p : List Rat) : (trimR p).length ≤ p.length := by
  induction p with
  | nil => exact Nat.le_refl _
  | cons a p ih =>
    rw [trim_cons]
    split
    · split <;> simp
    · simpa using ih
/-! ### products -/
theorem gl_ne {l : List Rat} {a b : Rat} (h : l ≠ []) : l.getLastD a = l.getLastD b := by
  cases l with
  | nil => exact absurd rfl h
  | cons c r => rw [List.getLastD_cons, List.getLastD_cons]
theorem gl_cons {a : Rat} {l : List Rat} (h : l ≠ []) : (a :: l).getLastD 0 = l.getLastD 0 := by
  rw [List.getLastD_cons]
  exact gl_ne h
theorem padd_ne {p q : List Rat} (h : q ≠ []) : padd p q ≠ [] := fun z => by
  have := padd_len p q
  rw [z] at this
  have hq := List.length_pos_iff.mpr h
  simp at this
  omega
theorem last_padd : ∀ p q : List Rat, p.length < q.length → (padd p q).getLastD 0 = q.getLastD 0
  | [], q, _ => rfl
  | a :: p, [], h => by simp at h
  | a :: p, b :: q, h => by
    have ih := last_padd p q (by simpa using h)
    have hq : q ≠ [] := fun z => by rw [z] at h; simp at h
    rw [show padd (a :: p) (b :: q) = (a + b) :: padd p q from rfl, gl_cons (padd_ne hq), gl_cons hq, ih]
theorem last_scale {c : Rat} : ∀ q : List Rat, (pscale c q).getLastD 0 = c * q.getLastD 0
  | [] => by simp [pscale]
  | a :: q => by
    have ih := last_scale (c := c) q
    by_cases h : q = []
    · subst h
      simp [pscale]
    · rw [show pscale c (a :: q) = (c * a) :: pscale c q from rfl, gl_cons (by simpa [pscale] using h), gl_cons h, ih]
/-- a product, of just that length, its last the product of the lasts -/
theorem prod : ∀ p q : List Rat, p ≠ [] → q ≠ [] → ∃ s : List Rat, s.length + 1 = p.length + q.length ∧ s.getLastD 0 = p.getLastD 0 * q.getLastD 0 ∧ ∀ x, evalL x s = evalL x p * evalL x q
  | [], q, h, _ => absurd rfl h
  | c :: p, q, _, hq => by
    by_cases hp : p = []
    · subst hp
      refine ⟨pscale c q, by simp [pscale]; omega, by rw [last_scale]; simp, fun x => by rw [ev_scale, ev_cons, ev_nil]; grind⟩
    · obtain ⟨s, h1, h2, h3⟩ := prod p q hp hq
      have lp := List.length_pos_iff.mpr hp
      have lq := List.length_pos_iff.mpr hq
      have hs : s ≠ [] := fun z => by rw [z] at h1; simp at h1; omega
      refine ⟨padd (pscale c q) (0 :: s), ?_, ?_, fun x => ?_⟩
      · rw [padd_len]
        simp [pscale]
        omega
      · rw [last_padd _ _ (by simp [pscale]; omega), gl_cons hs, gl_cons hp, h2]
      · rw [ev_padd, ev_scale, ev_cons, ev_cons, h3]
        grind
theorem last_mem {l : List Rat} (h : l ≠ []) : l.getLastD 0 ∈ l := by
  rcases Std.snoc_or l with rfl | ⟨rs, q, rfl⟩
  · exact absurd rfl h
  · simp
theorem trim_last : ∀ w : List Rat, trimR w ≠ [] → (trimR w).getLastD 0 ≠ 0
  | [], h => absurd rfl h
  | a :: w, h => by
    rw [trim_cons] at h ⊢
    by_cases e : trimR w = []
    · rw [if_pos e] at h ⊢
      by_cases a0 : a = 0
      · rw [if_pos a0] at h
        exact absurd rfl h
      · rw [if_neg a0]
        simpa using a0
    · rw [if_neg e, gl_cons e]
      exact trim_last w e
/-- what is shorter than h and a multiple of h is nought -/
theorem short0 {h r w : List Rat} (hh : h ≠ []) (hl : h.getLastD 0 ≠ 0) (lr : r.length < h.length) (e : ∀ x, evalL x r = evalL x h * evalL x w) : ∀ x, evalL x r = 0 := by
  intro x
  by_cases hw : trimR w = []
  · rw [e, ← ev_trim w, hw, ev_nil]
    grind
  · exfalso
    obtain ⟨s, s1, s2, s3⟩ := prod h (trimR w) hh hw
    have lw := List.length_pos_iff.mpr hw
    have hs : s ≠ [] := fun z => by rw [z] at s1; simp at s1; omega
    have hz : ∀ c ∈ padd (pscale (-1) r) s, c = 0 := coef0 _ fun y => by
      rw [ev_padd, ev_scale, s3, ev_trim, ← e]
      grind
    have hlast := hz _ (last_mem (padd_ne hs))
    rw [last_padd _ _ (by simp [pscale]; omega), s2] at hlast
    rcases Rat.mul_eq_zero.mp hlast with z | z
    · exact hl z
    · exact trim_last w hw z
/-! ### parted -/
open Sp (shr subI stp stps ofts subI_len stp_len stps_len subI_hi ofts_succ remR quoR)
theorem ev_set {x : Rat} : ∀ (l : List Rat) (k : Nat) (v : Rat), k < l.length → evalL x (l.set k v) = evalL x l + (v - l.getD k 0) * x ^ k
  | [], k, v, h => by simp at h
  | a :: l, 0, v, h => by
    rw [List.set_cons_zero, ev_cons, ev_cons]
    simp
    grind
  | a :: l, k + 1, v, h => by
    rw [List.set_cons_succ, ev_cons, ev_cons, ev_set l k v (by simpa using h)]
    simp only [List.getD_cons_succ, Rat.pow_succ]
    grind
theorem ev_snoc {x c : Rat} : ∀ l : List Rat, evalL x (l ++ [c]) = evalL x l + c * x ^ l.length
  | [] => by
    rw [List.nil_append, ev_cons, ev_nil]
    simp
    grind
  | a :: l => by
    rw [List.cons_append, ev_cons, ev_cons, ev_snoc l, List.length_cons, Rat.pow_succ]
    grind
theorem pow_add (x : Rat) (g : Nat) : ∀ i, x ^ (g + i) = x ^ g * x ^ i
  | 0 => by rw [Nat.add_zero, Rat.pow_zero]; grind
  | i + 1 => by
    rw [← Nat.add_assoc, Rat.pow_succ, Rat.pow_succ, pow_add x g i]
    grind
theorem ev_subI {x sh : Rat} {b rest : List Rat} {g : Nat} (h : g + b.length ≤ rest.length) : ∀ i, i ≤ b.length → evalL x (subI sh b g rest i) = evalL x rest - sh * x ^ g * evalL x (b.take i)
  | 0, _ => by
    show evalL x rest = _
    rw [List.take_zero, ev_nil]
    grind
  | i + 1, hi => by
    have ih := ev_subI (x := x) (sh := sh) h i (by omega)
    show evalL x ((subI sh b g rest i).set (g + i) _) = _
    rw [ev_set _ _ _ (by rw [subI_len]; omega), ih]
    have hb : b.take (i + 1) = b.take i ++ [b.getD i 0] := by
      rw [List.take_succ, List.getD_eq_getElem?_getD, List.getElem?_eq_getElem (by omega)]
      rfl
    rw [hb, ev_snoc, List.length_take, Nat.min_eq_left (by omega), pow_add]
    grind
theorem gl_getD {l : List Rat} : l.getLastD 0 = l.getD (l.length - 1) 0 := by
  rcases Std.snoc_or l with rfl | ⟨rs, q, rfl⟩
  · rfl
  · rw [List.getD_eq_getElem?_getD]
    simp
theorem ev_drop {x : Rat} {l : List Rat} (h : l.getLastD 0 = 0) : evalL x l.dropLast = evalL x l := by
  rcases Std.snoc_or l with rfl | ⟨rs, q, rfl⟩
  · rfl
  · have hq : q = 0 := by simpa using h
    rw [ev_snoc, hq, List.dropLast_concat]
    grind
theorem ev_stp {x : Rat} {b rest : List Rat} (hb : b ≠ []) (hl : b.getLastD 0 ≠ 0) (h : b.length ≤ rest.length) : evalL x (stp b rest) = evalL x rest - shr b rest * x ^ (rest.length - b.length) * evalL x b := by
  have lb := List.length_pos_iff.mpr hb
  unfold stp
  rw [ev_drop, ev_subI (by omega) _ (Nat.le_refl _), List.take_length]
  rw [gl_getD, subI_len]
  obtain ⟨m, hm⟩ : ∃ m, b.length = m + 1 := ⟨b.length - 1, by omega⟩
  have e1 : subI (shr b rest) b (rest.length - b.length) rest b.length = (subI (shr b rest) b (rest.length - b.length) rest m).set (rest.length - b.length + m) ((subI (shr b rest) b (rest.length - b.length) rest m).getD (rest.length - b.length + m) 0 - shr b rest * b.getD m 0) := by
    rw [hm]
    rfl
  have e2 : rest.length - b.length + m = rest.length - 1 := by omega
  rw [e1, e2, Std.gd_set, if_pos ⟨rfl, by rw [subI_len]; omega⟩, subI_hi _ _ (by omega)]
  have e3 : b.getD m 0 = b.getLastD 0 := by rw [gl_getD, hm]; rfl
  have e4 : rest.getD (rest.length - 1) 0 = rest.getLastD 0 := gl_getD.symm
  rw [e3, e4]
  unfold shr
  grind
/-- behind k steps -/
theorem ev_stps {x : Rat} {b a : List Rat} (hb : b ≠ []) (hl : b.getLastD 0 ≠ 0) : ∀ k, k + b.length ≤ a.length + 1 → evalL x a = evalL x b * (x ^ (a.length + 1 - b.length - k) * evalL x (ofts b a k).reverse) + evalL x (stps b a k)
  | 0, _ => by
    show evalL x a = evalL x b * (_ * evalL x (ofts b a 0).reverse) + evalL x a
    rw [show (ofts b a 0).reverse = [] from rfl, ev_nil]
    grind
  | k + 1, hk => by
    have ih := ev_stps (x := x) (b := b) (a := a) hb hl k (by omega)
    have lb := List.length_pos_iff.mpr hb
    rw [ofts_succ, List.reverse_append, List.reverse_cons, List.reverse_nil, List.nil_append, List.cons_append, List.nil_append, ev_cons]
    show _ = _ + evalL x (stp b (stps b a k))
    rw [ev_stp hb hl (by rw [stps_len]; omega), stps_len]
    have e1 : a.length + 1 - b.length - k = (a.length + 1 - b.length - (k + 1)) + 1 := by omega
    have e2 : a.length - k - b.length = a.length + 1 - b.length - (k + 1) := by omega
    rw [e1, Rat.pow_succ] at ih
    rw [e2]
    generalize x ^ (a.length + 1 - b.length - (k + 1)) = z at ih ⊢
    grind
theorem ev_parted {x : Rat} {b a : List Rat} (hb : b ≠ []) (hl : b.getLastD 0 ≠ 0) : evalL x a = evalL x b * evalL x (quoR a b) + evalL x (remR a b) := by
  have lb := List.length_pos_iff.mpr hb
  unfold quoR remR
  rw [ev_trim, ev_trim]
  by_cases h : b.length ≤ a.length + 1
  · have := ev_stps (x := x) (b := b) (a := a) hb hl (a.length + 1 - b.length) (by omega)
    rw [Nat.sub_self, Rat.pow_zero] at this
    rw [this]
    grind
  · have e : a.length + 1 - b.length = 0 := by omega
    rw [e]
    show evalL x a = _ * evalL x (ofts b a 0).reverse + evalL x a
    rw [show (ofts b a 0).reverse = [] from rfl, ev_nil]
    grind
theorem rem_len {a b : List Rat} (hb : b ≠ []) : (remR a b).length < b.length := by
  have lb := List.length_pos_iff.mpr hb
  unfold remR
  have := trim_len (stps b a (a.length + 1 - b.length))
  rw [stps_len] at this
  omega
theorem rem_trim {a b : List Rat} : trimR (remR a b) = remR a b := trim_trim _
theorem quo_trim {a b : List Rat} : trimR (quoR a b) = quoR a b := trim_trim _
/-! ### functions that are polynomials -/
def Pf (f : Rat → Rat) : Prop := ∃ p : List Rat, ∀ x, f x = evalL x p
theorem Pf.ev (p : List Rat) : Pf fun x => evalL x p := ⟨p, fun _ => rfl⟩
theorem Pf.const (c : Rat) : Pf fun _ => c := ⟨[c], fun x => by rw [ev_cons, ev_nil]; grind⟩
theorem Pf.add {f g : Rat → Rat} (hf : Pf f) (hg : Pf g) : Pf fun x => f x + g x := by
  obtain ⟨p, hp⟩ := hf
  obtain ⟨q, hq⟩ := hg
  exact ⟨padd p q, fun x => by show f x + g x = _; rw [ev_padd, hp, hq]⟩
theorem Pf.mul {f g : Rat → Rat} (hf : Pf f) (hg : Pf g) : Pf fun x => f x * g x := by
  obtain ⟨p, hp⟩ := hf
  obtain ⟨q, hq⟩ := hg
  by_cases h1 : p = []
  · subst h1
    exact ⟨[], fun x => by show f x * g x = _; rw [hp, ev_nil]; grind⟩
  · by_cases h2 : q = []
    · subst h2
      exact ⟨[], fun x => by show f x * g x = _; rw [hq, ev_nil]; grind⟩
    · obtain ⟨s, _, _, h3⟩ := prod p q h1 h2
      exact ⟨s, fun x => by show f x * g x = _; rw [h3, hp, hq]⟩
theorem Pf.sub {f g : Rat → Rat} (hf : Pf f) (hg : Pf g) : Pf fun x => f x - g x := by
  obtain ⟨p, hp⟩ := hf.add ((Pf.const (-1)).mul hg)
  exact ⟨p, fun x => by rw [← hp]; grind⟩
theorem trim_of_last {p : List Rat} (h : p.getLastD 0 ≠ 0) : trimR p = p := by
  rcases Std.snoc_or p with rfl | ⟨rs, q, rfl⟩
  · rfl
  · exact Std.trim_snoc (by simpa using h) _
theorem nil_of_zero {p : List Rat} (ht : trimR p = p) (h : ∀ x, evalL x p = 0) : p = [] := by
  rw [← ht]
  exact trim0 p (coef0 p h)
/-- exactly parted -/
theorem rem_nil {a b : List Rat} {w : Rat → Rat} (hb : b ≠ []) (hl : b.getLastD 0 ≠ 0) (hw : Pf w) (e : ∀ x, evalL x a = evalL x b * w x) : remR a b = [] := by
  obtain ⟨p, hp⟩ := hw.sub (Pf.ev (quoR a b))
  refine nil_of_zero rem_trim (short0 hb hl (rem_len hb) (w := p) fun x => ?_)
  have h1 := ev_parted (x := x) (a := a) hb hl
  rw [e] at h1
  rw [← hp]
  grind
theorem quo_ev {a b : List Rat} {w : Rat → Rat} (hb : b ≠ []) (hl : b.getLastD 0 ≠ 0) (hw : Pf w) (e : ∀ x, evalL x a = evalL x b * w x) (x : Rat) : evalL x a = evalL x b * evalL x (quoR a b) := by
  rw [ev_parted (x := x) (a := a) hb hl, rem_nil hb hl hw e, ev_nil]
  grind
/-! ### Euclid -/
open Sp (Euc PtOk monic)
theorem euc_last {A n : Nat} {a b g : List Rat} (h : Euc A n a b g) (ha : trimR a = a) (hb : trimR b = b) : trimR g = g := by
  induction h with
  | nil a h l => exact ha
  | step n a b g p h ih => exact ih hb rem_trim
theorem euc_div {A n : Nat} {a b g : List Rat} (h : Euc A n a b g) : (∃ s, Pf s ∧ ∀ x, evalL x a = evalL x g * s x) ∧ ∃ t, Pf t ∧ ∀ x, evalL x b = evalL x g * t x := by
  induction h with
  | nil a h l => exact ⟨⟨_, Pf.const 1, fun x => by grind⟩, ⟨_, Pf.const 0, fun x => by rw [ev_nil]; grind⟩⟩
  | step n a b g p h ih =>
    obtain ⟨⟨s, ps, es⟩, ⟨t, pt, et⟩⟩ := ih
    refine ⟨⟨_, (ps.mul (Pf.ev (quoR a b))).add pt, fun x => ?_⟩, ⟨s, ps, es⟩⟩
    rw [ev_parted (x := x) (a := a) p.ne p.la, et, es]
    grind
theorem euc_bez {A n : Nat} {a b g : List Rat} (h : Euc A n a b g) : ∃ u v, Pf u ∧ Pf v ∧ ∀ x, evalL x g = u x * evalL x a + v x * evalL x b := by
  induction h with
  | nil a h l => exact ⟨_, _, Pf.const 1, Pf.const 0, fun x => by grind⟩
  | step n a b g p h ih =>
    obtain ⟨u, v, pu, pv, e⟩ := ih
    refine ⟨v, _, pv, pu.sub (pv.mul (Pf.ev (quoR a b))), fun x => ?_⟩
    have h1 := ev_parted (x := x) (a := a) p.ne p.la
    have h2 := e x
    rw [h2]
    grind
theorem byR_map {p : List Rat} {c : Rat} : Std.byR p c = p.map (· * c) := by
  unfold Std.byR
  apply List.ext_getElem?
  intro i
  rw [List.getElem?_map, List.getElem?_map]
  by_cases h : i < p.length
  · rw [List.getElem?_range h, List.getElem?_eq_getElem h]
    simp [List.getD_eq_getElem?_getD, List.getElem?_eq_getElem h]
  · rw [List.getElem?_eq_none (by simpa using h), List.getElem?_eq_none (by simpa using h)]
    rfl
theorem byR_scale {p : List Rat} {c : Rat} : Std.byR p c = pscale c p := by
  rw [byR_map]
  unfold pscale
  congr 1
  funext y
  grind
theorem monic_eq {g : List Rat} (h : g ≠ []) (hl : g.getLastD 0 ≠ 0) : monic g = pscale (1 / g.getLastD 0) g ∧ (monic g).getLastD 0 = 1 ∧ monic g ≠ [] ∧ (monic g).length = g.length := by
  have e1 : (pscale (1 / g.getLastD 0) g).getLastD 0 = 1 := by
    rw [last_scale]
    grind
  have e : monic g = pscale (1 / g.getLastD 0) g := by
    unfold monic
    rw [if_neg h, byR_scale]
    exact trim_of_last (by rw [e1]; decide)
  refine ⟨e, by rw [e]; exact e1, fun z => h ?_, by rw [e]; simp [pscale]⟩
  rw [e] at z
  simpa [pscale] using z
end Po
/-! P2: how great the numbers of polynomials get, by a common denominator. No program here. -/
namespace Po
open Std (evalL trimR Sm SmL)
open Sp (shr subI stp stps ofts subI_len stp_len stps_len subI_hi ofts_succ remR quoR)
/-- a common denominator up to D, the tops up to M -/
def Cd (M D : Nat) (p : List Rat) : Prop := ∃ d : Int, d ≠ 0 ∧ d.natAbs ≤ D ∧ ∀ c ∈ p, ∃ z : Int, z.natAbs ≤ M ∧ c * (d : Rat) = (z : Rat)
theorem Cd.up {M D M' D' : Nat} {p : List Rat} (h : Cd M D p) (a : M ≤ M') (b : D ≤ D') : Cd M' D' p := by
  obtain ⟨d, d0, hd, hp⟩ := h
  exact ⟨d, d0, by omega, fun c hc => let ⟨z, h1, h2⟩ := hp c hc; ⟨z, by omega, h2⟩⟩
theorem Cd.sub {M D : Nat} {p q : List Rat} (h : Cd M D p) (s : ∀ c ∈ q, c ∈ p) : Cd M D q := by
  obtain ⟨d, d0, hd, hp⟩ := h
  exact ⟨d, d0, hd, fun c hc => hp c (s c hc)⟩
theorem cast_ne {d : Int} (h : d ≠ 0) : (d : Rat) ≠ 0 := fun z => h (by
  have : ((d : Int) : Rat) = ((0 : Int) : Rat) := z
  exact Rat.intCast_inj.mp this)
theorem sm_div {z d : Int} {c : Rat} {A : Nat} (h0 : d ≠ 0) (e : c * (d : Rat) = (z : Rat)) (h1 : z.natAbs < 2 ^ A) (h2 : d.natAbs < 2 ^ A) : Sm A c := by
  have hc : c = Rat.divInt z d := by
    rw [Rat.divInt_eq_div, ← e]
    have := cast_ne h0
    grind
  obtain ⟨x, y⟩ := Std.red_le (q := c) (n := z) (d := d) h0 hc
  exact ⟨by omega, by omega⟩
theorem Cd.sm {M D A : Nat} {p : List Rat} (h : Cd M D p) (h1 : M < 2 ^ A) (h2 : D < 2 ^ A) : SmL A p := fun c hc => by
  obtain ⟨d, d0, hd, hp⟩ := h
  obtain ⟨z, hz, e⟩ := hp c hc
  exact sm_div d0 e (by omega) (by omega)
theorem getD_mem {p : List Rat} {i : Nat} : p.getD i 0 ∈ p ∨ p.getD i 0 = 0 := by
  by_cases h : i < p.length
  · rw [List.getD_eq_getElem?_getD, List.getElem?_eq_getElem h]
    exact .inl (List.getElem_mem h)
  · rw [List.getD_eq_getElem?_getD, List.getElem?_eq_none (by omega)]
    exact .inr rfl
theorem subI_mem {sh : Rat} {b rest : List Rat} {g : Nat} : ∀ i, ∀ c ∈ subI sh b g rest i, ∃ r e : Rat, r ∈ rest ∧ (e ∈ b ∨ e = 0) ∧ c = r - sh * e
  | 0, c, h => ⟨c, 0, h, .inr rfl, by grind⟩
  | i + 1, c, h => by
    have h' : c ∈ (subI sh b g rest i).set (g + i) ((subI sh b g rest i).getD (g + i) 0 - sh * b.getD i 0) := h
    by_cases hl : g + i < (subI sh b g rest i).length
    · rcases List.mem_or_eq_of_mem_set h' with h' | rfl
      · exact subI_mem i c h'
      · rw [subI_len] at hl
        refine ⟨rest.getD (g + i) 0, b.getD i 0, ?_, getD_mem, by rw [subI_hi i _ (Nat.le_refl _)]⟩
        rw [List.getD_eq_getElem?_getD, List.getElem?_eq_getElem hl]
        exact List.getElem_mem hl
    · rw [List.set_eq_of_length_le (by omega)] at h'
      exact subI_mem i c h'
/-- one step's sizes -/
theorem cd_stp {M D Mb Db : Nat} {b rest : List Rat} (hr : Cd M D rest) (hb : Cd Mb Db b) (hl : b.getLastD 0 ≠ 0) (hb0 : b ≠ []) (hr0 : rest ≠ []) : Cd (2 * M * Mb) (D * Mb) (stp b rest) := by
  obtain ⟨ρ, ρ0, hρ, hp⟩ := hr
  obtain ⟨β, β0, hβ, hq⟩ := hb
  obtain ⟨L, hL, eL⟩ := hq _ (last_mem hb0)
  obtain ⟨R, hR, eR⟩ := hp _ (last_mem hr0)
  have b0 := cast_ne β0
  have L0 : L ≠ 0 := fun z => by
    rw [z] at eL
    have : b.getLastD 0 * (β : Rat) = 0 := eL
    rcases Rat.mul_eq_zero.mp this with z | z
    · exact hl z
    · exact b0 z
  refine ⟨ρ * L, Int.mul_ne_zero ρ0 L0, by rw [Int.natAbs_mul]; exact Nat.mul_le_mul hρ hL, fun c hc => ?_⟩
  obtain ⟨r, e, h1, h2, rfl⟩ := subI_mem _ c ((List.dropLast_sublist _).subset hc)
  obtain ⟨z, hz, ez⟩ := hp r h1
  obtain ⟨y, hy, ey⟩ : ∃ y : Int, y.natAbs ≤ Mb ∧ e * (β : Rat) = (y : Rat) := by
    rcases h2 with h2 | h2
    · exact hq e h2
    · exact ⟨0, by simp, by rw [h2]; simp⟩
  refine ⟨z * L - R * y, ?_, ?_⟩
  · have m1 : (z * L).natAbs ≤ M * Mb := by rw [Int.natAbs_mul]; exact Nat.mul_le_mul hz hL
    have m2 : (R * y).natAbs ≤ M * Mb := by rw [Int.natAbs_mul]; exact Nat.mul_le_mul hR hy
    rw [Nat.mul_assoc]
    omega
  · rw [Rat.intCast_sub, Rat.intCast_mul, Rat.intCast_mul, Rat.intCast_mul]
    unfold shr
    rw [← ez, ← eL, ← eR, ← ey]
    generalize b.getLastD 0 = l at *
    generalize rest.getLastD 0 = t at *
    grind
/-- the share's size -/
theorem sm_shr {M D Mb Db A : Nat} {b rest : List Rat} (hr : Cd M D rest) (hb : Cd Mb Db b) (hl : b.getLastD 0 ≠ 0) (hb0 : b ≠ []) (hr0 : rest ≠ []) (h1 : M * Db < 2 ^ A) (h2 : D * Mb < 2 ^ A) : Sm A (shr b rest) := by
  obtain ⟨ρ, ρ0, hρ, hp⟩ := hr
  obtain ⟨β, β0, hβ, hq⟩ := hb
  obtain ⟨L, hL, eL⟩ := hq _ (last_mem hb0)
  obtain ⟨R, hR, eR⟩ := hp _ (last_mem hr0)
  have b0 := cast_ne β0
  have r0 := cast_ne ρ0
  have L0 : L ≠ 0 := fun z => by
    rw [z] at eL
    have : b.getLastD 0 * (β : Rat) = 0 := eL
    rcases Rat.mul_eq_zero.mp this with z | z
    · exact hl z
    · exact b0 z
  refine sm_div (z := R * β) (d := ρ * L) (Int.mul_ne_zero ρ0 L0) ?_ ?_ ?_
  · rw [Rat.intCast_mul, Rat.intCast_mul]
    unfold shr
    rw [← eL, ← eR]
    generalize b.getLastD 0 = l at *
    generalize rest.getLastD 0 = t at *
    grind
  · rw [Int.natAbs_mul]
    exact Nat.lt_of_le_of_lt (Nat.mul_le_mul hR hβ) h1
  · rw [Int.natAbs_mul]
    exact Nat.lt_of_le_of_lt (Nat.mul_le_mul hρ hL) h2
/-- in bits: both below 2^t -/
def Cb (t : Nat) (p : List Rat) : Prop := Cd (2 ^ t) (2 ^ t) p
theorem Cb.up {t u : Nat} {p : List Rat} (h : Cb t p) (l : t ≤ u) : Cb u p := Cd.up h (Nat.pow_le_pow_right (by omega) l) (Nat.pow_le_pow_right (by omega) l)
theorem Cb.sm {t A : Nat} {p : List Rat} (h : Cb t p) (l : t < A) : SmL A p := Cd.sm h (Nat.pow_lt_pow_right (by omega) l) (Nat.pow_lt_pow_right (by omega) l)
theorem cb_stp {t u : Nat} {b rest : List Rat} (hr : Cb t rest) (hb : Cb u b) (hl : b.getLastD 0 ≠ 0) (hb0 : b ≠ []) (hr0 : rest ≠ []) : Cb (t + u + 1) (stp b rest) := by
  refine (cd_stp hr hb hl hb0 hr0).up ?_ ?_
  · rw [Nat.pow_succ, Nat.pow_add, Nat.mul_comm (2 ^ t * 2 ^ u) 2, Nat.mul_assoc]
    exact Nat.le_refl _
  · rw [← Nat.pow_add]
    exact Nat.pow_le_pow_right (by omega) (by omega)
theorem cb_stps {t u : Nat} {b a : List Rat} (ha : Cb t a) (hb : Cb u b) (hl : b.getLastD 0 ≠ 0) (hb0 : b ≠ []) : ∀ k, k ≤ a.length → Cb (t + k * (u + 1)) (stps b a k)
  | 0, _ => by rw [Nat.zero_mul]; exact ha
  | k + 1, h => by
    have ih := cb_stps ha hb hl hb0 k (by omega)
    have : stps b a k ≠ [] := fun z => by
      have := stps_len (b := b) (a := a) k
      rw [z] at this
      simp at this
      omega
    refine (cb_stp ih hb hl hb0 this).up ?_
    rw [Nat.add_mul, Nat.one_mul]
    omega
theorem trim_mem {p : List Rat} {c : Rat} (h : c ∈ trimR p) : c ∈ p := Std.trim_mem h
theorem cb_rem {t u : Nat} {b a : List Rat} (ha : Cb t a) (hb : Cb u b) (hl : b.getLastD 0 ≠ 0) (hb0 : b ≠ []) : Cb (t + (a.length + 1 - b.length) * (u + 1)) (remR a b) := by
  have lb := List.length_pos_iff.mpr hb0
  exact (cb_stps ha hb hl hb0 _ (by omega)).sub fun c hc => trim_mem hc
theorem pt_ok {t u A : Nat} {b a : List Rat} (ha : Cb t a) (hb : Cb u b) (hl : b.getLastD 0 ≠ 0) (hb0 : b ≠ []) (h : t + (a.length + 1 - b.length) * (u + 1) + u < A) (la : a.length ≤ 1000) : Sp.PtOk A a b := by
  have lb := List.length_pos_iff.mpr hb0
  have mono : ∀ k, k + b.length ≤ a.length + 1 → t + k * (u + 1) + u < A := fun k hk => by
    have : k * (u + 1) ≤ (a.length + 1 - b.length) * (u + 1) := Nat.mul_le_mul (by omega) (Nat.le_refl _)
    omega
  refine ⟨hb.sm (by omega), hb0, hl, fun k hk => (cb_stps ha hb hl hb0 k (by omega)).sm (by have := mono k hk; omega), fun k hk => ?_, la⟩
  have hn : stps b a k ≠ [] := fun z => by
    have := stps_len (b := b) (a := a) k
    rw [z] at this
    simp at this
    omega
  have hm := mono k (by omega)
  have e : 2 ^ (t + k * (u + 1)) * 2 ^ u < 2 ^ A := by
    rw [← Nat.pow_add]
    exact Nat.pow_lt_pow_right (by omega) hm
  exact sm_shr (cb_stps ha hb hl hb0 k (by omega)) hb hl hb0 hn e e
/-! ### the way of Euclid -/
open Sp (Euc)
/-- the size of a rest -/
def rB (la lb t u : Nat) : Nat := t + (la + 1 - lb) * (u + 1)
/-- what is asked of A on the way: lengths la, lb, sizes t, u -/
def eucB : Nat → Nat → Nat → Nat → Nat → Nat
  | 0, _, _, t, u => t + u + 1
  | n + 1, la, lb, t, u => if lb = 0 then t + u + 1 else max (rB la lb t u + u + 1) ((List.range lb).foldl (fun m l => max m (eucB n lb l u (rB la lb t u))) 0)
/-- the size of the last one, where it is no single number -/
def eucG : Nat → Nat → Nat → Nat → Nat → Nat
  | 0, la, _, t, _ => if 2 ≤ la then t else 0
  | n + 1, la, lb, t, u => if lb = 0 then (if 2 ≤ la then t else 0) else (List.range lb).foldl (fun m l => max m (eucG n lb l u (rB la lb t u))) 0
theorem fold_le {f : Nat → Nat} : ∀ (l : List Nat) (m : Nat), m ≤ l.foldl (fun m x => max m (f x)) m ∧ ∀ x ∈ l, f x ≤ l.foldl (fun m x => max m (f x)) m
  | [], m => ⟨Nat.le_refl _, fun x h => by cases h⟩
  | a :: l, m => by
    obtain ⟨h1, h2⟩ := fold_le (f := f) l (max m (f a))
    rw [List.foldl_cons]
    refine ⟨by omega, fun x hx => ?_⟩
    rcases List.mem_cons.mp hx with rfl | hx
    · omega
    · exact h2 x hx
theorem euc_ex {A : Nat} : ∀ (n : Nat) (a b : List Rat) (t u : Nat), b.length ≤ n → trimR a = a → trimR b = b → Cb t a → Cb u b → a.length ≤ 50 → b.length ≤ 50 → eucB n a.length b.length t u ≤ A →
    ∃ k g, k ≤ n ∧ Euc A k a b g ∧ (2 ≤ g.length → Cb (eucG n a.length b.length t u) g)
  | 0, a, b, t, u, hn, ha, hb, ca, cb, la, lb, hA => by
    have : b = [] := List.eq_nil_of_length_eq_zero (by omega)
    subst this
    have hA' : t + u + 1 ≤ A := hA
    refine ⟨0, a, Nat.le_refl _, .nil a (ca.sm (by omega)) la, fun h2 => ?_⟩
    show Cb (if 2 ≤ a.length then t else 0) a
    rw [if_pos h2]
    exact ca
  | n + 1, a, b, t, u, hn, ha, hb, ca, cb, la, lb, hA => by
    by_cases hb0 : b = []
    · subst hb0
      have hA' : t + u + 1 ≤ A := by
        have : eucB (n + 1) a.length 0 t u = t + u + 1 := if_pos rfl
        rw [show ([] : List Rat).length = 0 from rfl, this] at hA
        exact hA
      refine ⟨0, a, Nat.zero_le _, .nil a (ca.sm (by omega)) la, fun h2 => ?_⟩
      show Cb (if 0 = 0 then (if 2 ≤ a.length then t else 0) else _) a
      rw [if_pos rfl, if_pos h2]
      exact ca
    · have lb0 := List.length_pos_iff.mpr hb0
      have hl : b.getLastD 0 ≠ 0 := by
        have := trim_last b (by rw [hb]; exact hb0)
        rwa [hb] at this
      have eB : eucB (n + 1) a.length b.length t u = max (rB a.length b.length t u + u + 1) ((List.range b.length).foldl (fun m l => max m (eucB n b.length l u (rB a.length b.length t u))) 0) := if_neg (by omega)
      have eG : eucG (n + 1) a.length b.length t u = (List.range b.length).foldl (fun m l => max m (eucG n b.length l u (rB a.length b.length t u))) 0 := if_neg (by omega)
      rw [eB] at hA
      have lr := rem_len (a := a) hb0
      have mem : (remR a b).length ∈ List.range b.length := List.mem_range.mpr lr
      have f1 := (fold_le (f := fun l => eucB n b.length l u (rB a.length b.length t u)) (List.range b.length) 0).2 _ mem
      have f2 := (fold_le (f := fun l => eucG n b.length l u (rB a.length b.length t u)) (List.range b.length) 0).2 _ mem
      obtain ⟨k, g, hk, he, hg⟩ := euc_ex (A := A) n b (remR a b) u (rB a.length b.length t u) (by omega) hb rem_trim cb (cb_rem ca cb hl hb0) lb (by omega) (by omega)
      refine ⟨k + 1, g, by omega, .step k a b g (pt_ok ca cb hl hb0 (by unfold rB at hA; omega) (by omega)) he, fun h2 => ?_⟩
      rw [eG]
      exact (hg h2).up f2
theorem eucB_small : ∀ la < 10, ∀ lb < 8, eucB 9 la lb 16 16 ≤ 100000 := by decide +kernel
theorem eucG_small : ∀ la < 10, ∀ lb < 8, eucG 9 la lb 16 16 ≤ 6000 := by decide +kernel
end Po
/-! P3: Euclid's way with the true tops; values of sums and products; drawn small fractions. No program here. -/
namespace Po
open Std (evalL trimR Sm SmL addR mulR innerR outerR stepR inner_len outer_len)
open Sp (shr subI stp stps ofts subI_len stp_len stps_len subI_hi ofts_succ remR quoR PtOk Euc monic)
theorem cd_stps {M D Mb Db : Nat} {b a : List Rat} (ha : Cd M D a) (hb : Cd Mb Db b) (hl : b.getLastD 0 ≠ 0) (hb0 : b ≠ []) : ∀ k, k ≤ a.length → Cd (M * (2 * Mb) ^ k) (D * Mb ^ k) (stps b a k)
  | 0, _ => ha.up (by simp) (by simp)
  | k + 1, h => by
    have ih := cd_stps ha hb hl hb0 k (by omega)
    have : stps b a k ≠ [] := fun z => by
      have := stps_len (b := b) (a := a) k
      rw [z] at this
      simp at this
      omega
    refine (cd_stp ih hb hl hb0 this).up (Nat.le_of_eq ?_) (Nat.le_of_eq ?_)
    · rw [Nat.pow_succ]; ac_rfl
    · rw [Nat.pow_succ]; ac_rfl
/-- how many steps -/
def nst (la lb : Nat) : Nat := la + 1 - lb
theorem cd_rem {M D Mb Db : Nat} {b a : List Rat} (ha : Cd M D a) (hb : Cd Mb Db b) (hl : b.getLastD 0 ≠ 0) (hb0 : b ≠ []) : Cd (M * (2 * Mb) ^ nst a.length b.length) (D * Mb ^ nst a.length b.length) (remR a b) := by
  have lb := List.length_pos_iff.mpr hb0
  exact (cd_stps ha hb hl hb0 _ (by unfold nst; omega)).sub fun c hc => trim_mem hc
theorem pt_okM {A M D Mb Db : Nat} {b a : List Rat} (ha : Cd M D a) (hb : Cd Mb Db b) (hl : b.getLastD 0 ≠ 0) (hb0 : b ≠ []) (m0 : 0 < M) (d0 : 0 < D) (n0 : 0 < Mb) (e0 : 0 < Db)
    (h1 : M * (2 * Mb) ^ nst a.length b.length * Db < 2 ^ A) (h2 : D * Mb ^ nst a.length b.length * Mb < 2 ^ A) (la : a.length ≤ 1000) : PtOk A a b := by
  have lb := List.length_pos_iff.mpr hb0
  have p1 : ∀ k, k ≤ nst a.length b.length → M * (2 * Mb) ^ k * Db < 2 ^ A := fun k hk =>
    Nat.lt_of_le_of_lt (Nat.mul_le_mul (Nat.mul_le_mul (Nat.le_refl _) (Nat.pow_le_pow_right (by omega) hk)) (Nat.le_refl _)) h1
  have p2 : ∀ k, k ≤ nst a.length b.length → D * Mb ^ k * Mb < 2 ^ A := fun k hk =>
    Nat.lt_of_le_of_lt (Nat.mul_le_mul (Nat.mul_le_mul (Nat.le_refl _) (Nat.pow_le_pow_right (by omega) hk)) (Nat.le_refl _)) h2
  have q1 : ∀ k, k ≤ nst a.length b.length → M * (2 * Mb) ^ k < 2 ^ A := fun k hk => Nat.lt_of_le_of_lt (Nat.le_mul_of_pos_right _ e0) (p1 k hk)
  have q2 : ∀ k, k ≤ nst a.length b.length → D * Mb ^ k < 2 ^ A := fun k hk => Nat.lt_of_le_of_lt (Nat.le_mul_of_pos_right _ n0) (p2 k hk)
  have w1 : Db < 2 ^ A := Nat.lt_of_le_of_lt (Nat.le_mul_of_pos_left _ (Nat.mul_pos m0 (Nat.pow_pos (by omega)))) h1
  have w2 : Mb < 2 ^ A := Nat.lt_of_le_of_lt (Nat.le_mul_of_pos_left _ (Nat.mul_pos d0 (Nat.pow_pos n0))) h2
  refine ⟨hb.sm w2 w1, hb0, hl, fun k hk => ?_, fun k hk => ?_, la⟩
  · have hk' : k ≤ nst a.length b.length := by unfold nst; omega
    exact (cd_stps ha hb hl hb0 k (by omega)).sm (q1 k hk') (q2 k hk')
  · have hk' : k ≤ nst a.length b.length := by unfold nst; omega
    have hn : stps b a k ≠ [] := fun z => by
      have := stps_len (b := b) (a := a) k
      rw [z] at this
      simp at this
      omega
    exact sm_shr (cd_stps ha hb hl hb0 k (by omega)) hb hl hb0 hn (p1 k hk') (p2 k hk')
/-- is a last one of this length and these tops small enough to be shown -/
def finC (A la M D : Nat) : Bool := decide (M < 2 ^ A) && decide (D < 2 ^ A) && (decide (la < 2) || (decide (M.log2 + 1 ≤ 1900) && decide (la * (2 * (M.log2 + 1) + 3) ≤ 7900)))
def eucC (A : Nat) : Nat → Nat → Nat → Nat → Nat → Nat → Nat → Bool
  | 0, la, _, M, D, _, _ => finC A la M D
  | n + 1, la, lb, M, D, Mb, Db => if lb = 0 then finC A la M D else
      decide (M * (2 * Mb) ^ nst la lb * Db < 2 ^ A) && decide (D * Mb ^ nst la lb * Mb < 2 ^ A) && (List.range lb).all fun l => eucC A n lb l Mb Db (M * (2 * Mb) ^ nst la lb) (D * Mb ^ nst la lb)
/-- may be shown -/
def Shw (g : List Rat) : Prop := 2 ≤ g.length → ∃ M D, Cd M D g ∧ M.log2 + 1 ≤ 1900 ∧ g.length * (2 * (M.log2 + 1) + 3) ≤ 7900
theorem fin_shw {A la M D : Nat} {a : List Rat} (h : finC A a.length M D = true) (ca : Cd M D a) : SmL A a ∧ Shw a := by
  unfold finC at h
  simp only [Bool.and_eq_true, Bool.or_eq_true, decide_eq_true_eq] at h
  obtain ⟨⟨h1, h2⟩, h3⟩ := h
  refine ⟨ca.sm h1 h2, fun l2 => ?_⟩
  rcases h3 with h3 | ⟨h3, h4⟩
  · omega
  · exact ⟨M, D, ca, h3, h4⟩
theorem euc_exM {A : Nat} : ∀ (n : Nat) (a b : List Rat) (M D Mb Db : Nat), b.length ≤ n → trimR a = a → trimR b = b → Cd M D a → Cd Mb Db b → 0 < M → 0 < D → 0 < Mb → 0 < Db → a.length ≤ 50 → b.length ≤ 50 → eucC A n a.length b.length M D Mb Db = true →
    ∃ k g, k ≤ n ∧ Euc A k a b g ∧ Shw g
  | 0, a, b, M, D, Mb, Db, hn, ha, hb, ca, cb, m0, d0, n0, e0, la, lb, hA => by
    have : b = [] := List.eq_nil_of_length_eq_zero (by omega)
    subst this
    obtain ⟨h1, h2⟩ := fin_shw (la := 0) hA ca
    exact ⟨0, a, Nat.le_refl _, .nil a h1 la, h2⟩
  | n + 1, a, b, M, D, Mb, Db, hn, ha, hb, ca, cb, m0, d0, n0, e0, la, lb, hA => by
    by_cases hb0 : b = []
    · subst hb0
      have e : eucC A (n + 1) a.length 0 M D Mb Db = finC A a.length M D := if_pos rfl
      rw [List.length_nil, e] at hA
      obtain ⟨h1, h2⟩ := fin_shw (la := 0) hA ca
      exact ⟨0, a, Nat.zero_le _, .nil a h1 la, h2⟩
    · have lb0 := List.length_pos_iff.mpr hb0
      have hl : b.getLastD 0 ≠ 0 := by
        have := trim_last b (by rw [hb]; exact hb0)
        rwa [hb] at this
      have eB : eucC A (n + 1) a.length b.length M D Mb Db = (decide (M * (2 * Mb) ^ nst a.length b.length * Db < 2 ^ A) && decide (D * Mb ^ nst a.length b.length * Mb < 2 ^ A) && (List.range b.length).all fun l => eucC A n b.length l Mb Db (M * (2 * Mb) ^ nst a.length b.length) (D * Mb ^ nst a.length b.length)) := if_neg (by omega)
      rw [eB] at hA
      simp only [Bool.and_eq_true, decide_eq_true_eq, List.all_eq_true] at hA
      obtain ⟨⟨h1, h2⟩, h3⟩ := hA
      have lr := rem_len (a := a) hb0
      obtain ⟨k, g, hk, he, hg⟩ := euc_exM n b (remR a b) Mb Db _ _ (by omega) hb rem_trim cb (cd_rem ca cb hl hb0) n0 e0 (Nat.mul_pos m0 (Nat.pow_pos (by omega))) (Nat.mul_pos d0 (Nat.pow_pos n0)) lb (by omega) (h3 _ (List.mem_range.mpr lr))
      exact ⟨k + 1, g, by omega, .step k a b g (pt_okM ca cb hl hb0 m0 d0 n0 e0 h1 h2 (by omega)) he, hg⟩
theorem monic_sm {M D : Nat} {g : List Rat} (c : Cd M D g) (h : g ≠ []) (hl : g.getLastD 0 ≠ 0) : SmL (M.log2 + 1) (monic g) := by
  obtain ⟨d, d0, hd, hp⟩ := c
  obtain ⟨L, hL, eL⟩ := hp _ (last_mem h)
  have lt : ∀ z : Int, z.natAbs ≤ M → z.natAbs < 2 ^ (M.log2 + 1) := fun z hz => Nat.lt_of_le_of_lt hz Nat.lt_log2_self
  have dn := cast_ne d0
  have L0 : L ≠ 0 := fun z => by
    rw [z] at eL
    have : g.getLastD 0 * (d : Rat) = 0 := eL
    rcases Rat.mul_eq_zero.mp this with z | z
    · exact hl z
    · exact dn z
  rw [(monic_eq h hl).1]
  intro x hx
  obtain ⟨c, hc, rfl⟩ := List.mem_map.mp hx
  obtain ⟨z, hz, e⟩ := hp c hc
  refine sm_div L0 (z := z) ?_ (lt z hz) (lt L hL)
  have Ln := cast_ne L0
  rw [← e, ← eL]
  grind
theorem shw_monic {g : List Rat} (ht : trimR g = g) (h : Shw g) : ∃ B, 0 < B ∧ B ≤ 1900 ∧ (monic g).length * (2 * B + 3) ≤ 7900 ∧ SmL B (monic g) := by
  by_cases h0 : g = []
  · subst h0
    exact ⟨1, by omega, by omega, by decide, fun c hc => (by cases hc)⟩
  · have hl : g.getLastD 0 ≠ 0 := by
      have := trim_last g (by rw [ht]; exact h0)
      rwa [ht] at this
    obtain ⟨e1, e2, e3, e4⟩ := monic_eq h0 hl
    by_cases h2 : 2 ≤ g.length
    · obtain ⟨M, D, c, a, b⟩ := h h2
      exact ⟨M.log2 + 1, by omega, a, by rw [e4]; exact b, monic_sm c h0 hl⟩
    · have lg := List.length_pos_iff.mpr h0
      obtain ⟨x, hx⟩ := List.length_eq_one_iff.mp (show (monic g).length = 1 by omega)
      rw [hx] at e2 ⊢
      have : x = 1 := by simpa using e2
      subst this
      refine ⟨1, by omega, by omega, by decide, fun c hc => ?_⟩
      rw [List.mem_singleton.mp hc]
      exact ⟨by decide, by decide⟩
/-! ### values of sums and products -/
theorem ev_range0 {x : Rat} : ∀ n, evalL x ((List.range n).map fun _ => (0 : Rat)) = 0
  | 0 => rfl
  | n + 1 => by
    rw [List.range_succ_eq_map, List.map_cons, List.map_map, ev_cons]
    have := ev_range0 (x := x) n
    have e : ((List.range n).map ((fun _ => (0 : Rat)) ∘ Nat.succ)) = (List.range n).map fun _ => (0 : Rat) := rfl
    rw [e, this]
    grind
theorem ev_range_add {x : Rat} : ∀ (n : Nat) (f h : Nat → Rat), evalL x ((List.range n).map fun i => f i + h i) = evalL x ((List.range n).map f) + evalL x ((List.range n).map h)
  | 0, f, h => by
    show (0 : Rat) = 0 + 0
    grind
  | n + 1, f, h => by
    rw [List.range_succ_eq_map, List.map_cons, List.map_map, List.map_cons, List.map_map, List.map_cons, List.map_map, ev_cons, ev_cons, ev_cons]
    have := ev_range_add (x := x) n (f ∘ Nat.succ) (h ∘ Nat.succ)
    have e : ((List.range n).map ((fun i => f i + h i) ∘ Nat.succ)) = (List.range n).map fun i => (f ∘ Nat.succ) i + (h ∘ Nat.succ) i := rfl
    rw [e, this]
    grind
theorem ev_range {x : Rat} : ∀ (n : Nat) (p : List Rat), p.length ≤ n → evalL x ((List.range n).map fun i => p.getD i 0) = evalL x p
  | n, [], _ => by
    have e : ((List.range n).map fun i => ([] : List Rat).getD i 0) = (List.range n).map fun _ => (0 : Rat) := by simp
    rw [e, ev_range0]
    rfl
  | 0, a :: p, h => by simp at h
  | n + 1, a :: p, h => by
    rw [List.range_succ_eq_map, List.map_cons, List.map_map, ev_cons, ev_cons]
    have := ev_range (x := x) n p (by simpa using h)
    have e : ((List.range n).map ((fun i => (a :: p).getD i 0) ∘ Nat.succ)) = (List.range n).map fun i => p.getD i 0 := by
      apply List.map_congr_left
      intro i _
      simp
    rw [e, this]
    simp
theorem ev_addR {x : Rat} {p q : List Rat} : evalL x (addR p q) = evalL x p + evalL x q := by
  unfold Std.addR
  rw [ev_range_add, ev_range _ p (by omega), ev_range _ q (by omega)]
theorem take_snoc {l : List Rat} {i : Nat} (h : i < l.length) : l.take (i + 1) = l.take i ++ [l.getD i 0] := by
  rw [List.take_succ, List.getD_eq_getElem?_getD, List.getElem?_eq_getElem h]
  rfl
theorem ev_inner {x p : Rat} {g : Nat} {q acc : List Rat} (h : g + q.length ≤ acc.length) : ∀ j, j ≤ q.length → evalL x (innerR p g q acc j) = evalL x acc + p * x ^ g * evalL x (q.take j)
  | 0, _ => by
    show evalL x acc = _
    rw [List.take_zero, ev_nil]
    grind
  | j + 1, hj => by
    have ih := ev_inner (x := x) (p := p) h j (by omega)
    show evalL x ((innerR p g q acc j).set (g + j) ((innerR p g q acc j).getD (g + j) 0 + p * q.getD j 0)) = _
    rw [ev_set _ _ _ (by rw [inner_len]; omega), ih, take_snoc (by omega), ev_snoc, List.length_take, Nat.min_eq_left (by omega), pow_add]
    grind
theorem ev_outer {x : Rat} {p q : List Rat} : ∀ i, i ≤ p.length → evalL x (outerR p q i) = evalL x (p.take i) * evalL x q
  | 0, _ => by
    show evalL x (List.replicate _ 0) = _
    have e : (List.replicate (p.length + q.length) (0 : Rat)) = (List.range (p.length + q.length)).map fun _ => (0 : Rat) := by
      rw [List.map_const', List.length_range]
    rw [e, ev_range0, List.take_zero, ev_nil]
    grind
  | i + 1, hi => by
    have ih := ev_outer (x := x) (p := p) (q := q) i (by omega)
    show evalL x (innerR (p.getD i 0) i q (outerR p q i) q.length) = _
    rw [ev_inner (by rw [outer_len]; omega) _ (Nat.le_refl _), ih, List.take_length, take_snoc (by omega), ev_snoc, List.length_take, Nat.min_eq_left (by omega)]
    grind
theorem ev_mulR {x : Rat} {p q : List Rat} : evalL x (mulR p q) = evalL x p * evalL x q := by
  unfold Std.mulR
  rw [ev_outer _ (Nat.le_refl _), List.take_length]
/-- how often times the second, the rest put to it: the first -/
theorem parted_back {a b : List Rat} (ha : trimR a = a) (hb : b ≠ []) (hl : b.getLastD 0 ≠ 0) : trimR (addR (trimR (mulR (quoR a b) b)) (remR a b)) = a := by
  refine same _ _ (trim_trim _) ha fun x => ?_
  rw [ev_trim, ev_addR, ev_trim, ev_mulR, ev_parted (x := x) (a := a) hb hl]
  grind
/-! ### sizes of products by common denominators -/
theorem cd_getD {M D : Nat} {p : List Rat} (h : Cd M D p) : ∃ d : Int, d ≠ 0 ∧ d.natAbs ≤ D ∧ ∀ i, ∃ z : Int, z.natAbs ≤ M ∧ p.getD i 0 * (d : Rat) = (z : Rat) := by
  obtain ⟨d, d0, hd, hp⟩ := h
  refine ⟨d, d0, hd, fun i => ?_⟩
  rcases getD_mem (p := p) (i := i) with h | h
  · exact hp _ h
  · exact ⟨0, by omega, by rw [h]; grind⟩
theorem cd_mul {M D Mb Db : Nat} {p q : List Rat} (hp : Cd M D p) (hq : Cd Mb Db q) : Cd (p.length * (M * Mb)) (D * Db) (mulR p q) := by
  obtain ⟨d, d0, hd, cp⟩ := cd_getD hp
  obtain ⟨e, e0, he, cq⟩ := cd_getD hq
  have key : ∀ (b g : Nat) (y : Rat) (acc : List Rat), (∃ z : Int, z.natAbs ≤ M ∧ y * (d : Rat) = (z : Rat)) → (∀ k, ∃ z : Int, z.natAbs ≤ b ∧ acc.getD k 0 * ((d * e : Int) : Rat) = (z : Rat)) →
      ∀ j, (∀ k, k < g + j → ∃ z : Int, z.natAbs ≤ b + M * Mb ∧ (innerR y g q acc j).getD k 0 * ((d * e : Int) : Rat) = (z : Rat)) ∧ (∀ k, g + j ≤ k → ∃ z : Int, z.natAbs ≤ b ∧ (innerR y g q acc j).getD k 0 * ((d * e : Int) : Rat) = (z : Rat)) := by
    intro b g y acc hy h j
    induction j with
    | zero => exact ⟨fun k _ => let ⟨z, h1, h2⟩ := h k; ⟨z, by omega, h2⟩, fun k _ => h k⟩
    | succ j ih =>
      obtain ⟨i1, i2⟩ := ih
      have e1 : innerR y g q acc (j + 1) = (innerR y g q acc j).set (g + j) ((innerR y g q acc j).getD (g + j) 0 + y * q.getD j 0) := rfl
      refine ⟨fun k hk => ?_, fun k hk => ?_⟩
      · rw [e1, Std.gd_set]
        split
        · rename_i hh
          obtain ⟨z1, h1, h2⟩ := i2 (g + j) (Nat.le_refl _)
          obtain ⟨z2, h3, h4⟩ := hy
          obtain ⟨z3, h5, h6⟩ := cq j
          refine ⟨z1 + z2 * z3, ?_, ?_⟩
          · have := Nat.mul_le_mul h3 h5
            have h7 := Int.natAbs_add_le z1 (z2 * z3)
            rw [Int.natAbs_mul] at h7
            omega
          · have hd : ((d * e : Int) : Rat) = (d : Rat) * (e : Rat) := Rat.intCast_mul d e
            have hz : ((z2 * z3 : Int) : Rat) = (z2 : Rat) * (z3 : Rat) := Rat.intCast_mul z2 z3
            rw [Rat.intCast_add, ← h2, hz, ← h4, ← h6, hd]
            grind
        · by_cases hlt : k < g + j
          · exact i1 k hlt
          · obtain ⟨z, h1, h2⟩ := i2 k (by omega)
            exact ⟨z, by omega, h2⟩
      · rw [e1, Std.gd_set, if_neg (by omega)]
        exact i2 k (by omega)
  have out : ∀ i k, ∃ z : Int, z.natAbs ≤ i * (M * Mb) ∧ (outerR p q i).getD k 0 * ((d * e : Int) : Rat) = (z : Rat) := by
    intro i
    induction i with
    | zero =>
      intro k
      have e : (outerR p q 0).getD k 0 = 0 := by
        show (List.replicate _ 0).getD k 0 = 0
        rw [List.getD_eq_getElem?_getD, List.getElem?_replicate]
        split <;> rfl
      exact ⟨0, by omega, by rw [e]; grind⟩
    | succ i ih =>
      intro k
      obtain ⟨k1, k2⟩ := key (i * (M * Mb)) i (p.getD i 0) (outerR p q i) (cp i) ih q.length
      rw [Nat.add_mul, Nat.one_mul]
      by_cases hk : k < i + q.length
      · exact k1 k hk
      · obtain ⟨z, h1, h2⟩ := k2 k (by omega)
        exact ⟨z, by omega, h2⟩
  refine ⟨d * e, Int.mul_ne_zero d0 e0, by rw [Int.natAbs_mul]; exact Nat.mul_le_mul hd he, fun c hc => ?_⟩
  obtain ⟨k, hk, rfl⟩ := List.getElem_of_mem hc
  rw [← Std.gd_in hk]
  exact out _ k
/-- twelfths -/
def Tw (q : Rat) : Prop := ∃ z : Int, z.natAbs ≤ 72 ∧ q * ((12 : Int) : Rat) = (z : Rat)
def TwL (p : List Rat) : Prop := ∀ c : Rat, c ∈ p → Tw c
theorem tw_cd {p : List Rat} (h : ∀ c ∈ p, Tw c) : Cd 72 12 p := ⟨12, by decide, by decide, h⟩
theorem tw_of {t low : Int} (ht : t.natAbs ≤ 6) (h1 : 1 ≤ low) (h2 : low ≤ 4) : Tw (Rat.divInt t low) := by
  have : low = 1 ∨ low = 2 ∨ low = 3 ∨ low = 4 := by omega
  rcases this with rfl | rfl | rfl | rfl
  · exact ⟨12 * t, by omega, by rw [Rat.divInt_eq_div, Rat.intCast_mul]; grind⟩
  · exact ⟨6 * t, by omega, by rw [Rat.divInt_eq_div, Rat.intCast_mul]; grind⟩
  · exact ⟨4 * t, by omega, by rw [Rat.divInt_eq_div, Rat.intCast_mul]; grind⟩
  · exact ⟨3 * t, by omega, by rw [Rat.divInt_eq_div, Rat.intCast_mul]; grind⟩
theorem tw0 : Tw 0 := ⟨0, by decide, Rat.zero_mul _⟩
theorem prod_len {p q : List Rat} : (trimR (mulR p q)).length ≤ p.length + q.length - 1 := by
  by_cases hp : p = []
  · have := nil_of_zero (p := trimR (mulR p q)) (trim_trim _) fun x => by rw [ev_trim, ev_mulR, hp, ev_nil]; grind
    rw [this]
    exact Nat.zero_le _
  by_cases hq : q = []
  · have := nil_of_zero (p := trimR (mulR p q)) (trim_trim _) fun x => by rw [ev_trim, ev_mulR, hq, ev_nil]; grind
    rw [this]
    exact Nat.zero_le _
  obtain ⟨s, h1, _, h3⟩ := prod p q hp hq
  have e : trimR (mulR p q) = trimR s := same _ _ (trim_trim _) (trim_trim _) fun x => by rw [ev_trim, ev_mulR, ev_trim, h3]
  rw [e]
  have := trim_len s
  omega
theorem euc_tops : ∀ la < 9, ∀ lb < 9, (la ≤ 6 ∨ lb ≤ 6) → eucC 14000 9 la lb 31104 144 31104 144 = true := by decide +kernel
end Po
/-! P4: Euclid's way with sizes kept, of both times a third, of both over what parts them. No program here. -/
namespace Po
open Std (evalL trimR Sm SmL addR mulR byR)
open Sp (shr subI stp stps ofts subI_len stp_len stps_len subI_hi ofts_succ ofts_len remR quoR PtOk Euc monic RtOk rtS rtA rtB)
/-! ### lists by their values -/
theorem ev_at0 {c : Rat} {p : List Rat} : evalL 0 (c :: p) = c := by rw [ev_cons]; grind
theorem same_len : ∀ p q : List Rat, p.length = q.length → (∀ x, evalL x p = evalL x q) → p = q
  | [], [], _, _ => rfl
  | [], _ :: _, h, _ => by simp at h
  | _ :: _, [], h, _ => by simp at h
  | a :: p, b :: q, h, e => by
    have h0 : a = b := by
      have := e 0
      rwa [ev_at0, ev_at0] at this
    subst h0
    have hz : ∀ x, evalL x (padd p (pscale (-1) q)) = 0 := ext0 _ _ [0] (Nat.le_refl _) fun x hx => by
      have x0 : x ≠ 0 := fun z => hx (by rw [z]; exact List.mem_singleton.mpr rfl)
      have := e x
      rw [ev_cons, ev_cons] at this
      rw [ev_sub]
      have h2 : x * (evalL x p - evalL x q) = 0 := by grind
      exact (Rat.mul_eq_zero.mp h2).resolve_left x0
    have ih := same_len p q (by simpa using h) fun x => by
      have := hz x
      rw [ev_sub] at this
      grind
    rw [ih]
theorem mul_nil {h q : List Rat} (hl : h.getLastD 0 ≠ 0) (ht : trimR q = q) (e : ∀ x, evalL x h * evalL x q = 0) : q = [] := by
  by_cases hq : q = []
  · exact hq
  · exfalso
    have hh : h ≠ [] := fun z => hl (by rw [z]; rfl)
    obtain ⟨s, s1, s2, s3⟩ := prod h q hh hq
    have ql : q.getLastD 0 ≠ 0 := by
      have := trim_last q (by rw [ht]; exact hq)
      rwa [ht] at this
    have sl : s.getLastD 0 ≠ 0 := by
      rw [s2]
      intro z
      rcases Rat.mul_eq_zero.mp z with z | z
      · exact hl z
      · exact ql z
    have := nil_of_zero (trim_of_last sl) fun x => by rw [s3]; exact e x
    exact sl (by rw [this]; rfl)
/-- what stands times h on either side -/
theorem cancel {h p q : List Rat} (hl : h.getLastD 0 ≠ 0) (e : ∀ x, evalL x h * evalL x p = evalL x h * evalL x q) (x : Rat) : evalL x p = evalL x q := by
  have := mul_nil (q := trimR (padd p (pscale (-1) q))) hl (trim_trim _) fun y => by
    rw [ev_trim, ev_sub]
    have := e y
    grind
  have h2 : evalL x (trimR (padd p (pscale (-1) q))) = 0 := by rw [this]; rfl
  rw [ev_trim, ev_sub] at h2
  grind
theorem last_of {p : List Rat} (ht : trimR p = p) (h : p ≠ []) : p.getLastD 0 ≠ 0 := by
  have := trim_last p (by rw [ht]; exact h)
  rwa [ht] at this
theorem ne_of_last {p : List Rat} (h : p.getLastD 0 ≠ 0) : p ≠ [] := fun z => h (by rw [z]; rfl)
/-- p is h times q, the lengths as they must be -/
structure Mu (h p q : List Rat) : Prop where
  len : p.length + 1 = h.length + q.length
  ev : ∀ x, evalL x p = evalL x h * evalL x q
theorem Mu.last {h p q : List Rat} (m : Mu h p q) (hh : h ≠ []) (hq : q ≠ []) : p.getLastD 0 = h.getLastD 0 * q.getLastD 0 := by
  obtain ⟨s, s1, s2, s3⟩ := prod h q hh hq
  have e : p = s := same_len _ _ (by have := m.len; omega) fun x => by rw [m.ev, s3]
  rw [e, s2]
theorem mu_of {h p q : List Rat} (hl : h.getLastD 0 ≠ 0) (hp : trimR p = p) (hq : trimR q = q) (q0 : q ≠ []) (e : ∀ x, evalL x p = evalL x h * evalL x q) : Mu h p q := by
  obtain ⟨s, s1, s2, s3⟩ := prod h q (ne_of_last hl) q0
  have sl : s.getLastD 0 ≠ 0 := by
    rw [s2]
    intro z
    rcases Rat.mul_eq_zero.mp z with z | z
    · exact hl z
    · exact last_of hq q0 z
  have : p = s := same _ _ hp (trim_of_last sl) fun x => by rw [e, s3]
  exact ⟨by rw [this]; exact s1, e⟩
theorem mu_shr {h b b' r r' : List Rat} (mb : Mu h b b') (mr : Mu h r r') (hl : h.getLastD 0 ≠ 0) (b0 : b' ≠ []) (r0 : r' ≠ []) : shr b r = shr b' r' := by
  unfold shr
  rw [mb.last (ne_of_last hl) b0, mr.last (ne_of_last hl) r0]
  by_cases z : b'.getLastD 0 = 0
  · rw [z, Rat.mul_zero, Rat.div_def, Rat.div_def, Rat.inv_zero, Rat.mul_zero, Rat.mul_zero]
  · grind
theorem mu_stp {h b b' r r' : List Rat} (mb : Mu h b b') (mr : Mu h r r') (hl : h.getLastD 0 ≠ 0) (bl' : b'.getLastD 0 ≠ 0) (hle : b'.length ≤ r'.length) : Mu h (stp b r) (stp b' r') := by
  have b0 := ne_of_last bl'
  have hh := ne_of_last hl
  have lb' := List.length_pos_iff.mpr b0
  have lh := List.length_pos_iff.mpr hh
  have r0 : r' ≠ [] := List.length_pos_iff.mp (by omega)
  have l1 := mb.len
  have l2 := mr.len
  have bl : b.getLastD 0 ≠ 0 := by
    rw [mb.last hh b0]
    intro z
    rcases Rat.mul_eq_zero.mp z with z | z
    · exact hl z
    · exact bl' z
  refine ⟨by rw [stp_len, stp_len]; omega, fun x => ?_⟩
  rw [ev_stp (ne_of_last bl) bl (by omega), ev_stp b0 bl' hle, mu_shr mb mr hl b0 r0, mb.ev, mr.ev, show r.length - b.length = r'.length - b'.length by omega]
  grind
theorem mu_stps {h b b' a a' : List Rat} (mb : Mu h b b') (ma : Mu h a a') (hl : h.getLastD 0 ≠ 0) (bl' : b'.getLastD 0 ≠ 0) : ∀ k, k + b'.length ≤ a'.length + 1 → Mu h (stps b a k) (stps b' a' k)
  | 0, _ => ma
  | k + 1, hk => mu_stp mb (mu_stps mb ma hl bl' k (by omega)) hl bl' (by rw [stps_len]; omega)
theorem mem_trim {c : Rat} : ∀ {p : List Rat}, c ∈ p → c ∈ trimR p ∨ c = 0
  | a :: p, h => by
    rw [trim_cons]
    rcases List.mem_cons.mp h with rfl | h
    · by_cases e : trimR p = []
      · rw [if_pos e]
        by_cases z : c = 0
        · exact .inr z
        · rw [if_neg z]; exact .inl (List.mem_singleton.mpr rfl)
      · rw [if_neg e]; exact .inl List.mem_cons_self
    · rcases mem_trim h with h | h
      · have e : trimR p ≠ [] := fun z => by rw [z] at h; cases h
        rw [if_neg e]
        exact .inl (List.mem_cons_of_mem _ h)
      · exact .inr h
/-! ### quotients: how great -/
theorem quo_len {a b : List Rat} : (quoR a b).length ≤ a.length + 1 - b.length := by
  unfold Sp.quoR
  refine Nat.le_trans (trim_len _) ?_
  rw [List.length_reverse, ofts_len]
  exact Nat.le_refl _
theorem quo_sm {A : Nat} {a b : List Rat} (p : PtOk A a b) : SmL A (quoR a b) := fun c hc => by
  have hc := trim_mem hc
  rw [List.mem_reverse] at hc
  unfold Sp.ofts at hc
  obtain ⟨i, hi, rfl⟩ := List.mem_map.mp hc
  rw [List.mem_range] at hi
  have lb := List.length_pos_iff.mpr p.ne
  exact p.w i (by omega)
/-- p = h q: q is no greater than this -/
theorem fac_sm {t u A : Nat} {h p q : List Rat} (cp : Cb t p) (ch : Cb u h) (hl : h.getLastD 0 ≠ 0) (lp : p.length ≤ 30) (lh : h.length ≤ 30) (e : ∀ x, evalL x p = evalL x h * evalL x q) (hA : t + 31 * (u + 1) + u < A) : SmL A q := by
  have hh := ne_of_last hl
  have l1 := List.length_pos_iff.mpr hh
  have hN : (p.length + 1 - h.length) * (u + 1) ≤ 31 * (u + 1) := Nat.mul_le_mul (by omega) (Nat.le_refl _)
  have po : PtOk A p h := pt_ok cp ch hl hh (by omega) (by omega)
  have eq : trimR q = quoR p h := same _ _ (trim_trim _) quo_trim fun x => by
    rw [ev_trim]
    refine cancel hl (fun y => ?_) x
    rw [← e, ← quo_ev hh hl (.ev q) e y]
  intro c hc
  rcases mem_trim hc with h | rfl
  · rw [eq] at h
    exact quo_sm po c h
  · exact Std.sm0 (by omega)
/-! ### the way, its sizes kept -/
inductive Way (A : Nat) : Nat → List Rat → List Rat → List Rat → Prop
  | nil (a : List Rat) (t : Nat) (c : Cb t a) (ht : t < A) (l : a.length ≤ 20) : Way A 0 a [] a
  | step (n : Nat) (a b g : List Rat) (t u : Nat) (ca : Cb t a) (cb : Cb u b) (bl : b.getLastD 0 ≠ 0) (hA : t + (a.length + 1 - b.length) * (u + 1) + u < A) (la : a.length ≤ 20) (w : Way A n b (remR a b) g) : Way A (n + 1) a b g
theorem Way.euc {A n : Nat} {a b g : List Rat} (w : Way A n a b g) : Euc A n a b g := by
  induction w with
  | nil a t c ht l => exact .nil a (c.sm ht) (by omega)
  | step n a b g t u ca cb bl hA la w ih => exact .step n a b g (pt_ok ca cb bl (ne_of_last bl) hA (by omega)) ih
theorem Way.len {A n : Nat} {a b g : List Rat} (w : Way A n a b g) : a.length ≤ 20 := by
  cases w with
  | nil _ _ _ l => assumption
  | step _ _ _ _ _ _ _ _ _ l _ => assumption
theorem way_ex {A : Nat} : ∀ (n : Nat) (a b : List Rat) (t u : Nat), b.length ≤ n → trimR a = a → trimR b = b → Cb t a → Cb u b → a.length ≤ 20 → b.length ≤ 20 → eucB n a.length b.length t u ≤ A →
    ∃ k g, k ≤ n ∧ Way A k a b g ∧ (2 ≤ g.length → Cb (eucG n a.length b.length t u) g)
  | 0, a, b, t, u, hn, ha, hb, ca, cb, la, lb, hA => by
    have : b = [] := List.eq_nil_of_length_eq_zero (by omega)
    subst this
    have hA' : t + u + 1 ≤ A := hA
    refine ⟨0, a, Nat.le_refl _, .nil a t ca (by omega) la, fun h2 => ?_⟩
    show Cb (if 2 ≤ a.length then t else 0) a
    rw [if_pos h2]
    exact ca
  | n + 1, a, b, t, u, hn, ha, hb, ca, cb, la, lb, hA => by
    by_cases hb0 : b = []
    · subst hb0
      have hA' : t + u + 1 ≤ A := by
        have : eucB (n + 1) a.length 0 t u = t + u + 1 := if_pos rfl
        rw [show ([] : List Rat).length = 0 from rfl, this] at hA
        exact hA
      refine ⟨0, a, Nat.zero_le _, .nil a t ca (by omega) la, fun h2 => ?_⟩
      show Cb (if 0 = 0 then (if 2 ≤ a.length then t else 0) else _) a
      rw [if_pos rfl, if_pos h2]
      exact ca
    · have lb0 := List.length_pos_iff.mpr hb0
      have hl := last_of hb hb0
      have eB : eucB (n + 1) a.length b.length t u = max (rB a.length b.length t u + u + 1) ((List.range b.length).foldl (fun m l => max m (eucB n b.length l u (rB a.length b.length t u))) 0) := if_neg (by omega)
      have eG : eucG (n + 1) a.length b.length t u = (List.range b.length).foldl (fun m l => max m (eucG n b.length l u (rB a.length b.length t u))) 0 := if_neg (by omega)
      rw [eB] at hA
      have lr := rem_len (a := a) hb0
      have mem : (remR a b).length ∈ List.range b.length := List.mem_range.mpr lr
      have f1 := (fold_le (f := fun l => eucB n b.length l u (rB a.length b.length t u)) (List.range b.length) 0).2 _ mem
      have f2 := (fold_le (f := fun l => eucG n b.length l u (rB a.length b.length t u)) (List.range b.length) 0).2 _ mem
      obtain ⟨k, g, hk, he, hg⟩ := way_ex (A := A) n b (remR a b) u (rB a.length b.length t u) (by omega) hb rem_trim cb (cb_rem ca cb hl hb0) lb (by omega) (by omega)
      refine ⟨k + 1, g, by omega, .step k a b g t u ca cb hl (by unfold rB at hA; omega) la he, fun h2 => ?_⟩
      rw [eG]
      exact (hg h2).up f2
/-- a rest, by what it must be -/
theorem rem_unique {a b r : List Rat} {w : Rat → Rat} (bl : b.getLastD 0 ≠ 0) (hr : trimR r = r) (lr : r.length < b.length) (hw : Pf w) (e : ∀ x, evalL x a = evalL x b * w x + evalL x r) : remR a b = r := by
  obtain ⟨v, hv⟩ := hw
  have b0 := ne_of_last bl
  have l2 := rem_len (a := a) b0
  have hz := short0 (h := b) (r := padd (remR a b) (pscale (-1) r)) (w := padd v (pscale (-1) (quoR a b))) b0 bl (by rw [padd_len]; simp [pscale]; omega) fun x => by
    rw [ev_sub, ev_sub, ← hv]
    have h1 := e x
    have h2 := ev_parted (x := x) (a := a) b0 bl
    grind
  refine same _ _ rem_trim hr fun x => ?_
  have := hz x
  rw [ev_sub] at this
  grind
/-! ### both times a third -/
/-- a product, trimmed -/
def mulT (p q : List Rat) : List Rat := trimR (mulR p q)
theorem ev_mulT {x : Rat} {p q : List Rat} : evalL x (mulT p q) = evalL x p * evalL x q := by rw [mulT, ev_trim, ev_mulR]
theorem mulT_trim {p q : List Rat} : trimR (mulT p q) = mulT p q := trim_trim _
theorem mulT_comm (p q : List Rat) : mulT p q = mulT q p := same _ _ mulT_trim mulT_trim fun x => by rw [ev_mulT, ev_mulT]; grind
theorem mulT_nil {p : List Rat} : mulT [] p = [] := nil_of_zero mulT_trim fun x => by rw [ev_mulT, ev_nil]; grind
theorem cb_mul {t u : Nat} {p q : List Rat} (cp : Cb t p) (cq : Cb u q) (lp : p.length ≤ 32) : Cb (t + u + 5) (mulT p q) := by
  refine ((cd_mul cp cq).up ?_ ?_).sub fun c hc => trim_mem hc
  · rw [← Nat.pow_add]
    refine Nat.le_trans (Nat.mul_le_mul lp (Nat.le_refl _)) (Nat.le_of_eq ?_)
    rw [Nat.pow_add 2 (t + u) 5, Nat.mul_comm]
  · rw [← Nat.pow_add]
    exact Nat.pow_le_pow_right (by omega) (by omega)
theorem mu_mul {p q : List Rat} (hp : p.getLastD 0 ≠ 0) (hq : q.getLastD 0 ≠ 0) : Mu p (mulT p q) q := mu_of hp mulT_trim (trim_of_last hq) (ne_of_last hq) fun x => ev_mulT
theorem mul_last {p q : List Rat} (hp : p.getLastD 0 ≠ 0) (hq : q.getLastD 0 ≠ 0) : (mulT p q).getLastD 0 = p.getLastD 0 * q.getLastD 0 := (mu_mul hp hq).last (ne_of_last hp) (ne_of_last hq)
theorem mul_last0 {p q : List Rat} (hp : p.getLastD 0 ≠ 0) (hq : q.getLastD 0 ≠ 0) : (mulT p q).getLastD 0 ≠ 0 := by
  rw [mul_last hp hq]
  intro z
  rcases Rat.mul_eq_zero.mp z with z | z
  · exact hp z
  · exact hq z
theorem rem_mul {a b c : List Rat} (bl : b.getLastD 0 ≠ 0) (cl : c.getLastD 0 ≠ 0) : remR (mulT a c) (mulT b c) = mulT (remR a b) c := by
  have b0 := ne_of_last bl
  refine rem_unique (mul_last0 bl cl) mulT_trim ?_ (.ev (quoR a b)) fun x => ?_
  · have l1 := prod_len (p := remR a b) (q := c)
    have l2 := (mu_mul bl cl).len
    have l3 := rem_len (a := a) b0
    have l4 := List.length_pos_iff.mpr (ne_of_last cl)
    unfold mulT at l2 ⊢
    omega
  · rw [ev_mulT, ev_mulT, ev_mulT, ev_parted (x := x) (a := a) b0 bl]
    grind
theorem way_up {A n s : Nat} {a b g c : List Rat} (w : Way A n a b g) (cl : c.getLastD 0 ≠ 0) (cc : Cb s c) (lc : c.length ≤ 4) (la : a.length ≤ 16) (lb : b.length ≤ 16) : Way (A + 25 * (s + 6)) n (mulT a c) (mulT b c) (mulT g c) := by
  induction w with
  | nil a t ca ht l =>
    rw [mulT_nil]
    have := prod_len (p := a) (q := c)
    exact .nil _ (t + s + 5) (cb_mul ca cc (by omega)) (by omega) (by unfold mulT; omega)
  | step n a b g t u ca cb bl hA la' w ih =>
    have l1 := prod_len (p := a) (q := c)
    have l2 := (mu_mul bl cl).len
    have b0 := ne_of_last bl
    have lb0 := List.length_pos_iff.mpr b0
    have lc0 := List.length_pos_iff.mpr (ne_of_last cl)
    have ih' := ih lb (by have := rem_len (a := a) b0; omega)
    rw [← rem_mul bl cl] at ih'
    have hN : ((mulT a c).length + 1 - (mulT b c).length) * (u + s + 5 + 1) ≤ (a.length + 1 - b.length) * (u + s + 5 + 1) := Nat.mul_le_mul (by unfold mulT at l2 ⊢; omega) (Nat.le_refl _)
    have hN2 : (a.length + 1 - b.length) * (s + 5) ≤ 17 * (s + 5) := Nat.mul_le_mul (by omega) (Nat.le_refl _)
    have hN3 : (a.length + 1 - b.length) * (u + s + 5 + 1) = (a.length + 1 - b.length) * (u + 1) + (a.length + 1 - b.length) * (s + 5) := by rw [← Nat.mul_add]; congr 1; omega
    exact .step n _ _ _ (t + s + 5) (u + s + 5) (cb_mul ca cc (by omega)) (cb_mul cb cc (by omega)) (mul_last0 bl cl) (by omega) (by unfold mulT; omega) ih'
/-! ### both over what parts them -/
theorem way_down {A n s : Nat} {a b g h : List Rat} (w : Way A n a b g) (hl : h.getLastD 0 ≠ 0) (ch : Cb s h) (lh : h.length ≤ 20) : ∀ {a' b' : List Rat}, trimR a = a → trimR b = b → trimR a' = a' → trimR b' = b' → (∀ x, evalL x a = evalL x h * evalL x a') → (∀ x, evalL x b = evalL x h * evalL x b') → a'.length ≤ 20 →
    ∃ g', Euc (A + 31 * (s + 1) + s + 1) n a' b' g' ∧ trimR g' = g' ∧ ∀ x, evalL x g = evalL x h * evalL x g' := by
  induction w with
  | nil a t c ht l =>
    intro a' b' ha hb ha' hb' ea eb la'
    have : b' = [] := mul_nil hl hb' fun x => by rw [← eb, ev_nil]
    subst this
    exact ⟨a', .nil a' (fac_sm c ch hl (by omega) (by omega) ea (by omega)) (by omega), ha', ea⟩
  | step n a b g t u ca cb bl hA la w ih =>
    intro a' b' ha hb ha' hb' ea eb la'
    have b0 := ne_of_last bl
    have hh := ne_of_last hl
    have b0' : b' ≠ [] := fun z => b0 (nil_of_zero hb fun x => by rw [eb, z, ev_nil]; grind)
    have bl' := last_of hb' b0'
    have mb := mu_of hl hb hb' b0' eb
    have lb' := List.length_pos_iff.mpr b0'
    have lb := List.length_pos_iff.mpr b0
    have lh0 := List.length_pos_iff.mpr hh
    have l1 := mb.len
    have lr' := rem_len (a := a') b0'
    have er : remR a b = mulT h (remR a' b') := rem_unique bl mulT_trim (by have := prod_len (p := h) (q := remR a' b'); unfold mulT; omega) (.ev (quoR a' b')) fun x => by
      rw [ev_mulT, ea, eb, ev_parted (x := x) (a := a') b0' bl']
      grind
    have ub : u < A := by omega
    have bN : ∀ k, k ≤ a.length + 1 - b.length → t + k * (u + 1) < A := fun k hk => by
      have := Nat.mul_le_mul hk (Nat.le_refl (u + 1))
      omega
    have lwb := w.len
    have po : PtOk (A + 31 * (s + 1) + s + 1) a' b' := by
      by_cases a0' : a' = []
      · subst a0'
        refine ⟨?_, b0', bl', fun k hk => ?_, fun k hk => ?_, by simp⟩
        · exact fac_sm cb ch hl (by omega) (by omega) eb (by omega)
        · have : k = 0 := by rw [List.length_nil] at hk; omega
          subst this
          exact fun c hc => by cases hc
        · rw [List.length_nil] at hk
          omega
      · have a0 : a ≠ [] := fun z => a0' (mul_nil hl ha' fun x => by rw [← ea, z, ev_nil])
        have ma := mu_of hl ha ha' a0' ea
        have l2 := ma.len
        refine ⟨?_, b0', bl', fun k hk => ?_, fun k hk => ?_, by omega⟩
        · exact fac_sm cb ch hl (by omega) (by omega) eb (by omega)
        · have m := mu_stps mb ma hl bl' k hk
          have := bN k (by omega)
          exact fac_sm (cb_stps ca cb bl b0 k (by omega)) ch hl (by rw [stps_len]; omega) (by omega) m.ev (by omega)
        · have m := mu_stps mb ma hl bl' k (by omega)
          have r0 : stps b' a' k ≠ [] := List.length_pos_iff.mp (by rw [stps_len]; omega)
          rw [← mu_shr mb m hl b0' r0]
          have pk : PtOk A a b := pt_ok ca cb bl b0 hA (by omega)
          exact (pk.w k (by omega)).up (by omega)
    have lbb : b'.length ≤ 20 := by omega
    obtain ⟨g', hg, tg, eg⟩ := ih hb rem_trim hb' (rem_trim (a := a') (b := b')) eb (fun x => by rw [er, ev_mulT]) lbb
    exact ⟨g', .step n a' b' g' po hg, tg, eg⟩
end Po
/-! P5: ratios of polynomials in lowest terms. No program here. -/
namespace Po
open Std (evalL trimR Sm SmL addR mulR byR)
open Sp (shr subI stp stps ofts subI_len stp_len stps_len subI_hi ofts_succ ofts_len remR quoR PtOk Euc monic RtOk rtS rtA rtB)
theorem smL_up {A B : Nat} {p : List Rat} (h : SmL A p) (l : A ≤ B) : SmL B p := fun c hc => (h c hc).up l
theorem ptok_up {A B : Nat} {a b : List Rat} (p : PtOk A a b) (l : A ≤ B) : PtOk B a b :=
  ⟨smL_up p.sb l, p.ne, p.la, fun k hk => smL_up (p.z k hk) l, fun k hk => (p.w k hk).up l, p.len⟩
theorem euc_up {A B n : Nat} {a b g : List Rat} (e : Euc A n a b g) (l : A ≤ B) : Euc B n a b g := by
  induction e with
  | nil a h la => exact .nil a (smL_up h l) la
  | step n a b g p h ih => exact .step n a b g (ptok_up p l) ih
theorem Way.trim {A n : Nat} {a b g : List Rat} (w : Way A n a b g) (ha : trimR a = a) (hb : trimR b = b) : trimR g = g := euc_last w.euc ha hb
theorem Way.g0 {A n : Nat} {a b g : List Rat} (w : Way A n a b g) (hb : trimR b = b) (b0 : b ≠ []) : g ≠ [] := fun z => by
  obtain ⟨_, t, _, e⟩ := euc_div w.euc
  exact b0 (nil_of_zero hb fun x => by rw [e, z, ev_nil]; grind)
/-! ### monic -/
theorem ev_monic {g : List Rat} (hg : trimR g = g) (x : Rat) : evalL x g = g.getLastD 0 * evalL x (monic g) := by
  by_cases h : g = []
  · subst h
    show (0 : Rat) = 0 * _
    grind
  · have l := last_of hg h
    rw [(monic_eq h l).1, ev_scale]
    grind
theorem monic_trim (g : List Rat) : trimR (monic g) = monic g := by
  unfold Sp.monic
  split
  · rfl
  · exact trim_trim _
theorem monic_mul {g c : List Rat} (hg : trimR g = g) (hc : trimR c = c) : monic (mulT g c) = mulT (monic g) (monic c) := by
  by_cases g0 : g = []
  · rw [g0, mulT_nil]
    show [] = mulT [] _
    rw [mulT_nil]
  by_cases c0 : c = []
  · rw [c0, mulT_comm, mulT_nil, mulT_comm]
    show [] = mulT [] _
    rw [mulT_nil]
  have gl := last_of hg g0
  have cl := last_of hc c0
  refine same _ _ (monic_trim _) mulT_trim fun x => ?_
  have l := mul_last gl cl
  have ln := mul_last0 gl cl
  have e := ev_monic (mulT_trim (p := g) (q := c)) x
  have e1 := ev_monic hg x
  have e2 := ev_monic hc x
  rw [ev_mulT] at e ⊢
  rw [e1, e2, l] at e
  rw [l] at ln
  grind
theorem monic_one {g : List Rat} (h : g.length = 1) (hl : g.getLastD 0 ≠ 0) : monic g = [1] := by
  have g0 : g ≠ [] := fun z => by rw [z] at h; cases h
  obtain ⟨_, e2, _, e4⟩ := monic_eq g0 hl
  obtain ⟨x, hx⟩ := List.length_eq_one_iff.mp (e4.trans h)
  rw [hx] at e2 ⊢
  have : x = 1 := by simpa using e2
  rw [this]
theorem cb_monic {s : Nat} {g : List Rat} (hg : trimR g = g) (h : 2 ≤ g.length → Cb s g) : Cb s (monic g) := by
  by_cases g0 : g = []
  · subst g0
    exact ⟨1, by decide, Nat.one_le_two_pow, fun c hc => by cases hc⟩
  have gl := last_of hg g0
  by_cases h2 : 2 ≤ g.length
  · obtain ⟨d, d0, hd, hp⟩ := h h2
    obtain ⟨L, hL, eL⟩ := hp _ (last_mem g0)
    have dn := cast_ne d0
    have L0 : L ≠ 0 := fun z => by
      rw [z] at eL
      have : g.getLastD 0 * (d : Rat) = 0 := eL
      rcases Rat.mul_eq_zero.mp this with z | z
      · exact gl z
      · exact dn z
    refine ⟨L, L0, hL, fun x hx => ?_⟩
    rw [(monic_eq g0 gl).1] at hx
    obtain ⟨c, hc, rfl⟩ := List.mem_map.mp hx
    obtain ⟨z, hz, e⟩ := hp c hc
    refine ⟨z, hz, ?_⟩
    rw [← e, ← eL]
    grind
  · have lg := List.length_pos_iff.mpr g0
    rw [monic_one (by omega) gl]
    exact ⟨1, by decide, Nat.one_le_two_pow, fun c hc => ⟨1, Nat.one_le_two_pow, by rw [List.mem_singleton.mp hc, Rat.one_mul]⟩⟩
theorem cb_scale {s u : Nat} {p b : List Rat} (cp : Cb s p) (cb : Cb u b) (b0 : b ≠ []) : Cb (s + u) (pscale (b.getLastD 0) p) := by
  obtain ⟨d, d0, hd, hp⟩ := cp
  obtain ⟨e, e0, he, hq⟩ := cb
  obtain ⟨L, hL, eL⟩ := hq _ (last_mem b0)
  refine ⟨d * e, Int.mul_ne_zero d0 e0, by rw [Int.natAbs_mul, Nat.pow_add]; exact Nat.mul_le_mul hd he, fun x hx => ?_⟩
  obtain ⟨c, hc, rfl⟩ := List.mem_map.mp hx
  obtain ⟨z, hz, e3⟩ := hp c hc
  refine ⟨L * z, by rw [Int.natAbs_mul, Nat.pow_add, Nat.mul_comm]; exact Nat.mul_le_mul hz hL, ?_⟩
  have h1 : ((d * e : Int) : Rat) = (d : Rat) * (e : Rat) := Rat.intCast_mul d e
  have h2 : ((L * z : Int) : Rat) = (L : Rat) * (z : Rat) := Rat.intCast_mul L z
  rw [h1, h2, ← e3, ← eL]
  grind
/-! ### what both are over -/
def hR (b g : List Rat) : List Rat := pscale (b.getLastD 0) (monic g)
theorem hR_last {b g : List Rat} (hg : trimR g = g) (g0 : g ≠ []) : (hR b g).getLastD 0 = b.getLastD 0 := by
  unfold hR
  rw [last_scale, (monic_eq g0 (last_of hg g0)).2.1]
  grind
theorem hR_len {b g : List Rat} (hg : trimR g = g) (g0 : g ≠ []) : (hR b g).length = g.length := by
  unfold hR
  rw [show (pscale (b.getLastD 0) (monic g)).length = (monic g).length by simp [pscale], (monic_eq g0 (last_of hg g0)).2.2.2]
/-- what is known of a ratio -/
structure RtV (a b g : List Rat) : Prop where
  ta : trimR (rtA a b g) = rtA a b g
  tb : trimR (rtB b g) = rtB b g
  one : (rtB b g).getLastD 0 = 1
  ea : ∀ x, evalL x a = evalL x (hR b g) * evalL x (rtA a b g)
  eb : ∀ x, evalL x b = evalL x (hR b g) * evalL x (rtB b g)
  hl : (hR b g).getLastD 0 ≠ 0
theorem rt_vals {a b g : List Rat} (ha : trimR a = a) (hb : trimR b = b) (b0 : b ≠ []) (hg : trimR g = g) (g0 : g ≠ []) (da : ∃ s, Pf s ∧ ∀ x, evalL x a = evalL x g * s x) (db : ∃ s, Pf s ∧ ∀ x, evalL x b = evalL x g * s x) : RtV a b g ∧ quoR b (monic g) ≠ [] ∧ (quoR b (monic g)).getLastD 0 ≠ 0 := by
  have gl := last_of hg g0
  have bl := last_of hb b0
  obtain ⟨m1, m2, m3, m4⟩ := monic_eq g0 gl
  have ml : (monic g).getLastD 0 ≠ 0 := by rw [m2]; decide
  have q : ∀ p : List Rat, (∃ s, Pf s ∧ ∀ x, evalL x p = evalL x g * s x) → ∀ x, evalL x p = evalL x (monic g) * evalL x (quoR p (monic g)) := by
    rintro p ⟨s, hs, e⟩ x
    refine quo_ev m3 ml (w := fun x => g.getLastD 0 * s x) (.mul (.const _) hs) (fun y => ?_) x
    rw [e, ev_monic hg y]
    grind
  have qa := q a da
  have qb := q b db
  have q0 : quoR b (monic g) ≠ [] := fun z => b0 (nil_of_zero hb fun x => by rw [qb, z, ev_nil]; grind)
  have ql := last_of quo_trim q0
  have el : b.getLastD 0 = (quoR b (monic g)).getLastD 0 := by
    rw [(mu_of ml hb quo_trim q0 qb).last m3 q0, m2]
    grind
  have ev : ∀ (p : List Rat) x, evalL x (trimR (byR p (rtS b g))) = rtS b g * evalL x p := fun p x => by rw [ev_trim, byR_scale, ev_scale]
  have es : rtS b g * b.getLastD 0 = 1 := by
    unfold Sp.rtS
    rw [← el]
    grind
  have eB : rtB b g = pscale (rtS b g) (quoR b (monic g)) := by
    unfold Sp.rtB
    rw [byR_scale]
    refine trim_of_last ?_
    rw [last_scale, ← el, es]
    decide
  refine ⟨⟨trim_trim _, trim_trim _, ?_, fun x => ?_, fun x => ?_, ?_⟩, q0, ql⟩
  · rw [eB, last_scale, ← el, es]
  · unfold Sp.rtA hR
    rw [ev, ev_scale, qa]
    grind
  · unfold Sp.rtB hR
    rw [ev, ev_scale, qb]
    grind
  · rw [hR_last hg g0]
    exact bl
theorem rt_ok {A n s : Nat} {a b g : List Rat} (w : Way A n a b g) (hn : n < 100000) (ha : trimR a = a) (hb : trimR b = b) (b0 : b ≠ []) (cm : Cb s (monic g)) : RtOk (A + 31 * (s + 1) + s + 1) a b g ∧ RtV a b g := by
  have hg := w.trim ha hb
  have g0 := w.g0 hb b0
  have gl := last_of hg g0
  obtain ⟨m1, m2, m3, m4⟩ := monic_eq g0 gl
  have ml : (monic g).getLastD 0 ≠ 0 := by rw [m2]; decide
  obtain ⟨da, db⟩ := euc_div w.euc
  obtain ⟨v, q0, ql⟩ := rt_vals ha hb b0 hg g0 da db
  have e := euc_up w.euc (show A ≤ A + 31 * (s + 1) + s + 1 by omega)
  cases w with
  | nil _ _ _ _ => exact absurd rfl b0
  | step n _ _ _ t u ca cb bl hA la w =>
    have lb := w.len
    have ub : u < A := by omega
    have tb : t < A := by omega
    have hN : ∀ k, k ≤ 20 → (k + 1 - (monic g).length) * (s + 1) ≤ 31 * (s + 1) := fun k hk => Nat.mul_le_mul (by omega) (Nat.le_refl _)
    have pa := pt_ok (A := A + 31 * (s + 1) + s + 1) ca cm ml m3 (by have := hN _ la; omega) (by omega)
    have pb := pt_ok (A := A + 31 * (s + 1) + s + 1) cb cm ml m3 (by have := hN _ lb; omega) (by omega)
    exact ⟨⟨⟨_, hn, e⟩, fun _ => gl, b0, pa, pb, ⟨quo_sm pa, by have := quo_len (a := a) (b := monic g); omega⟩, ⟨quo_sm pb, by have := quo_len (a := b) (b := monic g); omega⟩, q0, ql⟩, v⟩
/-! ### a ratio of what is in lowest terms -/
theorem stp_one {r : List Rat} : stp [1] r = r.dropLast := by
  rcases Std.snoc_or r with rfl | ⟨rs, q, rfl⟩
  · rfl
  · show (((rs ++ [q]).set ((rs ++ [q]).length - 1 + 0) _)).dropLast = _
    rw [List.length_append, List.length_singleton, Nat.add_sub_cancel, Nat.add_zero, List.set_append_right _ _ (Nat.le_refl _), Nat.sub_self, List.set_cons_zero, List.dropLast_concat, List.dropLast_concat]
theorem ptok_one {A : Nat} {p : List Rat} (h : SmL A p) (h0 : 0 < A) (l : p.length ≤ 1000) : PtOk A p [1] := by
  have s1 : Sm A 1 := Sm.up (A := 1) ⟨by decide, by decide⟩ (by omega)
  have z : ∀ k, SmL A (stps [1] p k) := by
    intro k
    induction k with
    | zero => exact h
    | succ k ih =>
      show SmL A (stp [1] (stps [1] p k))
      rw [stp_one]
      exact fun c hc => ih c (List.dropLast_subset _ hc)
  refine ⟨fun c hc => by rw [List.mem_singleton.mp hc]; exact s1, by simp, by simp, fun k _ => z k, fun k _ => ?_, l⟩
  have e : shr [1] (stps [1] p k) = (stps [1] p k).getLastD 0 := by
    unfold Sp.shr
    show _ / (1 : Rat) = _
    grind
  rw [e]
  exact Sp.sm_last (z k) h0
theorem quo_one {p : List Rat} (h : trimR p = p) : quoR p [1] = p := same _ _ quo_trim h fun x => by
  have e1 : evalL x [1] = 1 := by rw [ev_cons, ev_nil]; grind
  have := quo_ev (b := [1]) (a := p) (w := fun x => evalL x p) (by simp) (by simp) (.ev p) (fun y => by
    have e1 : evalL y [1] = 1 := by rw [ev_cons, ev_nil]; grind
    rw [e1]; grind) x
  rw [e1] at this
  grind
theorem by_one {p : List Rat} (h : trimR p = p) : trimR (byR p 1) = p := same _ _ (trim_trim _) h fun x => by rw [ev_trim, byR_scale, ev_scale]; grind
/-- in lowest terms: the common one is 1, the ratio the same -/
theorem low_ratio {A n s : Nat} {a b g : List Rat} (w : Way A n a b g) (hn : n < 100000) (ha : trimR a = a) (hb : trimR b = b) (b0 : b ≠ []) (v : RtV a b g) (ch : Cb s (hR b g)) (l1 : (rtA a b g).length ≤ 20) :
    ∃ g', monic g' = [1] ∧ g' ≠ [] ∧ trimR g' = g' ∧ Euc (A + 31 * (s + 1) + s + 1) n (rtA a b g) (rtB b g) g' ∧ RtOk (A + 31 * (s + 1) + s + 1) (rtA a b g) (rtB b g) g' ∧ rtA (rtA a b g) (rtB b g) g' = rtA a b g ∧ rtB (rtB b g) g' = rtB b g := by
  have hg := w.trim ha hb
  have g0 := w.g0 hb b0
  have gl := last_of hg g0
  have lg : g.length ≤ 20 := by
    have : ∀ {n a b g}, Way A n a b g → g.length ≤ 20 := fun w => by
      induction w with
      | nil _ _ _ _ l => exact l
      | step _ _ _ _ _ _ _ _ _ _ _ _ ih => exact ih
    exact this w
  obtain ⟨g', he, tg', eg⟩ := way_down w v.hl ch (by rw [hR_len hg g0]; exact lg) ha hb v.ta v.tb v.ea v.eb l1
  have g0' : g' ≠ [] := fun z => g0 (nil_of_zero hg fun x => by rw [eg, z, ev_nil]; grind)
  have m := mu_of v.hl hg tg' g0' eg
  have l := m.len
  rw [hR_len hg g0] at l
  have gl' := last_of tg' g0'
  have m1 := monic_one (g := g') (by omega) gl'
  have B0 : rtB b g ≠ [] := fun z => by
    have := v.one
    rw [z] at this
    exact absurd this (by decide)
  have sA : SmL (A + 31 * (s + 1) + s + 1) (rtA a b g) ∧ SmL (A + 31 * (s + 1) + s + 1) (rtB b g) := by
    cases w with
    | nil _ _ _ _ => exact absurd rfl b0
    | step n _ _ _ t u ca cb bl hA la w =>
      have lb := w.len
      have hl := hR_len (b := b) hg g0
      exact ⟨fac_sm ca ch v.hl (by omega) (by omega) v.ea (by omega), fac_sm cb ch v.hl (by omega) (by omega) v.eb (by omega)⟩
  have lB : (rtB b g).length ≤ 20 := by
    have mb := mu_of v.hl hb v.tb B0 v.eb
    have := mb.len
    rw [hR_len hg g0] at this
    have lb : b.length ≤ 20 := by
      cases w with
      | nil _ _ _ _ => simp
      | step n _ _ _ t u ca cb bl hA la w => exact w.len
    have := List.length_pos_iff.mpr g0
    omega
  have qa := quo_one v.ta
  have qb := quo_one v.tb
  have es : rtS (rtB b g) g' = 1 := by
    unfold Sp.rtS
    rw [m1, qb, v.one]
    decide +kernel
  refine ⟨g', m1, g0', tg', he, ⟨⟨n, hn, he⟩, fun _ => gl', B0, ?_, ?_, ?_, ?_, ?_, ?_⟩, ?_, ?_⟩
  · rw [m1]; exact ptok_one sA.1 (by omega) (by omega)
  · rw [m1]; exact ptok_one sA.2 (by omega) (by omega)
  · rw [m1, qa]; exact ⟨sA.1, by omega⟩
  · rw [m1, qb]; exact ⟨sA.2, by omega⟩
  · rw [m1, qb]; exact B0
  · rw [m1, qb, v.one]; decide
  · show trimR (byR (quoR (rtA a b g) (monic g')) (rtS (rtB b g) g')) = _
    rw [es, m1, qa, by_one v.ta]
  · show trimR (byR (quoR (rtB b g) (monic g')) (rtS (rtB b g) g')) = _
    rw [es, m1, qb, by_one v.tb]
/-- both times a third: the same ratio -/
theorem third_ratio {a b g c : List Rat} (hb : trimR b = b) (b0 : b ≠ []) (hg : trimR g = g) (g0 : g ≠ []) (hc : trimR c = c) (c0 : c ≠ []) (v : RtV a b g) (v2 : RtV (mulT a c) (mulT b c) (mulT g c)) : rtA (mulT a c) (mulT b c) (mulT g c) = rtA a b g ∧ rtB (mulT b c) (mulT g c) = rtB b g := by
  have bl := last_of hb b0
  have gl := last_of hg g0
  have cl := last_of hc c0
  have eh : ∀ x, evalL x (hR (mulT b c) (mulT g c)) = evalL x (hR b g) * evalL x c := fun x => by
    unfold hR
    rw [ev_scale, ev_scale, monic_mul hg hc, ev_mulT, mul_last bl cl, ev_monic hc x]
    grind
  refine ⟨same _ _ v2.ta v.ta fun x => cancel v2.hl (fun y => ?_) x, same _ _ v2.tb v.tb fun x => cancel v2.hl (fun y => ?_) x⟩
  · rw [← v2.ea, ev_mulT, v.ea, eh]
    grind
  · rw [← v2.eb, ev_mulT, v.eb, eh]
    grind
end Po
namespace Law
open PySem L2 PyProof.Rows Mi Sp Po
open Std hiding c_over m_over c_fraction m_fraction run_over run_fraction trim_mem
/-! ### the text by its places, the codes of its defs (written by gen.py) -/
def top (i : Nat) : Stmt := PySem.Challenge.pw_wirereckon_k07_whole_polynomials_by_valu.main.body.getD i (.Pass ⟨0, 0, 0, 0⟩)
def bodyAt (st : Stmt) (j : Nat) : Stmt := match st with
  | .ClassDef _ _ _ body _ _ _ _ _ _ _ => body.getD j (.Pass ⟨0, 0, 0, 0⟩)
  | _ => .Pass ⟨0, 0, 0, 0⟩
def s_x_NoPart : Stmt := bodyAt (top 2) 0
-- NOUGHT: of Std
-- ONE: of Std
abbrev s_shared_by : Stmt := top 6
-- shared_by: of Std
abbrev s_plus : Stmt := top 7
-- plus: of Std
abbrev s_minus : Stmt := top 8
-- minus: of Std
abbrev s_times : Stmt := top 9
-- times: of Std
abbrev s_over : Stmt := top 10
-- over: of Std
abbrev s_trimmed : Stmt := top 12
-- trimmed: of Std
abbrev s_part_of : Stmt := top 13
-- part_of: of Std
abbrev s_poly_plus : Stmt := top 14
-- poly_plus: of Std
abbrev s_poly_times : Stmt := top 15
-- poly_times: of Std
abbrev s_poly_by : Stmt := top 16
-- poly_by: of Std
abbrev s_poly_parted : Stmt := top 17
-- poly_parted: of Std
abbrev s_poly_common : Stmt := top 18
-- poly_common: of Std
abbrev s_poly_at : Stmt := top 19
-- poly_at: of Std
abbrev s_ratio : Stmt := top 20
-- ratio: of Std
abbrev s_ratio_at : Stmt := top 21
-- ratio_at: of Std
abbrev s_l_begin : Stmt := top 23
-- l_begin: of Std
abbrev s_l_draw : Stmt := top 24
-- l_draw: of Std
abbrev s_l_shared : Stmt := top 25
-- l_shared: of Std
abbrev s_l_made : Stmt := top 26
-- l_made: of Std
abbrev s_l_whole : Stmt := top 27
-- l_whole: of Std
abbrev s_l_some : Stmt := top 28
-- l_some: of Std
abbrev s_l_small : Stmt := top 29
-- l_small: of Std
abbrev s_l_trim : Stmt := top 30
-- l_trim: of Std
abbrev s_l_poly : Stmt := top 31
-- l_poly: of Std
abbrev s_l_values_right : Stmt := top 32
def c_l_values_right : CB := (bCons (sPar 4 5 (cCall "poly_at" m_poly_at (aCons (cVar 0) (aCons (cVar 2) aNil))) (cCall "poly_at" m_poly_at (aCons (cVar 1) (aCons (cVar 2) aNil))))
  (bCons (sIf (tCmpC .NotEq neD (cCall "poly_at" m_poly_at (aCons (cCall "poly_plus" m_poly_plus (aCons (cVar 0) (aCons (cVar 1) aNil))) (aCons (cVar 2) aNil))) (cCall "plus" m_plus (aCons (cVar 4) (aCons (cVar 5) aNil)))) (bCons (sRet (cBl false))
  bNil) bNil)
  (bCons (sIf (tCmpC .NotEq neD (cCall "poly_at" m_poly_at (aCons (cCall "poly_times" m_poly_times (aCons (cVar 0) (aCons (cVar 1) aNil))) (aCons (cVar 2) aNil))) (cCall "times" m_times (aCons (cVar 4) (aCons (cVar 5) aNil)))) (bCons (sRet (cBl false))
  bNil) bNil)
  (bCons (sIf (wOr (tCmpC .NotEq neD (cCall "poly_at" m_poly_at (aCons (cCall "poly_by" m_poly_by (aCons (cVar 0) (aCons (cVar 5) aNil))) (aCons (cVar 2) aNil))) (cCall "times" m_times (aCons (cVar 4) (aCons (cVar 5) aNil)))) (wOr1 (tCmpC .NotEq neD (cCall "poly_by" m_poly_by (aCons (cVar 0) (aCons (cTup (aCons (cInt 0) (aCons (cInt 1) aNil))) aNil))) (cTup aNil)))) (bCons (sRet (cBl false))
  bNil) bNil)
  (bCons (sIf (tCmpC .Eq eqD (cVar 1) (cTup aNil)) (bCons (sRet (cBl true))
  bNil) bNil)
  (bCons (sAsg (gT (gsCons (gN 6) (gsCons (gN 7) gsNil)) 2) (cCall "poly_parted" m_poly_parted (aCons (cVar 0) (aCons (cVar 1) aNil))))
  (bCons (sIf (wOr (tCmpC .NotEq neD (cCall "plus" m_plus (aCons (cCall "times" m_times (aCons (cCall "poly_at" m_poly_at (aCons (cVar 6) (aCons (cVar 2) aNil))) (aCons (cVar 5) aNil))) (aCons (cCall "poly_at" m_poly_at (aCons (cVar 7) (aCons (cVar 2) aNil))) aNil))) (cVar 4)) (wOr1 (tCmpC .GtE geD (cB "len" lenD (aCons (cVar 7) aNil)) (cB "len" lenD (aCons (cVar 1) aNil))))) (bCons (sRet (cBl false))
  bNil) bNil)
  (bCons (sAsg (gN 3) (cCall "ratio_at" m_ratio_at (aCons (cCall "ratio" m_ratio (aCons (cVar 0) (aCons (cVar 1) aNil))) (aCons (cVar 2) aNil))))
  (bCons (sIf (tCmpC .NotEq neD (cVar 5) (cTup (aCons (cInt 0) (aCons (cInt 1) aNil)))) (bCons (sRet (cCmp .Eq eqD (cVar 3) (cCall "over" m_over (aCons (cVar 4) (aCons (cVar 5) aNil)))))
  bNil) bNil)
  (bCons (sRet (vOr (cCmp .Is isD (cVar 3) cNon) (vOne .Or (cCmp .Eq eqD (cCall "poly_at" m_poly_at (aCons (cCall "poly_common" m_poly_common (aCons (cVar 0) (aCons (cVar 1) aNil))) (aCons (cVar 2) aNil))) (cTup (aCons (cInt 0) (aCons (cInt 1) aNil)))))))
  bNil))))))))))
def m_l_values_right : List D → M D := mir 8 3 c_l_values_right.run
abbrev s_l_ratio_right : Stmt := top 33
def c_l_ratio_right : CB := (bCons (sPar 3 4 (cCall "ratio" m_ratio (aCons (cVar 0) (aCons (cVar 1) aNil))) (cCall "poly_common" m_poly_common (aCons (cVar 0) (aCons (cVar 1) aNil))))
  (bCons (sIf (wOr (tCmpC .NotEq neD (cIx (cCall "poly_parted" m_poly_parted (aCons (cVar 0) (aCons (cVar 4) aNil))) (cInt 1)) (cTup aNil)) (wOr1 (tCmpC .NotEq neD (cIx (cCall "poly_parted" m_poly_parted (aCons (cVar 1) (aCons (cVar 4) aNil))) (cInt 1)) (cTup aNil)))) (bCons (sRet (cBl false))
  bNil) bNil)
  (bCons (sIf (wOr (tCmpC .NotEq neD (cCall "poly_common" m_poly_common (aCons (cIx (cVar 3) (cInt 0)) (aCons (cIx (cVar 3) (cInt 1)) aNil))) (cTup (aCons (cTup (aCons (cInt 1) (aCons (cInt 1) aNil))) aNil))) (wOr1 (tCmpC .NotEq neD (cSlice (cIx (cVar 3) (cInt 1)) (oYes (cNeg (cInt 1))) oNo) (cTup (aCons (cTup (aCons (cInt 1) (aCons (cInt 1) aNil))) aNil))))) (bCons (sRet (cBl false))
  bNil) bNil)
  (bCons (sIf (wOr (tCmpC .NotEq neD (cCall "ratio" m_ratio (aCons (cIx (cVar 3) (cInt 0)) (aCons (cIx (cVar 3) (cInt 1)) aNil))) (cVar 3)) (wOr1 (tCmpC .NotEq neD (cCall "poly_times" m_poly_times (aCons (cIx (cVar 3) (cInt 0)) (aCons (cVar 1) aNil))) (cCall "poly_times" m_poly_times (aCons (cVar 0) (aCons (cIx (cVar 3) (cInt 1)) aNil)))))) (bCons (sRet (cBl false))
  bNil) bNil)
  (bCons (sRet (vOr (cCmp .Eq eqD (cVar 2) (cTup aNil)) (vOne .Or (cCmp .Eq eqD (cCall "ratio" m_ratio (aCons (cCall "poly_times" m_poly_times (aCons (cVar 0) (aCons (cVar 2) aNil))) (aCons (cCall "poly_times" m_poly_times (aCons (cVar 2) (aCons (cVar 1) aNil))) aNil))) (cVar 3)))))
  bNil)))))
def m_l_ratio_right : List D → M D := mir 5 3 c_l_ratio_right.run
abbrev s_l_points : Stmt := top 34
def c_l_points : CB := (bCons (sAsg (gN 2) (cLst (aCons (cTup (aCons (cInt 0) (aCons (cInt 1) aNil))) (aCons (cTup (aCons (cInt 1) (aCons (cInt 1) aNil))) (aCons (cTup (aCons (cNeg (cInt 1)) (aCons (cInt 1) aNil))) (aCons (cCall "_law_small" m_l_small (aCons (cVar 0) aNil)) (aCons (cCall "_law_some" m_l_some (aCons (cVar 0) aNil)) aNil)))))))
  (bCons (sIf (tCmpC .Eq eqD (cB "len" lenD (aCons (cVar 1) aNil)) (cInt 2)) (bCons (sExpr (cM "list" "append" appD (cVar 2) (aCons (cCall "minus" m_minus (aCons (cTup (aCons (cInt 0) (aCons (cInt 1) aNil))) (aCons (cCall "over" m_over (aCons (cIx (cVar 1) (cInt 0)) (aCons (cIx (cVar 1) (cInt 1)) aNil))) aNil))) aNil)))
  bNil) bNil)
  (bCons (sRet (cVar 2))
  bNil)))
def m_l_points : List D → M D := mir 3 2 c_l_points.run
abbrev s_law : Stmt := top 35
def c_law : CB := (bCons (sFor (gN 1) (iR1 (cBin .Add addD (cInt 1) (cB "len" lenD (aCons (cSlice (cVar 0) oNo (oYes (cInt 4))) aNil)))) (bCons (sAsg (gN 2) (cCall "_law_begin" m_l_begin (aCons (cVar 0) (aCons (cVar 1) aNil))))
  (bCons (sFor (gN 3) (iR1 (cInt 6)) (bCons (sAsg2 (gT (gsCons (gN 6) (gsCons (gN 4) (gsCons (gN 7) gsNil))) 3) (cTup (aCons (cCall "_law_poly" m_l_poly (aCons (cVar 2) (aCons (cInt 6) aNil))) (aCons (cCall "_law_poly" m_l_poly (aCons (cVar 2) (aCons (cInt 4) aNil))) (aCons (cCall "_law_poly" m_l_poly (aCons (cVar 2) (aCons (cInt 3) aNil))) aNil)))))
  (bCons (sIf (tCmpC .Eq eqD (cCall "_law_draw" m_l_draw (aCons (cVar 2) (aCons (cInt 2) aNil))) (cInt 0)) (bCons (sAsg2 (gT (gsCons (gN 6) (gsCons (gN 4) gsNil)) 2) (cTup (aCons (cCall "poly_times" m_poly_times (aCons (cVar 6) (aCons (cVar 7) aNil))) (aCons (cCall "poly_times" m_poly_times (aCons (cVar 4) (aCons (cVar 7) aNil))) aNil))))
  bNil) bNil)
  (bCons (sAsg (gN 4) (cIx (cLst (aCons (cVar 4) (aCons (cVar 4) (aCons (cVar 6) (aCons (cTup (aCons (cTup (aCons (cNeg (cInt 1)) (aCons (cInt 2) aNil))) (aCons (cTup (aCons (cInt 1) (aCons (cInt 3) aNil))) aNil))) aNil))))) (cCall "_law_draw" m_l_draw (aCons (cVar 2) (aCons (cInt 4) aNil)))))
  (bCons (sAsg (gN 5) (cBin .Add addD (cCall "_law_points" m_l_points (aCons (cVar 2) (aCons (cVar 4) aNil))) (cCall "_law_points" m_l_points (aCons (cVar 2) (aCons (cVar 7) aNil)))))
  (bCons (sIf (tNotC (tVal (cB "all" allD (aCons (cLc (iA (cVar 5)) (gN 8) fNil (cCall "_law_values_right" m_l_values_right (aCons (cVar 6) (aCons (cVar 4) (aCons (cVar 8) aNil)))) [("_law_point", 8)]) aNil)))) (bCons (sRet (cBl false))
  bNil) bNil)
  (bCons (sIf (wAnd (tCmpC .NotEq neD (cVar 4) (cTup aNil)) (wAnd1 (tNotC (tVal (cCall "_law_ratio_right" m_l_ratio_right (aCons (cVar 6) (aCons (cVar 4) (aCons (cVar 7) aNil)))))))) (bCons (sRet (cBl false))
  bNil) bNil)
  bNil)))))))
  bNil)))
  (bCons (sRet (cBl true))
  bNil))
def m_law : List D → M D := mir 9 1 c_law.run
end Law
namespace Law
open PySem L2 PyProof.Rows Mi Sp Po
open Std hiding c_over m_over c_fraction m_fraction run_over run_fraction trim_mem
structure Tx (K : PySem.W.Frag) (mg : Str → Option Value) : Prop where
  b_abs : mg "abs" = none
  b_all : mg "all" = none
  b_enumerate : mg "enumerate" = none
  b_int : mg "int" = none
  b_len : mg "len" = none
  b_list : mg "list" = none
  b_max : mg "max" = none
  b_range : mg "range" = none
  b_tuple : mg "tuple" = none
  c_NOUGHT : ∃ u, mg "NOUGHT" = some u ∧ CR K k_NOUGHT u
  c_ONE : ∃ u, mg "ONE" = some u ∧ CR K k_ONE u
  d_shared_by : ∃ f fd, Fun K "shared_by" "shared_by" s_shared_by f fd ∧ mg "shared_by" = some (.ref f)
  d_plus : ∃ f fd, Fun K "plus" "plus" s_plus f fd ∧ mg "plus" = some (.ref f)
  d_minus : ∃ f fd, Fun K "minus" "minus" s_minus f fd ∧ mg "minus" = some (.ref f)
  d_times : ∃ f fd, Fun K "times" "times" s_times f fd ∧ mg "times" = some (.ref f)
  d_over : ∃ f fd, Fun K "over" "over" s_over f fd ∧ mg "over" = some (.ref f)
  d_trimmed : ∃ f fd, Fun K "trimmed" "trimmed" s_trimmed f fd ∧ mg "trimmed" = some (.ref f)
  d_part_of : ∃ f fd, Fun K "part_of" "part_of" s_part_of f fd ∧ mg "part_of" = some (.ref f)
  d_poly_plus : ∃ f fd, Fun K "poly_plus" "poly_plus" s_poly_plus f fd ∧ mg "poly_plus" = some (.ref f)
  d_poly_times : ∃ f fd, Fun K "poly_times" "poly_times" s_poly_times f fd ∧ mg "poly_times" = some (.ref f)
  d_poly_by : ∃ f fd, Fun K "poly_by" "poly_by" s_poly_by f fd ∧ mg "poly_by" = some (.ref f)
  d_poly_parted : ∃ f fd, Fun K "poly_parted" "poly_parted" s_poly_parted f fd ∧ mg "poly_parted" = some (.ref f)
  d_poly_common : ∃ f fd, Fun K "poly_common" "poly_common" s_poly_common f fd ∧ mg "poly_common" = some (.ref f)
  d_poly_at : ∃ f fd, Fun K "poly_at" "poly_at" s_poly_at f fd ∧ mg "poly_at" = some (.ref f)
  d_ratio : ∃ f fd, Fun K "ratio" "ratio" s_ratio f fd ∧ mg "ratio" = some (.ref f)
  d_ratio_at : ∃ f fd, Fun K "ratio_at" "ratio_at" s_ratio_at f fd ∧ mg "ratio_at" = some (.ref f)
  d_l_begin : ∃ f fd, Fun K "_law_begin" "_law_begin" s_l_begin f fd ∧ mg "_law_begin" = some (.ref f)
  d_l_draw : ∃ f fd, Fun K "_law_draw" "_law_draw" s_l_draw f fd ∧ mg "_law_draw" = some (.ref f)
  d_l_shared : ∃ f fd, Fun K "_law_shared" "_law_shared" s_l_shared f fd ∧ mg "_law_shared" = some (.ref f)
  d_l_made : ∃ f fd, Fun K "_law_made" "_law_made" s_l_made f fd ∧ mg "_law_made" = some (.ref f)
  d_l_whole : ∃ f fd, Fun K "_law_whole" "_law_whole" s_l_whole f fd ∧ mg "_law_whole" = some (.ref f)
  d_l_some : ∃ f fd, Fun K "_law_some" "_law_some" s_l_some f fd ∧ mg "_law_some" = some (.ref f)
  d_l_small : ∃ f fd, Fun K "_law_small" "_law_small" s_l_small f fd ∧ mg "_law_small" = some (.ref f)
  d_l_trim : ∃ f fd, Fun K "_law_trim" "_law_trim" s_l_trim f fd ∧ mg "_law_trim" = some (.ref f)
  d_l_poly : ∃ f fd, Fun K "_law_poly" "_law_poly" s_l_poly f fd ∧ mg "_law_poly" = some (.ref f)
  d_l_values_right : ∃ f fd, Fun K "_law_values_right" "_law_values_right" s_l_values_right f fd ∧ mg "_law_values_right" = some (.ref f)
  d_l_ratio_right : ∃ f fd, Fun K "_law_ratio_right" "_law_ratio_right" s_l_ratio_right f fd ∧ mg "_law_ratio_right" = some (.ref f)
  d_l_points : ∃ f fd, Fun K "_law_points" "_law_points" s_l_points f fd ∧ mg "_law_points" = some (.ref f)
  d_law : ∃ f fd, Fun K "law" "law" s_law f fd ∧ mg "law" = some (.ref f)
  x_NoPart : ExcK K mg "NoPart" s_x_NoPart "NetError" "self"
abbrev Kn : Kno := fun P _ K mg base => Tx K mg ∧ SysOk P base
theorem kx_NoPart : KExc Kn "NoPart" := ⟨s_x_NoPart, "NetError", "self", ⟨by rfl, ⟨rfl, rfl, rfl, by decide +kernel, rfl, by decide +kernel, by decide +kernel⟩, by decide +kernel, by decide +kernel, by decide +kernel, by decide +kernel⟩, fun _ _ _ _ _ h => h.1.x_NoPart⟩
theorem ig_NOUGHT : IsGlo Kn "NOUGHT" k_NOUGHT := isGlo fun _ _ _ _ _ h => h.1.c_NOUGHT
theorem ig_ONE : IsGlo Kn "ONE" k_ONE := isGlo fun _ _ _ _ _ h => h.1.c_ONE
theorem sc_shared_by : FnScope ["one", "other"] ["one", "other"] (defScope s_shared_by) := ⟨rfl, rfl, rfl, by decide +kernel, rfl, by decide +kernel, by decide +kernel⟩
theorem ok_shared_by : GB Kn 0 c_shared_by := (g_bCons (g_sWhile (g_tcmp ok_ne g_var g_int) (g_bCons (g_sPar g_var (g_bin ok_mod g_var g_var)) g_bNil)) (g_bCons (g_sRet g_var) g_bNil))
theorem ck_shared_by : c_shared_by.chk ⟨["one", "other"], defScope s_shared_by, nlam⟩ (defBody s_shared_by) = true := by decide +kernel
theorem kn_shared_by : Knw Kn "shared_by" ["one", "other"] m_shared_by 1 := fun P w K mg base h => by
  obtain ⟨f, fd, F, hm⟩ := h.1.d_shared_by
  exact ⟨f, fd, fnG (Kn := Kn) F sc_shared_by h h.2 ok_shared_by ck_shared_by, hm, F.kp, F.binds fun _ _ _ _ _ _ us hl => match us, hl with | [_, _], _ => rfl⟩
theorem sc_plus : FnScope ["a", "b", "shared", "top", "more"] ["a", "b"] (defScope s_plus) := ⟨rfl, rfl, rfl, by decide +kernel, rfl, by decide +kernel, by decide +kernel⟩
theorem ok_plus : GB Kn 1 c_plus := (g_bCons (g_sAsg g_gN (g_call (kn_shared_by.up (by decide)) (g_cons (g_ix g_var g_int) (g_cons (g_ix g_var g_int) g_nil)))) (g_bCons (g_sIf (g_tcmp ok_eq g_var g_int) (g_bCons (g_sRet (g_tup (g_cons (g_bin ok_add (g_bin ok_mul (g_ix g_var g_int) (g_ix g_var g_int)) (g_bin ok_mul (g_ix g_var g_int) (g_ix g_var g_int))) (g_cons (g_bin ok_mul (g_ix g_var g_int) (g_ix g_var g_int)) g_nil)))) g_bNil) g_bNil) (g_bCons (g_sAsg g_gN (g_bin ok_add (g_bin ok_mul (g_ix g_var g_int) (g_bin ok_fdiv (g_ix g_var g_int) g_var)) (g_bin ok_mul (g_ix g_var g_int) (g_bin ok_fdiv (g_ix g_var g_int) g_var)))) (g_bCons (g_sAsg g_gN (g_call (kn_shared_by.up (by decide)) (g_cons (g_B ok_abs (fun _ _ _ _ _ h => h.1.b_abs) (by decide +kernel) (by decide) (by decide) (g_cons g_var g_nil)) (g_cons g_var g_nil)))) (g_bCons (g_sRet (g_tup (g_cons (g_bin ok_fdiv g_var g_var) (g_cons (g_bin ok_mul (g_bin ok_fdiv (g_ix g_var g_int) g_var) (g_bin ok_fdiv (g_ix g_var g_int) g_var)) g_nil)))) g_bNil)))))
theorem ck_plus : c_plus.chk ⟨["a", "b", "shared", "top", "more"], defScope s_plus, nlam⟩ (defBody s_plus) = true := by decide +kernel
theorem kn_plus : Knw Kn "plus" ["a", "b"] m_plus 2 := fun P w K mg base h => by
  obtain ⟨f, fd, F, hm⟩ := h.1.d_plus
  exact ⟨f, fd, fnG (Kn := Kn) F sc_plus h h.2 ok_plus ck_plus, hm, F.kp, F.binds fun _ _ _ _ _ _ us hl => match us, hl with | [_, _], _ => rfl⟩
theorem sc_minus : FnScope ["a", "b"] ["a", "b"] (defScope s_minus) := ⟨rfl, rfl, rfl, by decide +kernel, rfl, by decide +kernel, by decide +kernel⟩
theorem ok_minus : GB Kn 2 c_minus := (g_bCons (g_sRet (g_call (kn_plus.up (by decide)) (g_cons g_var (g_cons (g_tup (g_cons (g_neg (g_ix g_var g_int)) (g_cons (g_ix g_var g_int) g_nil))) g_nil)))) g_bNil)
theorem ck_minus : c_minus.chk ⟨["a", "b"], defScope s_minus, nlam⟩ (defBody s_minus) = true := by decide +kernel
theorem kn_minus : Knw Kn "minus" ["a", "b"] m_minus 3 := fun P w K mg base h => by
  obtain ⟨f, fd, F, hm⟩ := h.1.d_minus
  exact ⟨f, fd, fnG (Kn := Kn) F sc_minus h h.2 ok_minus ck_minus, hm, F.kp, F.binds fun _ _ _ _ _ _ us hl => match us, hl with | [_, _], _ => rfl⟩
theorem sc_times : FnScope ["a", "b", "first", "second"] ["a", "b"] (defScope s_times) := ⟨rfl, rfl, rfl, by decide +kernel, rfl, by decide +kernel, by decide +kernel⟩
theorem ok_times : GB Kn 1 c_times := (g_bCons (g_sPar (g_call (kn_shared_by.up (by decide)) (g_cons (g_B ok_abs (fun _ _ _ _ _ h => h.1.b_abs) (by decide +kernel) (by decide) (by decide) (g_cons (g_ix g_var g_int) g_nil)) (g_cons (g_ix g_var g_int) g_nil))) (g_call (kn_shared_by.up (by decide)) (g_cons (g_B ok_abs (fun _ _ _ _ _ h => h.1.b_abs) (by decide +kernel) (by decide) (by decide) (g_cons (g_ix g_var g_int) g_nil)) (g_cons (g_ix g_var g_int) g_nil)))) (g_bCons (g_sRet (g_tup (g_cons (g_bin ok_mul (g_bin ok_fdiv (g_ix g_var g_int) g_var) (g_bin ok_fdiv (g_ix g_var g_int) g_var)) (g_cons (g_bin ok_mul (g_bin ok_fdiv (g_ix g_var g_int) g_var) (g_bin ok_fdiv (g_ix g_var g_int) g_var)) g_nil)))) g_bNil))
theorem ck_times : c_times.chk ⟨["a", "b", "first", "second"], defScope s_times, nlam⟩ (defBody s_times) = true := by decide +kernel
theorem kn_times : Knw Kn "times" ["a", "b"] m_times 2 := fun P w K mg base h => by
  obtain ⟨f, fd, F, hm⟩ := h.1.d_times
  exact ⟨f, fd, fnG (Kn := Kn) F sc_times h h.2 ok_times ck_times, hm, F.kp, F.binds fun _ _ _ _ _ _ us hl => match us, hl with | [_, _], _ => rfl⟩
theorem sc_over : FnScope ["a", "b"] ["a", "b"] (defScope s_over) := ⟨rfl, rfl, rfl, by decide +kernel, rfl, by decide +kernel, by decide +kernel⟩
theorem ok_over : GB Kn 2 c_over := (g_bCons (g_sIf (g_tcmp ok_eq (g_ix g_var g_int) g_int) (g_bCons (g_sRaise kx_NoPart) g_bNil) g_bNil) (g_bCons (g_sRet (g_call (kn_times.up (by decide)) (g_cons g_var (g_cons (g_if (g_tcmp ok_gt (g_ix g_var g_int) g_int) (g_tup (g_cons (g_ix g_var g_int) (g_cons (g_ix g_var g_int) g_nil))) (g_tup (g_cons (g_neg (g_ix g_var g_int)) (g_cons (g_neg (g_ix g_var g_int)) g_nil)))) g_nil)))) g_bNil))
theorem ck_over : c_over.chk ⟨["a", "b"], defScope s_over, nlam⟩ (defBody s_over) = true := by decide +kernel
theorem kn_over : Knw Kn "over" ["a", "b"] m_over 3 := fun P w K mg base h => by
  obtain ⟨f, fd, F, hm⟩ := h.1.d_over
  exact ⟨f, fd, fnG (Kn := Kn) F sc_over h h.2 ok_over ck_over, hm, F.kp, F.binds fun _ _ _ _ _ _ us hl => match us, hl with | [_, _], _ => rfl⟩
theorem sc_trimmed : FnScope ["some", "found"] ["some"] (defScope s_trimmed) := ⟨rfl, rfl, rfl, by decide +kernel, rfl, by decide +kernel, by decide +kernel⟩
theorem ok_trimmed : GB Kn 0 c_trimmed := (g_bCons (g_sAsg g_gN (g_Ty ok_list (fun _ _ _ _ _ h => h.1.b_list) (by decide +kernel) (by decide) (by decide) (g_cons g_var g_nil))) (g_bCons (g_sWhile (GW.t (g_and (g_tcmp ok_gt (g_B ok_len (fun _ _ _ _ _ h => h.1.b_len) (by decide +kernel) (by decide) (by decide) (g_cons g_var g_nil)) g_int) (g_and1 (g_tcmp ok_eq (g_ix g_var (g_neg g_int)) (g_glo ig_NOUGHT))))) (g_bCons (g_sExpr (g_m0 k_pop ok_pop g_var)) g_bNil)) (g_bCons (g_sRet (g_Ty ok_tuple (fun _ _ _ _ _ h => h.1.b_tuple) (by decide +kernel) (by decide) (by decide) (g_cons g_var g_nil))) g_bNil)))
theorem ck_trimmed : c_trimmed.chk ⟨["some", "found"], defScope s_trimmed, nlam⟩ (defBody s_trimmed) = true := by decide +kernel
theorem kn_trimmed : Knw Kn "trimmed" ["some"] m_trimmed 1 := fun P w K mg base h => by
  obtain ⟨f, fd, F, hm⟩ := h.1.d_trimmed
  exact ⟨f, fd, fnG (Kn := Kn) F sc_trimmed h h.2 ok_trimmed ck_trimmed, hm, F.kp, F.binds fun _ _ _ _ _ _ us hl => match us, hl with | [_], _ => rfl⟩
theorem sc_part_of : FnScope ["a", "at"] ["a", "at"] (defScope s_part_of) := ⟨rfl, rfl, rfl, by decide +kernel, rfl, by decide +kernel, by decide +kernel⟩
theorem ok_part_of : GB Kn 0 c_part_of := (g_bCons (g_sRet (g_if (g_tcmp ok_lt g_var (g_B ok_len (fun _ _ _ _ _ h => h.1.b_len) (by decide +kernel) (by decide) (by decide) (g_cons g_var g_nil))) (g_ix g_var g_var) (g_glo ig_NOUGHT))) g_bNil)
theorem ck_part_of : c_part_of.chk ⟨["a", "at"], defScope s_part_of, nlam⟩ (defBody s_part_of) = true := by decide +kernel
theorem kn_part_of : Knw Kn "part_of" ["a", "at"] m_part_of 1 := fun P w K mg base h => by
  obtain ⟨f, fd, F, hm⟩ := h.1.d_part_of
  exact ⟨f, fd, fnG (Kn := Kn) F sc_part_of h h.2 ok_part_of ck_part_of, hm, F.kp, F.binds fun _ _ _ _ _ _ us hl => match us, hl with | [_, _], _ => rfl⟩
theorem sc_poly_plus : FnScope ["a", "b", "at"] ["a", "b"] (defScope s_poly_plus) := ⟨rfl, rfl, rfl, by decide +kernel, rfl, by decide +kernel, by decide +kernel⟩
theorem ok_poly_plus : GB Kn 2 c_poly_plus := (g_bCons (g_sRet (g_call (kn_trimmed.up (by decide)) (g_cons (g_lc (g_iR1 (fun _ _ _ _ _ h => h.1.b_range) (g_B ok_max (fun _ _ _ _ _ h => h.1.b_max) (by decide +kernel) (by decide) (by decide) (g_cons (g_B ok_len (fun _ _ _ _ _ h => h.1.b_len) (by decide +kernel) (by decide) (by decide) (g_cons g_var g_nil)) (g_cons (g_B ok_len (fun _ _ _ _ _ h => h.1.b_len) (by decide +kernel) (by decide) (by decide) (g_cons g_var g_nil)) g_nil)))) (c_gN (by decide)) g_fNil (g_call (kn_plus.up (by decide)) (g_cons (g_call (kn_part_of.up (by decide)) (g_cons g_var (g_cons g_var g_nil))) (g_cons (g_call (kn_part_of.up (by decide)) (g_cons g_var (g_cons g_var g_nil))) g_nil)))) g_nil))) g_bNil)
theorem ck_poly_plus : c_poly_plus.chk ⟨["a", "b", "at"], defScope s_poly_plus, nlam⟩ (defBody s_poly_plus) = true := by decide +kernel
theorem kn_poly_plus : Knw Kn "poly_plus" ["a", "b"] m_poly_plus 3 := fun P w K mg base h => by
  obtain ⟨f, fd, F, hm⟩ := h.1.d_poly_plus
  exact ⟨f, fd, fnG (Kn := Kn) F sc_poly_plus h h.2 ok_poly_plus ck_poly_plus, hm, F.kp, F.binds fun _ _ _ _ _ _ us hl => match us, hl with | [_, _], _ => rfl⟩
theorem sc_poly_times : FnScope ["a", "b", "found", "at", "one", "to", "other"] ["a", "b"] (defScope s_poly_times) := ⟨rfl, rfl, rfl, by decide +kernel, rfl, by decide +kernel, by decide +kernel⟩
theorem ok_poly_times : GB Kn 2 c_poly_times := (g_bCons (g_sAsg g_gN (g_bin ok_mul (g_lst (g_cons (g_glo ig_NOUGHT) g_nil)) (g_bin ok_add (g_B ok_len (fun _ _ _ _ _ h => h.1.b_len) (by decide +kernel) (by decide) (by decide) (g_cons g_var g_nil)) (g_B ok_len (fun _ _ _ _ _ h => h.1.b_len) (by decide +kernel) (by decide) (by decide) (g_cons g_var g_nil))))) (g_bCons (g_sFor (g_gT (g_gsCons g_gN (g_gsCons g_gN g_gsNil))) (g_iEn (fun _ _ _ _ _ h => h.1.b_enumerate) g_var) (g_bCons (g_sFor (g_gT (g_gsCons g_gN (g_gsCons g_gN g_gsNil))) (g_iEn (fun _ _ _ _ _ h => h.1.b_enumerate) g_var) (g_bCons (g_sAsg (g_gS g_var (g_bin ok_add g_var g_var)) (g_call (kn_plus.up (by decide)) (g_cons (g_ix g_var (g_bin ok_add g_var g_var)) (g_cons (g_call (kn_times.up (by decide)) (g_cons g_var (g_cons g_var g_nil))) g_nil)))) g_bNil)) g_bNil)) (g_bCons (g_sRet (g_call (kn_trimmed.up (by decide)) (g_cons g_var g_nil))) g_bNil)))
theorem ck_poly_times : c_poly_times.chk ⟨["a", "b", "found", "at", "one", "to", "other"], defScope s_poly_times, nlam⟩ (defBody s_poly_times) = true := by decide +kernel
theorem kn_poly_times : Knw Kn "poly_times" ["a", "b"] m_poly_times 3 := fun P w K mg base h => by
  obtain ⟨f, fd, F, hm⟩ := h.1.d_poly_times
  exact ⟨f, fd, fnG (Kn := Kn) F sc_poly_times h h.2 ok_poly_times ck_poly_times, hm, F.kp, F.binds fun _ _ _ _ _ _ us hl => match us, hl with | [_, _], _ => rfl⟩
theorem sc_poly_by : FnScope ["a", "number", "one"] ["a", "number"] (defScope s_poly_by) := ⟨rfl, rfl, rfl, by decide +kernel, rfl, by decide +kernel, by decide +kernel⟩
theorem ok_poly_by : GB Kn 2 c_poly_by := (g_bCons (g_sRet (g_call (kn_trimmed.up (by decide)) (g_cons (g_lc (g_iA g_var) (c_gN (by decide)) g_fNil (g_call (kn_times.up (by decide)) (g_cons g_var (g_cons g_var g_nil)))) g_nil))) g_bNil)
theorem ck_poly_by : c_poly_by.chk ⟨["a", "number", "one"], defScope s_poly_by, nlam⟩ (defBody s_poly_by) = true := by decide +kernel
theorem kn_poly_by : Knw Kn "poly_by" ["a", "number"] m_poly_by 3 := fun P w K mg base h => by
  obtain ⟨f, fd, F, hm⟩ := h.1.d_poly_by
  exact ⟨f, fd, fnG (Kn := Kn) F sc_poly_by h h.2 ok_poly_by ck_poly_by, hm, F.kp, F.binds fun _ _ _ _ _ _ us hl => match us, hl with | [_, _], _ => rfl⟩
theorem sc_poly_parted : FnScope ["a", "b", "rest", "often", "share", "begin", "at", "one"] ["a", "b"] (defScope s_poly_parted) := ⟨rfl, rfl, rfl, by decide +kernel, rfl, by decide +kernel, by decide +kernel⟩
theorem ok_poly_parted : GB Kn 3 c_poly_parted := (g_bCons (g_sIf (g_tcmp ok_eq g_var (g_tup g_nil)) (g_bCons (g_sRaise kx_NoPart) g_bNil) g_bNil) (g_bCons (g_sPar (g_Ty ok_list (fun _ _ _ _ _ h => h.1.b_list) (by decide +kernel) (by decide) (by decide) (g_cons g_var g_nil)) (g_lst g_nil)) (g_bCons (g_sWhile (g_tcmp ok_ge (g_B ok_len (fun _ _ _ _ _ h => h.1.b_len) (by decide +kernel) (by decide) (by decide) (g_cons g_var g_nil)) (g_B ok_len (fun _ _ _ _ _ h => h.1.b_len) (by decide +kernel) (by decide) (by decide) (g_cons g_var g_nil))) (g_bCons (g_sAsg g_gN (g_call (kn_over.up (by decide)) (g_cons (g_ix g_var (g_neg g_int)) (g_cons (g_ix g_var (g_neg g_int)) g_nil)))) (g_bCons (g_sAsg g_gN (g_bin ok_sub (g_B ok_len (fun _ _ _ _ _ h => h.1.b_len) (by decide +kernel) (by decide) (by decide) (g_cons g_var g_nil)) (g_B ok_len (fun _ _ _ _ _ h => h.1.b_len) (by decide +kernel) (by decide) (by decide) (g_cons g_var g_nil)))) (g_bCons (g_sFor (g_gT (g_gsCons g_gN (g_gsCons g_gN g_gsNil))) (g_iEn (fun _ _ _ _ _ h => h.1.b_enumerate) g_var) (g_bCons (g_sAsg (g_gS g_var (g_bin ok_add g_var g_var)) (g_call (kn_minus.up (by decide)) (g_cons (g_ix g_var (g_bin ok_add g_var g_var)) (g_cons (g_call (kn_times.up (by decide)) (g_cons g_var (g_cons g_var g_nil))) g_nil)))) g_bNil)) (g_bCons (g_sExpr (g_m0 k_pop ok_pop g_var)) (g_bCons (g_sExpr (g_m k_append ok_app g_var (g_cons g_var g_nil))) g_bNil)))))) (g_bCons (g_sRet (g_tup (g_cons (g_call (kn_trimmed.up (by decide)) (g_cons (g_rev g_var) g_nil)) (g_cons (g_call (kn_trimmed.up (by decide)) (g_cons g_var g_nil)) g_nil)))) g_bNil))))
theorem ck_poly_parted : c_poly_parted.chk ⟨["a", "b", "rest", "often", "share", "begin", "at", "one"], defScope s_poly_parted, nlam⟩ (defBody s_poly_parted) = true := by decide +kernel
theorem kn_poly_parted : Knw Kn "poly_parted" ["a", "b"] m_poly_parted 4 := fun P w K mg base h => by
  obtain ⟨f, fd, F, hm⟩ := h.1.d_poly_parted
  exact ⟨f, fd, fnG (Kn := Kn) F sc_poly_parted h h.2 ok_poly_parted ck_poly_parted, hm, F.kp, F.binds fun _ _ _ _ _ _ us hl => match us, hl with | [_, _], _ => rfl⟩
theorem sc_poly_common : FnScope ["a", "b"] ["a", "b"] (defScope s_poly_common) := ⟨rfl, rfl, rfl, by decide +kernel, rfl, by decide +kernel, by decide +kernel⟩
theorem ok_poly_common : GB Kn 4 c_poly_common := (g_bCons (g_sWhile (g_tcmp ok_ne g_var (g_tup g_nil)) (g_bCons (g_sPar g_var (g_ix (g_call (kn_poly_parted.up (by decide)) (g_cons g_var (g_cons g_var g_nil))) g_int)) g_bNil)) (g_bCons (g_sRet (g_if (g_tcmp ok_ne g_var (g_tup g_nil)) (g_call (kn_poly_by.up (by decide)) (g_cons g_var (g_cons (g_call (kn_over.up (by decide)) (g_cons (g_glo ig_ONE) (g_cons (g_ix g_var (g_neg g_int)) g_nil))) g_nil))) (g_tup g_nil))) g_bNil))
theorem ck_poly_common : c_poly_common.chk ⟨["a", "b"], defScope s_poly_common, nlam⟩ (defBody s_poly_common) = true := by decide +kernel
theorem kn_poly_common : Knw Kn "poly_common" ["a", "b"] m_poly_common 5 := fun P w K mg base h => by
  obtain ⟨f, fd, F, hm⟩ := h.1.d_poly_common
  exact ⟨f, fd, fnG (Kn := Kn) F sc_poly_common h h.2 ok_poly_common ck_poly_common, hm, F.kp, F.binds fun _ _ _ _ _ _ us hl => match us, hl with | [_, _], _ => rfl⟩
theorem sc_poly_at : FnScope ["a", "number", "found", "one"] ["a", "number"] (defScope s_poly_at) := ⟨rfl, rfl, rfl, by decide +kernel, rfl, by decide +kernel, by decide +kernel⟩
theorem ok_poly_at : GB Kn 2 c_poly_at := (g_bCons (g_sAsg g_gN (g_glo ig_NOUGHT)) (g_bCons (g_sFor g_gN (g_iA (g_rev g_var)) (g_bCons (g_sAsg g_gN (g_call (kn_plus.up (by decide)) (g_cons (g_call (kn_times.up (by decide)) (g_cons g_var (g_cons g_var g_nil))) (g_cons g_var g_nil)))) g_bNil)) (g_bCons (g_sRet g_var) g_bNil)))
theorem ck_poly_at : c_poly_at.chk ⟨["a", "number", "found", "one"], defScope s_poly_at, nlam⟩ (defBody s_poly_at) = true := by decide +kernel
theorem kn_poly_at : Knw Kn "poly_at" ["a", "number"] m_poly_at 3 := fun P w K mg base h => by
  obtain ⟨f, fd, F, hm⟩ := h.1.d_poly_at
  exact ⟨f, fd, fnG (Kn := Kn) F sc_poly_at h h.2 ok_poly_at ck_poly_at, hm, F.kp, F.binds fun _ _ _ _ _ _ us hl => match us, hl with | [_, _], _ => rfl⟩
theorem sc_ratio : FnScope ["a", "b", "shared", "share", "first", "second"] ["a", "b"] (defScope s_ratio) := ⟨rfl, rfl, rfl, by decide +kernel, rfl, by decide +kernel, by decide +kernel⟩
theorem ok_ratio : GB Kn 5 c_ratio := (g_bCons (g_sIf (g_tcmp ok_eq g_var (g_tup g_nil)) (g_bCons (g_sRaise kx_NoPart) g_bNil) g_bNil) (g_bCons (g_sAsg g_gN (g_call (kn_poly_common.up (by decide)) (g_cons g_var (g_cons g_var g_nil)))) (g_bCons (g_sPar (g_ix (g_call (kn_poly_parted.up (by decide)) (g_cons g_var (g_cons g_var g_nil))) g_int) (g_ix (g_call (kn_poly_parted.up (by decide)) (g_cons g_var (g_cons g_var g_nil))) g_int)) (g_bCons (g_sAsg g_gN (g_call (kn_over.up (by decide)) (g_cons (g_glo ig_ONE) (g_cons (g_ix g_var (g_neg g_int)) g_nil)))) (g_bCons (g_sRet (g_tup (g_cons (g_call (kn_poly_by.up (by decide)) (g_cons g_var (g_cons g_var g_nil))) (g_cons (g_call (kn_poly_by.up (by decide)) (g_cons g_var (g_cons g_var g_nil))) g_nil)))) g_bNil)))))
theorem ck_ratio : c_ratio.chk ⟨["a", "b", "shared", "share", "first", "second"], defScope s_ratio, nlam⟩ (defBody s_ratio) = true := by decide +kernel
theorem kn_ratio : Knw Kn "ratio" ["a", "b"] m_ratio 6 := fun P w K mg base h => by
  obtain ⟨f, fd, F, hm⟩ := h.1.d_ratio
  exact ⟨f, fd, fnG (Kn := Kn) F sc_ratio h h.2 ok_ratio ck_ratio, hm, F.kp, F.binds fun _ _ _ _ _ _ us hl => match us, hl with | [_, _], _ => rfl⟩
theorem sc_ratio_at : FnScope ["ratio", "number", "low", "first", "second"] ["ratio", "number"] (defScope s_ratio_at) := ⟨rfl, rfl, rfl, by decide +kernel, rfl, by decide +kernel, by decide +kernel⟩
theorem ok_ratio_at : GB Kn 3 c_ratio_at := (g_bCons (g_sAsg (g_gT (g_gsCons g_gN (g_gsCons g_gN g_gsNil))) g_var) (g_bCons (g_sAsg g_gN (g_call (kn_poly_at.up (by decide)) (g_cons g_var (g_cons g_var g_nil)))) (g_bCons (g_sRet (g_if (g_tcmp ok_eq g_var (g_glo ig_NOUGHT)) g_non (g_call (kn_over.up (by decide)) (g_cons (g_call (kn_poly_at.up (by decide)) (g_cons g_var (g_cons g_var g_nil))) (g_cons g_var g_nil))))) g_bNil)))
theorem ck_ratio_at : c_ratio_at.chk ⟨["ratio", "number", "low", "first", "second"], defScope s_ratio_at, nlam⟩ (defBody s_ratio_at) = true := by decide +kernel
theorem kn_ratio_at : Knw Kn "ratio_at" ["ratio", "number"] m_ratio_at 4 := fun P w K mg base h => by
  obtain ⟨f, fd, F, hm⟩ := h.1.d_ratio_at
  exact ⟨f, fd, fnG (Kn := Kn) F sc_ratio_at h h.2 ok_ratio_at ck_ratio_at, hm, F.kp, F.binds fun _ _ _ _ _ _ us hl => match us, hl with | [_, _], _ => rfl⟩
theorem sc_l_begin : FnScope ["_law_script", "_law_k", "_law_one", "_law_cell", "_law_seed"] ["_law_script", "_law_k"] (defScope s_l_begin) := ⟨rfl, rfl, rfl, by decide +kernel, rfl, by decide +kernel, by decide +kernel⟩
theorem ok_l_begin : GB Kn 0 c_l_begin := (g_bCons (g_sPar (g_if (g_tcmp ok_lt g_var (g_B ok_len (fun _ _ _ _ _ h => h.1.b_len) (by decide +kernel) (by decide) (by decide) (g_cons g_var g_nil))) (g_ix g_var g_var) g_int) (g_bin ok_add (g_bin ok_mul g_int g_var) g_int)) (g_bCons (g_sFor g_gN (g_iA (g_bin ok_add (g_lst (g_cons g_var g_nil)) (g_slice g_var g_ono (g_oyes g_int)))) (g_bCons (g_sAsg g_gN (g_bin ok_mod (g_bin ok_add (g_bin ok_add (g_bin ok_mul g_var g_int) (g_bin ok_mul g_int (g_B ok_abs (fun _ _ _ _ _ h => h.1.b_abs) (by decide +kernel) (by decide) (by decide) (g_cons g_var g_nil)))) (g_Ty ok_intTx (fun _ _ _ _ _ h => h.1.b_int) (by decide +kernel) (by decide) (by decide) (g_cons (g_cmp ok_lt g_var g_int) g_nil))) g_int)) g_bNil)) (g_bCons (g_sRet (g_lst (g_cons (g_if (g_tcmp ok_ge (g_B ok_abs (fun _ _ _ _ _ h => h.1.b_abs) (by decide +kernel) (by decide) (by decide) (g_cons g_var g_nil)) (g_bin ok_pow g_int g_int)) (g_B ok_abs (fun _ _ _ _ _ h => h.1.b_abs) (by decide +kernel) (by decide) (by decide) (g_cons g_var g_nil)) g_int) (g_cons g_var (g_cons g_int g_nil))))) g_bNil)))
theorem ck_l_begin : c_l_begin.chk ⟨["_law_script", "_law_k", "_law_one", "_law_cell", "_law_seed"], defScope s_l_begin, nlam⟩ (defBody s_l_begin) = true := by decide +kernel
theorem kn_l_begin : Knw Kn "_law_begin" ["_law_script", "_law_k"] m_l_begin 1 := fun P w K mg base h => by
  obtain ⟨f, fd, F, hm⟩ := h.1.d_l_begin
  exact ⟨f, fd, fnG (Kn := Kn) F sc_l_begin h h.2 ok_l_begin ck_l_begin, hm, F.kp, F.binds fun _ _ _ _ _ _ us hl => match us, hl with | [_, _], _ => rfl⟩
theorem sc_l_draw : FnScope ["_law_pot", "_law_many", "_law_go", "_law_mixed", "_law_digit"] ["_law_pot", "_law_many"] (defScope s_l_draw) := ⟨rfl, rfl, rfl, by decide +kernel, rfl, by decide +kernel, by decide +kernel⟩
theorem ok_l_draw : GB Kn 0 c_l_draw := (g_bCons (g_sIf (g_tcmp ok_gt (g_ix g_var g_int) g_int) (g_bCons (g_sAsg g_gN (g_bin ok_mod (g_ix g_var g_int) g_var)) (g_bCons (g_sAsg (g_gS g_var g_int) (g_bin ok_fdiv (g_ix g_var g_int) g_var)) (g_bCons (g_sRet g_var) g_bNil))) g_bNil) (g_bCons (g_sAsg (g_gS g_var g_int) (g_bin ok_add (g_ix g_var g_int) g_int)) (g_bCons (g_sAsg g_gN (g_ix g_var g_int)) (g_bCons (g_sAsg g_gN (g_bin ok_mod (g_bin ok_mul (g_bin ok_add (g_ix g_var g_int) (g_bin ok_mul g_int g_var)) (g_bin ok_add (g_bin ok_mul (g_bin ok_mul g_var g_var) g_int) g_int)) g_int)) (g_bCons (g_sAsg g_gN (g_bin ok_mod (g_bin ok_mul g_var (g_bin ok_add (g_bin ok_mod g_var g_int) g_var)) g_int)) (g_bCons (g_sRet (g_bin ok_mod (g_bin ok_fdiv g_var g_int) g_var)) g_bNil))))))
theorem ck_l_draw : c_l_draw.chk ⟨["_law_pot", "_law_many", "_law_go", "_law_mixed", "_law_digit"], defScope s_l_draw, nlam⟩ (defBody s_l_draw) = true := by decide +kernel
theorem kn_l_draw : Knw Kn "_law_draw" ["_law_pot", "_law_many"] m_l_draw 1 := fun P w K mg base h => by
  obtain ⟨f, fd, F, hm⟩ := h.1.d_l_draw
  exact ⟨f, fd, fnG (Kn := Kn) F sc_l_draw h h.2 ok_l_draw ck_l_draw, hm, F.kp, F.binds fun _ _ _ _ _ _ us hl => match us, hl with | [_, _], _ => rfl⟩
theorem sc_l_shared : FnScope ["_law_one", "_law_other"] ["_law_one", "_law_other"] (defScope s_l_shared) := ⟨rfl, rfl, rfl, by decide +kernel, rfl, by decide +kernel, by decide +kernel⟩
theorem ok_l_shared : GB Kn 0 c_l_shared := (g_bCons (g_sWhile (g_tcmp ok_ne g_var g_int) (g_bCons (g_sPar g_var (g_bin ok_mod g_var g_var)) g_bNil)) (g_bCons (g_sRet g_var) g_bNil))
theorem ck_l_shared : c_l_shared.chk ⟨["_law_one", "_law_other"], defScope s_l_shared, nlam⟩ (defBody s_l_shared) = true := by decide +kernel
theorem kn_l_shared : Knw Kn "_law_shared" ["_law_one", "_law_other"] m_l_shared 1 := fun P w K mg base h => by
  obtain ⟨f, fd, F, hm⟩ := h.1.d_l_shared
  exact ⟨f, fd, fnG (Kn := Kn) F sc_l_shared h h.2 ok_l_shared ck_l_shared, hm, F.kp, F.binds fun _ _ _ _ _ _ us hl => match us, hl with | [_, _], _ => rfl⟩
theorem sc_l_made : FnScope ["_law_top", "_law_low", "_law_shared_here", "_law_flip"] ["_law_top", "_law_low"] (defScope s_l_made) := ⟨rfl, rfl, rfl, by decide +kernel, rfl, by decide +kernel, by decide +kernel⟩
theorem ok_l_made : GB Kn 1 c_l_made := (g_bCons (g_sPar (g_call (kn_l_shared.up (by decide)) (g_cons (g_B ok_abs (fun _ _ _ _ _ h => h.1.b_abs) (by decide +kernel) (by decide) (by decide) (g_cons g_var g_nil)) (g_cons (g_B ok_abs (fun _ _ _ _ _ h => h.1.b_abs) (by decide +kernel) (by decide) (by decide) (g_cons g_var g_nil)) g_nil))) (g_bin ok_sub g_int (g_bin ok_mul g_int (g_Ty ok_intTx (fun _ _ _ _ _ h => h.1.b_int) (by decide +kernel) (by decide) (by decide) (g_cons (g_cmp ok_lt g_var g_int) g_nil))))) (g_bCons (g_sRet (g_tup (g_cons (g_bin ok_fdiv (g_bin ok_mul g_var g_var) g_var) (g_cons (g_bin ok_fdiv (g_bin ok_mul g_var g_var) g_var) g_nil)))) g_bNil))
theorem ck_l_made : c_l_made.chk ⟨["_law_top", "_law_low", "_law_shared_here", "_law_flip"], defScope s_l_made, nlam⟩ (defBody s_l_made) = true := by decide +kernel
theorem kn_l_made : Knw Kn "_law_made" ["_law_top", "_law_low"] m_l_made 2 := fun P w K mg base h => by
  obtain ⟨f, fd, F, hm⟩ := h.1.d_l_made
  exact ⟨f, fd, fnG (Kn := Kn) F sc_l_made h h.2 ok_l_made ck_l_made, hm, F.kp, F.binds fun _ _ _ _ _ _ us hl => match us, hl with | [_, _], _ => rfl⟩
theorem sc_l_whole : FnScope ["_law_pot", "_law_some_here"] ["_law_pot"] (defScope s_l_whole) := ⟨rfl, rfl, rfl, by decide +kernel, rfl, by decide +kernel, by decide +kernel⟩
theorem ok_l_whole : GB Kn 1 c_l_whole := (g_bCons (g_sAsg g_gN (g_lst (g_cons g_int (g_cons g_int (g_cons (g_neg g_int) (g_cons (g_bin ok_sub (g_call (kn_l_draw.up (by decide)) (g_cons g_var (g_cons g_int g_nil))) g_int) (g_cons (g_call (kn_l_draw.up (by decide)) (g_cons g_var (g_cons (g_bin ok_pow g_int g_int) g_nil))) (g_cons (g_bin ok_sub (g_call (kn_l_draw.up (by decide)) (g_cons g_var (g_cons (g_bin ok_mul g_int (g_bin ok_pow g_int g_int)) g_nil))) (g_bin ok_pow g_int g_int)) g_nil)))))))) (g_bCons (g_sRet (g_ix g_var (g_call (kn_l_draw.up (by decide)) (g_cons g_var (g_cons g_int g_nil))))) g_bNil))
theorem ck_l_whole : c_l_whole.chk ⟨["_law_pot", "_law_some_here"], defScope s_l_whole, nlam⟩ (defBody s_l_whole) = true := by decide +kernel
theorem kn_l_whole : Knw Kn "_law_whole" ["_law_pot"] m_l_whole 2 := fun P w K mg base h => by
  obtain ⟨f, fd, F, hm⟩ := h.1.d_l_whole
  exact ⟨f, fd, fnG (Kn := Kn) F sc_l_whole h h.2 ok_l_whole ck_l_whole, hm, F.kp, F.binds fun _ _ _ _ _ _ us hl => match us, hl with | [_], _ => rfl⟩
theorem sc_l_some : FnScope ["_law_pot", "_law_low"] ["_law_pot"] (defScope s_l_some) := ⟨rfl, rfl, rfl, by decide +kernel, rfl, by decide +kernel, by decide +kernel⟩
theorem ok_l_some : GB Kn 2 c_l_some := (g_bCons (g_sAsg g_gN (g_ix (g_lst (g_cons g_int (g_cons (g_bin ok_add g_int (g_call (kn_l_draw.up (by decide)) (g_cons g_var (g_cons g_int g_nil)))) (g_cons (g_bin ok_add g_int (g_call (kn_l_draw.up (by decide)) (g_cons g_var (g_cons (g_bin ok_pow g_int g_int) g_nil)))) (g_cons (g_bin ok_add g_int (g_call (kn_l_draw.up (by decide)) (g_cons g_var (g_cons (g_bin ok_pow g_int g_int) g_nil)))) g_nil))))) (g_call (kn_l_draw.up (by decide)) (g_cons g_var (g_cons g_int g_nil))))) (g_bCons (g_sRet (g_call (kn_l_made.up (by decide)) (g_cons (g_call (kn_l_whole.up (by decide)) (g_cons g_var g_nil)) (g_cons g_var g_nil)))) g_bNil))
theorem ck_l_some : c_l_some.chk ⟨["_law_pot", "_law_low"], defScope s_l_some, nlam⟩ (defBody s_l_some) = true := by decide +kernel
theorem kn_l_some : Knw Kn "_law_some" ["_law_pot"] m_l_some 3 := fun P w K mg base h => by
  obtain ⟨f, fd, F, hm⟩ := h.1.d_l_some
  exact ⟨f, fd, fnG (Kn := Kn) F sc_l_some h h.2 ok_l_some ck_l_some, hm, F.kp, F.binds fun _ _ _ _ _ _ us hl => match us, hl with | [_], _ => rfl⟩
theorem sc_l_small : FnScope ["_law_pot"] ["_law_pot"] (defScope s_l_small) := ⟨rfl, rfl, rfl, by decide +kernel, rfl, by decide +kernel, by decide +kernel⟩
theorem ok_l_small : GB Kn 2 c_l_small := (g_bCons (g_sRet (g_call (kn_l_made.up (by decide)) (g_cons (g_bin ok_sub (g_call (kn_l_draw.up (by decide)) (g_cons g_var (g_cons g_int g_nil))) g_int) (g_cons (g_bin ok_add g_int (g_call (kn_l_draw.up (by decide)) (g_cons g_var (g_cons g_int g_nil)))) g_nil)))) g_bNil)
theorem ck_l_small : c_l_small.chk ⟨["_law_pot"], defScope s_l_small, nlam⟩ (defBody s_l_small) = true := by decide +kernel
theorem kn_l_small : Knw Kn "_law_small" ["_law_pot"] m_l_small 3 := fun P w K mg base h => by
  obtain ⟨f, fd, F, hm⟩ := h.1.d_l_small
  exact ⟨f, fd, fnG (Kn := Kn) F sc_l_small h h.2 ok_l_small ck_l_small, hm, F.kp, F.binds fun _ _ _ _ _ _ us hl => match us, hl with | [_], _ => rfl⟩
theorem sc_l_trim : FnScope ["_law_some_here", "_law_kept"] ["_law_some_here"] (defScope s_l_trim) := ⟨rfl, rfl, rfl, by decide +kernel, rfl, by decide +kernel, by decide +kernel⟩
theorem ok_l_trim : GB Kn 0 c_l_trim := (g_bCons (g_sAsg g_gN (g_Ty ok_list (fun _ _ _ _ _ h => h.1.b_list) (by decide +kernel) (by decide) (by decide) (g_cons g_var g_nil))) (g_bCons (g_sWhile (GW.t (g_and (g_tcmp ok_ne g_var (g_lst g_nil)) (g_and1 (g_tcmp ok_eq (g_ix (g_ix g_var (g_neg g_int)) g_int) g_int)))) (g_bCons (g_sAsg g_gN (g_slice g_var g_ono (g_oyes (g_neg g_int)))) g_bNil)) (g_bCons (g_sRet (g_Ty ok_tuple (fun _ _ _ _ _ h => h.1.b_tuple) (by decide +kernel) (by decide) (by decide) (g_cons g_var g_nil))) g_bNil)))
theorem ck_l_trim : c_l_trim.chk ⟨["_law_some_here", "_law_kept"], defScope s_l_trim, nlam⟩ (defBody s_l_trim) = true := by decide +kernel
theorem kn_l_trim : Knw Kn "_law_trim" ["_law_some_here"] m_l_trim 1 := fun P w K mg base h => by
  obtain ⟨f, fd, F, hm⟩ := h.1.d_l_trim
  exact ⟨f, fd, fnG (Kn := Kn) F sc_l_trim h h.2 ok_l_trim ck_l_trim, hm, F.kp, F.binds fun _ _ _ _ _ _ us hl => match us, hl with | [_], _ => rfl⟩
theorem sc_l_poly : FnScope ["_law_pot", "_law_most", "_law_some_here", "_law_k"] ["_law_pot", "_law_most"] (defScope s_l_poly) := ⟨rfl, rfl, rfl, by decide +kernel, rfl, by decide +kernel, by decide +kernel⟩
theorem ok_l_poly : GB Kn 3 c_l_poly := (g_bCons (g_sSetLc (g_iR1 (fun _ _ _ _ _ h => h.1.b_range) (g_call (kn_l_draw.up (by decide)) (g_cons g_var (g_cons (g_bin ok_add g_var g_int) g_nil)))) (c_gN (by decide)) g_fNil (g_ix (g_lst (g_cons (g_call (kn_l_small.up (by decide)) (g_cons g_var g_nil)) (g_cons (g_tup (g_cons g_int (g_cons g_int g_nil))) g_nil))) (g_Ty ok_intTx (fun _ _ _ _ _ h => h.1.b_int) (by decide +kernel) (by decide) (by decide) (g_cons (g_cmp ok_eq (g_call (kn_l_draw.up (by decide)) (g_cons g_var (g_cons g_int g_nil))) g_int) g_nil)))) (g_bCons (g_sRet (g_call (kn_l_trim.up (by decide)) (g_cons g_var g_nil))) g_bNil))
theorem ck_l_poly : c_l_poly.chk ⟨["_law_pot", "_law_most", "_law_some_here", "_law_k"], defScope s_l_poly, nlam⟩ (defBody s_l_poly) = true := by decide +kernel
theorem kn_l_poly : Knw Kn "_law_poly" ["_law_pot", "_law_most"] m_l_poly 4 := fun P w K mg base h => by
  obtain ⟨f, fd, F, hm⟩ := h.1.d_l_poly
  exact ⟨f, fd, fnG (Kn := Kn) F sc_l_poly h h.2 ok_l_poly ck_l_poly, hm, F.kp, F.binds fun _ _ _ _ _ _ us hl => match us, hl with | [_, _], _ => rfl⟩
theorem sc_l_values_right : FnScope ["_law_first", "_law_second", "_law_point", "_law_told", "_law_one", "_law_other", "_law_often", "_law_left"] ["_law_first", "_law_second", "_law_point"] (defScope s_l_values_right) := ⟨rfl, rfl, rfl, by decide +kernel, rfl, by decide +kernel, by decide +kernel⟩
theorem ok_l_values_right : GB Kn 6 c_l_values_right := (g_bCons (g_sPar (g_call (kn_poly_at.up (by decide)) (g_cons g_var (g_cons g_var g_nil))) (g_call (kn_poly_at.up (by decide)) (g_cons g_var (g_cons g_var g_nil)))) (g_bCons (g_sIf (g_tcmp ok_ne (g_call (kn_poly_at.up (by decide)) (g_cons (g_call (kn_poly_plus.up (by decide)) (g_cons g_var (g_cons g_var g_nil))) (g_cons g_var g_nil))) (g_call (kn_plus.up (by decide)) (g_cons g_var (g_cons g_var g_nil)))) (g_bCons (g_sRet g_bl) g_bNil) g_bNil) (g_bCons (g_sIf (g_tcmp ok_ne (g_call (kn_poly_at.up (by decide)) (g_cons (g_call (kn_poly_times.up (by decide)) (g_cons g_var (g_cons g_var g_nil))) (g_cons g_var g_nil))) (g_call (kn_times.up (by decide)) (g_cons g_var (g_cons g_var g_nil)))) (g_bCons (g_sRet g_bl) g_bNil) g_bNil) (g_bCons (g_sIf (GW.t (g_or (g_tcmp ok_ne (g_call (kn_poly_at.up (by decide)) (g_cons (g_call (kn_poly_by.up (by decide)) (g_cons g_var (g_cons g_var g_nil))) (g_cons g_var g_nil))) (g_call (kn_times.up (by decide)) (g_cons g_var (g_cons g_var g_nil)))) (g_or1 (g_tcmp ok_ne (g_call (kn_poly_by.up (by decide)) (g_cons g_var (g_cons (g_tup (g_cons g_int (g_cons g_int g_nil))) g_nil))) (g_tup g_nil))))) (g_bCons (g_sRet g_bl) g_bNil) g_bNil) (g_bCons (g_sIf (g_tcmp ok_eq g_var (g_tup g_nil)) (g_bCons (g_sRet g_bl) g_bNil) g_bNil) (g_bCons (g_sAsg (g_gT (g_gsCons g_gN (g_gsCons g_gN g_gsNil))) (g_call (kn_poly_parted.up (by decide)) (g_cons g_var (g_cons g_var g_nil)))) (g_bCons (g_sIf (GW.t (g_or (g_tcmp ok_ne (g_call (kn_plus.up (by decide)) (g_cons (g_call (kn_times.up (by decide)) (g_cons (g_call (kn_poly_at.up (by decide)) (g_cons g_var (g_cons g_var g_nil))) (g_cons g_var g_nil))) (g_cons (g_call (kn_poly_at.up (by decide)) (g_cons g_var (g_cons g_var g_nil))) g_nil))) g_var) (g_or1 (g_tcmp ok_ge (g_B ok_len (fun _ _ _ _ _ h => h.1.b_len) (by decide +kernel) (by decide) (by decide) (g_cons g_var g_nil)) (g_B ok_len (fun _ _ _ _ _ h => h.1.b_len) (by decide +kernel) (by decide) (by decide) (g_cons g_var g_nil)))))) (g_bCons (g_sRet g_bl) g_bNil) g_bNil) (g_bCons (g_sAsg g_gN (g_call (kn_ratio_at.up (by decide)) (g_cons (g_call (kn_ratio.up (by decide)) (g_cons g_var (g_cons g_var g_nil))) (g_cons g_var g_nil)))) (g_bCons (g_sIf (g_tcmp ok_ne g_var (g_tup (g_cons g_int (g_cons g_int g_nil)))) (g_bCons (g_sRet (g_cmp ok_eq g_var (g_call (kn_over.up (by decide)) (g_cons g_var (g_cons g_var g_nil))))) g_bNil) g_bNil) (g_bCons (g_sRet (g_vor (g_cmp ok_is g_var g_non) (g_vone (g_cmp ok_eq (g_call (kn_poly_at.up (by decide)) (g_cons (g_call (kn_poly_common.up (by decide)) (g_cons g_var (g_cons g_var g_nil))) (g_cons g_var g_nil))) (g_tup (g_cons g_int (g_cons g_int g_nil))))))) g_bNil))))))))))
theorem ck_l_values_right : c_l_values_right.chk ⟨["_law_first", "_law_second", "_law_point", "_law_told", "_law_one", "_law_other", "_law_often", "_law_left"], defScope s_l_values_right, nlam⟩ (defBody s_l_values_right) = true := by decide +kernel
theorem kn_l_values_right : Knw Kn "_law_values_right" ["_law_first", "_law_second", "_law_point"] m_l_values_right 7 := fun P w K mg base h => by
  obtain ⟨f, fd, F, hm⟩ := h.1.d_l_values_right
  exact ⟨f, fd, fnG (Kn := Kn) F sc_l_values_right h h.2 ok_l_values_right ck_l_values_right, hm, F.kp, F.binds fun _ _ _ _ _ _ us hl => match us, hl with | [_, _, _], _ => rfl⟩
theorem sc_l_ratio_right : FnScope ["_law_first", "_law_second", "_law_third", "_law_made_here", "_law_shared_here"] ["_law_first", "_law_second", "_law_third"] (defScope s_l_ratio_right) := ⟨rfl, rfl, rfl, by decide +kernel, rfl, by decide +kernel, by decide +kernel⟩
theorem ok_l_ratio_right : GB Kn 6 c_l_ratio_right := (g_bCons (g_sPar (g_call (kn_ratio.up (by decide)) (g_cons g_var (g_cons g_var g_nil))) (g_call (kn_poly_common.up (by decide)) (g_cons g_var (g_cons g_var g_nil)))) (g_bCons (g_sIf (GW.t (g_or (g_tcmp ok_ne (g_ix (g_call (kn_poly_parted.up (by decide)) (g_cons g_var (g_cons g_var g_nil))) g_int) (g_tup g_nil)) (g_or1 (g_tcmp ok_ne (g_ix (g_call (kn_poly_parted.up (by decide)) (g_cons g_var (g_cons g_var g_nil))) g_int) (g_tup g_nil))))) (g_bCons (g_sRet g_bl) g_bNil) g_bNil) (g_bCons (g_sIf (GW.t (g_or (g_tcmp ok_ne (g_call (kn_poly_common.up (by decide)) (g_cons (g_ix g_var g_int) (g_cons (g_ix g_var g_int) g_nil))) (g_tup (g_cons (g_tup (g_cons g_int (g_cons g_int g_nil))) g_nil))) (g_or1 (g_tcmp ok_ne (g_slice (g_ix g_var g_int) (g_oyes (g_neg g_int)) g_ono) (g_tup (g_cons (g_tup (g_cons g_int (g_cons g_int g_nil))) g_nil)))))) (g_bCons (g_sRet g_bl) g_bNil) g_bNil) (g_bCons (g_sIf (GW.t (g_or (g_tcmp ok_ne (g_call (kn_ratio.up (by decide)) (g_cons (g_ix g_var g_int) (g_cons (g_ix g_var g_int) g_nil))) g_var) (g_or1 (g_tcmp ok_ne (g_call (kn_poly_times.up (by decide)) (g_cons (g_ix g_var g_int) (g_cons g_var g_nil))) (g_call (kn_poly_times.up (by decide)) (g_cons g_var (g_cons (g_ix g_var g_int) g_nil))))))) (g_bCons (g_sRet g_bl) g_bNil) g_bNil) (g_bCons (g_sRet (g_vor (g_cmp ok_eq g_var (g_tup g_nil)) (g_vone (g_cmp ok_eq (g_call (kn_ratio.up (by decide)) (g_cons (g_call (kn_poly_times.up (by decide)) (g_cons g_var (g_cons g_var g_nil))) (g_cons (g_call (kn_poly_times.up (by decide)) (g_cons g_var (g_cons g_var g_nil))) g_nil))) g_var)))) g_bNil)))))
theorem ck_l_ratio_right : c_l_ratio_right.chk ⟨["_law_first", "_law_second", "_law_third", "_law_made_here", "_law_shared_here"], defScope s_l_ratio_right, nlam⟩ (defBody s_l_ratio_right) = true := by decide +kernel
theorem kn_l_ratio_right : Knw Kn "_law_ratio_right" ["_law_first", "_law_second", "_law_third"] m_l_ratio_right 7 := fun P w K mg base h => by
  obtain ⟨f, fd, F, hm⟩ := h.1.d_l_ratio_right
  exact ⟨f, fd, fnG (Kn := Kn) F sc_l_ratio_right h h.2 ok_l_ratio_right ck_l_ratio_right, hm, F.kp, F.binds fun _ _ _ _ _ _ us hl => match us, hl with | [_, _, _], _ => rfl⟩
theorem sc_l_points : FnScope ["_law_pot", "_law_second", "_law_some_here"] ["_law_pot", "_law_second"] (defScope s_l_points) := ⟨rfl, rfl, rfl, by decide +kernel, rfl, by decide +kernel, by decide +kernel⟩
theorem ok_l_points : GB Kn 3 c_l_points := (g_bCons (g_sAsg g_gN (g_lst (g_cons (g_tup (g_cons g_int (g_cons g_int g_nil))) (g_cons (g_tup (g_cons g_int (g_cons g_int g_nil))) (g_cons (g_tup (g_cons (g_neg g_int) (g_cons g_int g_nil))) (g_cons (g_call (kn_l_small.up (by decide)) (g_cons g_var g_nil)) (g_cons (g_call (kn_l_some.up (by decide)) (g_cons g_var g_nil)) g_nil))))))) (g_bCons (g_sIf (g_tcmp ok_eq (g_B ok_len (fun _ _ _ _ _ h => h.1.b_len) (by decide +kernel) (by decide) (by decide) (g_cons g_var g_nil)) g_int) (g_bCons (g_sExpr (g_m k_append ok_app g_var (g_cons (g_call (kn_minus.up (by decide)) (g_cons (g_tup (g_cons g_int (g_cons g_int g_nil))) (g_cons (g_call (kn_over.up (by decide)) (g_cons (g_ix g_var g_int) (g_cons (g_ix g_var g_int) g_nil))) g_nil))) g_nil))) g_bNil) g_bNil) (g_bCons (g_sRet g_var) g_bNil)))
theorem ck_l_points : c_l_points.chk ⟨["_law_pot", "_law_second", "_law_some_here"], defScope s_l_points, nlam⟩ (defBody s_l_points) = true := by decide +kernel
theorem kn_l_points : Knw Kn "_law_points" ["_law_pot", "_law_second"] m_l_points 4 := fun P w K mg base h => by
  obtain ⟨f, fd, F, hm⟩ := h.1.d_l_points
  exact ⟨f, fd, fnG (Kn := Kn) F sc_l_points h h.2 ok_l_points ck_l_points, hm, F.kp, F.binds fun _ _ _ _ _ _ us hl => match us, hl with | [_, _], _ => rfl⟩
theorem sc_law : FnScope ["_law_script", "_law_k", "_law_pot", "_law_turn", "_law_second", "_law_points_here", "_law_first", "_law_third", "_law_point"] ["_law_script"] (defScope s_law) := ⟨rfl, rfl, rfl, by decide +kernel, rfl, by decide +kernel, by decide +kernel⟩
theorem ok_law : GB Kn 7 c_law := (g_bCons (g_sFor g_gN (g_iR1 (fun _ _ _ _ _ h => h.1.b_range) (g_bin ok_add g_int (g_B ok_len (fun _ _ _ _ _ h => h.1.b_len) (by decide +kernel) (by decide) (by decide) (g_cons (g_slice g_var g_ono (g_oyes g_int)) g_nil)))) (g_bCons (g_sAsg g_gN (g_call (kn_l_begin.up (by decide)) (g_cons g_var (g_cons g_var g_nil)))) (g_bCons (g_sFor g_gN (g_iR1 (fun _ _ _ _ _ h => h.1.b_range) g_int) (g_bCons (g_sAsg2 (g_gT (g_gsCons g_gN (g_gsCons g_gN (g_gsCons g_gN g_gsNil)))) (g_tup (g_cons (g_call (kn_l_poly.up (by decide)) (g_cons g_var (g_cons g_int g_nil))) (g_cons (g_call (kn_l_poly.up (by decide)) (g_cons g_var (g_cons g_int g_nil))) (g_cons (g_call (kn_l_poly.up (by decide)) (g_cons g_var (g_cons g_int g_nil))) g_nil))))) (g_bCons (g_sIf (g_tcmp ok_eq (g_call (kn_l_draw.up (by decide)) (g_cons g_var (g_cons g_int g_nil))) g_int) (g_bCons (g_sAsg2 (g_gT (g_gsCons g_gN (g_gsCons g_gN g_gsNil))) (g_tup (g_cons (g_call (kn_poly_times.up (by decide)) (g_cons g_var (g_cons g_var g_nil))) (g_cons (g_call (kn_poly_times.up (by decide)) (g_cons g_var (g_cons g_var g_nil))) g_nil)))) g_bNil) g_bNil) (g_bCons (g_sAsg g_gN (g_ix (g_lst (g_cons g_var (g_cons g_var (g_cons g_var (g_cons (g_tup (g_cons (g_tup (g_cons (g_neg g_int) (g_cons g_int g_nil))) (g_cons (g_tup (g_cons g_int (g_cons g_int g_nil))) g_nil))) g_nil))))) (g_call (kn_l_draw.up (by decide)) (g_cons g_var (g_cons g_int g_nil))))) (g_bCons (g_sAsg g_gN (g_bin ok_add (g_call (kn_l_points.up (by decide)) (g_cons g_var (g_cons g_var g_nil))) (g_call (kn_l_points.up (by decide)) (g_cons g_var (g_cons g_var g_nil))))) (g_bCons (g_sIf (g_tnot (g_tval (g_B ok_all (fun _ _ _ _ _ h => h.1.b_all) (by decide +kernel) (by decide) (by decide) (g_cons (g_lc (g_iA g_var) (c_gN (by decide)) g_fNil (g_call (kn_l_values_right.up (by decide)) (g_cons g_var (g_cons g_var (g_cons g_var g_nil))))) g_nil)))) (g_bCons (g_sRet g_bl) g_bNil) g_bNil) (g_bCons (g_sIf (GW.t (g_and (g_tcmp ok_ne g_var (g_tup g_nil)) (g_and1 (g_tnot (g_tval (g_call (kn_l_ratio_right.up (by decide)) (g_cons g_var (g_cons g_var (g_cons g_var g_nil))))))))) (g_bCons (g_sRet g_bl) g_bNil) g_bNil) g_bNil))))))) g_bNil))) (g_bCons (g_sRet g_bl) g_bNil))
theorem ck_law : c_law.chk ⟨["_law_script", "_law_k", "_law_pot", "_law_turn", "_law_second", "_law_points_here", "_law_first", "_law_third", "_law_point"], defScope s_law, nlam⟩ (defBody s_law) = true := by decide +kernel
theorem kn_law : Knw Kn "law" ["_law_script"] m_law 8 := fun P w K mg base h => by
  obtain ⟨f, fd, F, hm⟩ := h.1.d_law
  exact ⟨f, fd, fnG (Kn := Kn) F sc_law h h.2 ok_law ck_law, hm, F.kp, F.binds fun _ _ _ _ _ _ us hl => match us, hl with | [_], _ => rfl⟩
end Law
namespace Law
open PySem L2 PyProof.Rows Mi Sp Po
open Std hiding c_over m_over c_fraction m_fraction run_over run_fraction trim_mem
local macro_rules | `(tactic| walk_at "mi") => `(tactic| simp only [wp_mir, ws_cons, ws_nil, nx_nx, nx_rt, nx_bk, nx_ct, nx_er, fn_nx, fn_rt, fn_er, ws_asgN, ws_asgT, gs_cons, gs_nil, ex_tup, ex_pr, ws_asgS, ws_of, ws_some, wp_bnd, wp_ret, wp_new, ws_ite, wp_iteB, wp_stop,
  r_var, r_int, r_bl, r_str, r_non, r_glo, r_nil, r_cons, r_tup, r_lst, r_bin, r_cmp, r_tcmp, r_tval, r_tnot, r_and1, r_or1, r_and, r_or, r_if, r_vone, r_vand, r_vor, r_not, r_neg, r_chain, r_tchain,
  r_ix, r_slice, r_ono, r_oyes, r_B, r_call, r_call0, r_isi, s_expr, s_ret, s_if, s_par, s_while, s_for, s_brk, s_cont, s_pass, s_retN, i_T, i_L, i_A, i_En, i_Zp, i_Zp3, r_step, o_stepM, o_stepD, r_rev, r_J, j_nil, j_lit, j_fmt, s_par3, o_isBt, o_isBn, o_fmtI, o_fmtS, o_put, o_sw, o_ls, o_part, r_callK, r_kNil, r_kCons, r_m0, r_m, f_nil, f_one, s_asg2, s_setLc, r_lc, s_setLc2, r_lc2, o_revT, o_revL, o_max, o_min, o_all, o_any, o_aT, o_aF, o_aL, o_aS, o_enT, o_enL, o_zipT, o_zipL, fuelE, fuelZ, fuelS, o_mulL, o_mulS, o_isTL, o_isTS, q_nil, q_cons, r_dict, r_dict0, kd_nil, kd_S, Option.map_some, wp_dctE, ex_dct, ix_refS, setL_S, o_isTD, wp_dget1, wp_dget2, wp_popA0, wp_app, wp_pop, i_R1, i_R2,
  List.map_cons, List.map_nil, List.replicate_succ, List.replicate_zero, List.nil_append, List.cons_append, List.length_cons, List.length_nil, Nat.reduceAdd, Nat.add_assoc, Nat.zero_add, Nat.add_zero, Nat.reduceSub, true_and, getV, List.getElem?_cons_zero, List.getElem?_cons_succ, List.set_cons_zero, List.set_cons_succ,
  o_add, o_addS, o_addT, o_addL, o_sub, o_mul, o_fdiv, o_mod, o_pow, o_neg, o_lt, o_le, o_gt, o_ge, o_eq, o_eqS, o_eqB, o_ne, o_neS, o_neB, o_is, o_isn, o_asB, o_asI, o_lenT, o_lenF, o_lenL, o_abs', o_int, o_intB, o_str, o_slT, o_slF, o_slL, o_listT, o_listF, o_listL, o_tupT, o_tupL, o_newL, o_seqF, o_seqL, o_tupW, o_rng1, o_rng2, fuelOf, fuelL, fuelR, wp_isi, tyN_int, tyN_bl, tyN_str, tyN_non, tyN_tup, tyN_fro, iS_NoneType, iS_bool, iS_int, iS_str, iS_tuple, iS_list, iS_dict, List.length_append, List.length_map, List.length_set,
  wp_lstE, setL_E, ex_lst, ex_n, at_off, at_off0, wp_withNew, o_keyI, o_keyS, wp_setE, set_off, set_off0, r_dict1, trn_nx, trn_ct, trn_bk, trn_rt, trn_er, List.append_assoc, List.getElem?_append_left, List.set_set, List.getElem?_set_self, wp_need, ix_ref, Mi.ix_tup, ix_fro, atD_0, atD_1, atD_2, decide_eq_true_eq, Bool.false_eq_true, false_implies, not_false_eq_true, true_implies, not_true_eq_false, Bool.true_eq_false, and_true, if_true, if_false, Int.cast_ofNat_Int, Int.reduceEq, Int.reduceLT, Int.reduceLE, decide_true, decide_false, Bool.not_true, Bool.not_false, reduceIte, eq_self, Nat.reduceLeDiff])
local macro_rules | `(tactic| walk_at "mi*") => `(tactic| simp only [wp_mir, ws_cons, ws_nil, nx_nx, nx_rt, nx_bk, nx_ct, nx_er, fn_nx, fn_rt, fn_er, ws_asgN, ws_asgT, gs_cons, gs_nil, ex_tup, ex_pr, ws_asgS, ws_of, ws_some, wp_bnd, wp_ret, wp_new, ws_ite, wp_iteB, wp_stop,
  r_var, r_int, r_bl, r_str, r_non, r_glo, r_nil, r_cons, r_tup, r_lst, r_bin, r_cmp, r_tcmp, r_tval, r_tnot, r_and1, r_or1, r_and, r_or, r_if, r_vone, r_vand, r_vor, r_not, r_neg, r_chain, r_tchain,
  r_ix, r_slice, r_ono, r_oyes, r_B, r_call, r_call0, r_isi, s_expr, s_ret, s_if, s_par, s_while, s_for, s_brk, s_cont, s_pass, s_retN, i_T, i_L, i_A, i_En, i_Zp, i_Zp3, r_step, o_stepM, o_stepD, r_rev, r_J, j_nil, j_lit, j_fmt, s_par3, o_isBt, o_isBn, o_fmtI, o_fmtS, o_put, o_sw, o_ls, o_part, r_callK, r_kNil, r_kCons, r_m0, r_m, f_nil, f_one, s_asg2, s_setLc, r_lc, s_setLc2, r_lc2, o_revT, o_revL, o_max, o_min, o_all, o_any, o_aT, o_aF, o_aL, o_aS, o_enT, o_enL, o_zipT, o_zipL, fuelE, fuelZ, fuelS, o_mulL, o_mulS, o_isTL, o_isTS, q_nil, q_cons, r_dict, r_dict0, kd_nil, kd_S, Option.map_some, wp_dctE, ex_dct, ix_refS, setL_S, o_isTD, wp_dget1, wp_dget2, wp_popA0, wp_app, wp_pop, i_R1, i_R2,
  List.map_cons, List.map_nil, List.replicate_succ, List.replicate_zero, List.nil_append, List.cons_append, List.length_cons, List.length_nil, Nat.reduceAdd, Nat.add_assoc, Nat.zero_add, Nat.add_zero, Nat.reduceSub, true_and, getV, List.getElem?_cons_zero, List.getElem?_cons_succ, List.set_cons_zero, List.set_cons_succ,
  o_add, o_addS, o_addT, o_addL, o_sub, o_mul, o_fdiv, o_mod, o_pow, o_neg, o_lt, o_le, o_gt, o_ge, o_eq, o_eqS, o_eqB, o_ne, o_neS, o_neB, o_is, o_isn, o_asB, o_asI, o_lenT, o_lenF, o_lenL, o_abs', o_int, o_intB, o_str, o_slT, o_slF, o_slL, o_listT, o_listF, o_listL, o_tupT, o_tupL, o_newL, o_seqF, o_seqL, o_tupW, o_rng1, o_rng2, fuelOf, fuelL, fuelR, wp_isi, tyN_int, tyN_bl, tyN_str, tyN_non, tyN_tup, tyN_fro, iS_NoneType, iS_bool, iS_int, iS_str, iS_tuple, iS_list, iS_dict, List.length_append, List.length_map, List.length_set,
  wp_lstE, setL_E, ex_lst, ex_n, at_off, at_off0, wp_withNew, o_keyI, o_keyS, wp_setE, set_off, set_off0, r_dict1, trn_nx, trn_ct, trn_bk, trn_rt, trn_er, List.append_assoc, List.getElem?_append_left, List.set_set, List.getElem?_set_self, wp_need, ix_ref, Mi.ix_tup, ix_fro, atD_0, atD_1, atD_2, decide_eq_true_eq, Bool.false_eq_true, false_implies, not_false_eq_true, true_implies, not_true_eq_false, Bool.true_eq_false, and_true, if_true, if_false, Int.cast_ofNat_Int, Int.reduceEq, Int.reduceLT, Int.reduceLE, decide_true, decide_false, Bool.not_true, Bool.not_false, reduceIte, eq_self, Nat.reduceLeDiff, *])
/-! ### the pairs, their sizes -/
structure Pr (a b : List Rat) : Prop where
  ta : trimR a = a
  tb : trimR b = b
  ca : Cb 15 a
  cb : Cb 15 b
  la : a.length ≤ 8
  lb : b.length ≤ 8
theorem tops_B : ∀ la < 9, ∀ lb < 9, eucB 9 la lb 15 15 ≤ 22300 := by decide +kernel
theorem tops_G : ∀ la < 9, ∀ lb < 9, eucG 9 la lb 15 15 ≤ 2800 := by decide +kernel
theorem Pr.way {a b : List Rat} (h : Pr a b) : ∃ n g, n ≤ 9 ∧ Way 22300 n a b g ∧ trimR g = g ∧ Cb 2800 (monic g) := by
  obtain ⟨k, g, hk, w, hg⟩ := way_ex (A := 22300) 9 a b 15 15 (by have := h.lb; omega) h.ta h.tb h.ca h.cb (by have := h.la; omega) (by have := h.lb; omega) (tops_B _ (by have := h.la; omega) _ (by have := h.lb; omega))
  have tg := w.trim h.ta h.tb
  exact ⟨k, g, hk, w, tg, cb_monic tg fun h2 => (hg h2).up (tops_G _ (by have := h.la; omega) _ (by have := h.lb; omega))⟩
/-- what is known of a pair -/
structure KnP (a b g : List Rat) (n : Nat) : Prop where
  pr : Pr a b
  hn : n ≤ 9
  w : Way 22300 n a b g
  tg : trimR g = g
  g0 : g ≠ []
  cm : Cb 2800 (monic g)
  ok : RtOk 111932 a b g
  v : RtV a b g
  ch : Cb 2815 (hR b g)
  sa : SmL 25500 (rtA a b g)
  sb : SmL 25500 (rtB b g)
  la : (rtA a b g).length ≤ 8
  lb : (rtB b g).length ≤ 8
theorem fac_len {h p q : List Rat} (hl : h.getLastD 0 ≠ 0) (hp : trimR p = p) (hq : trimR q = q) (e : ∀ x, evalL x p = evalL x h * evalL x q) : q.length ≤ p.length := by
  by_cases q0 : q = []
  · rw [q0]; exact Nat.zero_le _
  · have := (mu_of hl hp hq q0 e).len
    have := List.length_pos_iff.mpr (ne_of_last hl)
    omega
theorem fac_smN {t u A : Nat} {h p q : List Rat} (cp : Cb t p) (ch : Cb u h) (hl : h.getLastD 0 ≠ 0) (lp : p.length ≤ 8) (e : ∀ x, evalL x p = evalL x h * evalL x q) (hA : t + 8 * (u + 1) + u < A) : SmL A q := by
  have hh := ne_of_last hl
  have l1 := List.length_pos_iff.mpr hh
  have hN : (p.length + 1 - h.length) * (u + 1) ≤ 8 * (u + 1) := Nat.mul_le_mul (by omega) (Nat.le_refl _)
  have po : PtOk A p h := pt_ok cp ch hl hh (by omega) (by omega)
  have eq : trimR q = quoR p h := same _ _ (trim_trim _) quo_trim fun x => by
    rw [ev_trim]
    refine cancel hl (fun y => ?_) x
    rw [← e, ← quo_ev hh hl (.ev q) e y]
  intro c hc
  rcases mem_trim hc with h | rfl
  · rw [eq] at h
    exact quo_sm po c h
  · exact sm0 (by omega)
theorem Pr.kn {a b : List Rat} (h : Pr a b) (b0 : b ≠ []) : ∃ n g, KnP a b g n := by
  obtain ⟨n, g, hn, w, tg, cm⟩ := h.way
  have g0 := w.g0 h.tb b0
  obtain ⟨ok, v⟩ := rt_ok (s := 2800) w (by omega) h.ta h.tb b0 cm
  have ch : Cb 2815 (hR b g) := cb_scale cm h.cb b0
  exact ⟨n, g, h, hn, w, tg, g0, cm, ok, v, ch, fac_smN h.ca ch v.hl h.la v.ea (by omega), fac_smN h.cb ch v.hl h.lb v.eb (by omega), Nat.le_trans (fac_len v.hl h.ta v.ta v.ea) h.la, Nat.le_trans (fac_len v.hl h.tb v.tb v.eb) h.lb⟩
/-! ### the value of a ratio -/
theorem run_ratio_at {A B C : Nat} {p q : List Rat} {x : Rat} {μ : List O} {E : Ex → List O → Prop} (hp : SmL A p) (hq : SmL A q) (hx : Sm B x) (hA : 0 < A) (hB : 0 < B) (lp : p.length ≤ 9) (lq : q.length ≤ 9) (hC1 : A + B + 1 ≤ C) (hC : 10 * C + 1 ≤ 400000) :
    Wp (m_ratio_at [.tup [.tup (frs p), .tup (frs q)], fr x]) μ (fun r μ' => r = (if evalL x q = 0 then .non else fr (evalL x p / evalL x q)) ∧ μ' = μ) E := by
  unfold m_ratio_at c_ratio_at
  have hs : sizeLine = 16777216 := sizeLine_eq
  have n1 : (p.length + 1) * C ≤ 10 * C := Nat.mul_le_mul (by omega) (Nat.le_refl _)
  have n2 : (q.length + 1) * C ≤ 10 * C := Nat.mul_le_mul (by omega) (Nat.le_refl _)
  have n3 : p.length * C ≤ 10 * C := Nat.mul_le_mul (by omega) (Nat.le_refl _)
  have n4 : q.length * C ≤ 10 * C := Nat.mul_le_mul (by omega) (Nat.le_refl _)
  walk_at "mi"
  refine Wp.go (run_patC hq hx hA hB (by omega) hC1 (by omega)) ?_
  rintro _ _ ⟨⟨rfl, sq⟩, rfl⟩
  rw [nought, eqv_fr]
  by_cases h0 : evalL x q = 0
  · rw [decide_eq_true h0, if_pos h0]
    try walk_at "mi"
  · rw [decide_eq_false h0, if_neg h0]
    try walk_at "mi"
    refine Wp.go (run_patC hp hx hA hB (by omega) hC1 (by omega)) ?_
    rintro _ _ ⟨⟨rfl, sp⟩, rfl⟩
    refine (run_ov (A := 400000) (sp.up (by omega)) (sq.up (by omega)) (by omega) (by omega) h0).mono ?_ fun _ _ z => z
    rintro _ _ ⟨rfl, rfl⟩
    exact ⟨rfl, rfl⟩
theorem ne_fr (p q : Rat) : neD (fr p) (fr q) = M.ret (.bl (!decide (p = q))) := by
  have h := eqv_fr p q
  funext μ
  have h2 : eqvD false (fr p) (fr q) μ = some (.ok (.bl (decide (p = q))), μ) := congrFun h μ
  show eqvD true (fr p) (fr q) μ = some (.ok (.bl (!decide (p = q))), μ)
  unfold eqvD at h2 ⊢
  have h1 : see μ 65 (fr p) = some (.tuple [.int p.num, .int p.den]) := rfl
  have h3 : see μ 65 (fr q) = some (.tuple [.int q.num, .int q.den]) := rfl
  have s1 : ∀ a b : Int, SeqAt.shaped (.tuple [.int a, .int b]) = true := fun a b => rfl
  rw [h1, h3] at h2 ⊢
  simp only [s1, and_self, if_true, Bool.false_eq_true, if_false] at h2 ⊢
  injection h2 with h2
  injection h2 with h2 _
  injection h2 with h2
  injection h2 with h2
  rw [h2]
/-! ### at one number -/
theorem run_values {a b : List Rat} {x : Rat} {μ : List O} {E : Ex → List O → Prop} (h : Pr a b) (hx : Sm 110 x) : Wp (m_l_values_right [.tup (frs a), .tup (frs b), fr x]) μ (fun r μ' => r = .bl true ∧ Gr0 μ μ') E := by
  unfold m_l_values_right c_l_values_right
  have hs : sizeLine = 16777216 := sizeLine_eq
  have sa : SmL 16 a := h.ca.sm (by omega)
  have sb : SmL 16 b := h.cb.sm (by omega)
  have la := h.la
  have lb := h.lb
  have n1 : a.length * 127 ≤ 8 * 127 := Nat.mul_le_mul la (Nat.le_refl _)
  have n2 : b.length * 127 ≤ 8 * 127 := Nat.mul_le_mul lb (Nat.le_refl _)
  walk_at "mi"
  refine Wp.go (run_pat (C := 127) sa hx (by omega) (by omega) (by omega) (by omega) (by omega)) ?_
  rintro _ _ ⟨⟨rfl, va⟩, rfl⟩
  refine Wp.go (run_pat (C := 127) sb hx (by omega) (by omega) (by omega) (by omega) (by omega)) ?_
  rintro _ _ ⟨⟨rfl, vb⟩, rfl⟩
  have va := va.up (B := 1017) (by omega)
  have vb := vb.up (B := 1017) (by omega)
  refine Wp.go (run_pplus sa sb (by omega) (by omega) (by omega) (by omega)) ?_
  rintro _ μ1 ⟨rfl, g1⟩
  have l1 : (trimR (addR a b)).length ≤ 8 := Nat.le_trans (Po.trim_len _) (by unfold addR; rw [List.length_map, List.length_range]; omega)
  refine Wp.go (run_pat (C := 150) (add_sm sa sb (by omega) (by omega)).trim hx (by omega) (by omega) (by omega) (by omega) (by omega)) ?_
  rintro _ _ ⟨⟨rfl, _⟩, rfl⟩
  refine Wp.go (run_plus va vb (by omega) (by omega)) ?_
  rintro _ _ ⟨rfl, rfl⟩
  rw [ne_fr, ev_trim, ev_addR, decide_eq_true rfl]
  try walk_at "mi"
  refine Wp.go (run_ptimes sa sb (by omega) (by omega) (by omega) (by omega) (by omega)) ?_
  rintro _ μ2 ⟨rfl, g2⟩
  have l2 : (trimR (mulR a b)).length ≤ 16 := Nat.le_trans prod_len (by omega)
  refine Wp.go (run_pat (C := 400) (mul_sm (C := 280) sa sb (by omega) (by omega) (by omega)).trim hx (by omega) (by omega) (by omega) (by omega) (by omega)) ?_
  rintro _ _ ⟨⟨rfl, _⟩, rfl⟩
  refine Wp.go (run_times va vb (by omega) (by omega)) ?_
  rintro _ _ ⟨rfl, rfl⟩
  rw [ne_fr, ev_trim, ev_mulR, decide_eq_true rfl]
  try walk_at "mi"
  have sby : SmL 1033 (byR a (evalL x b)) := by_sm sa vb (by omega)
  refine Wp.go (run_pby sa vb (by omega) (by omega) (by omega) (by omega)) ?_
  rintro _ μ3 ⟨rfl, g3⟩
  have l3 : (trimR (byR a (evalL x b))).length ≤ 8 := Nat.le_trans (Po.trim_len _) (by unfold byR; rw [List.length_map, List.length_range]; omega)
  refine Wp.go (run_pat (C := 1200) sby.trim hx (by omega) (by omega) (by omega) (by omega) (by omega)) ?_
  rintro _ _ ⟨⟨rfl, _⟩, rfl⟩
  refine Wp.go (run_times va vb (by omega) (by omega)) ?_
  rintro _ _ ⟨rfl, rfl⟩
  rw [ne_fr, ev_trim, byR_scale, ev_scale, Rat.mul_comm, decide_eq_true rfl]
  try walk_at "mi"
  refine ⟨by omega, ?_⟩
  refine Wp.go (run_pby (x := 0) sa (sm0 (A := 1) (by omega)) (by omega) (by omega) (by omega) (by omega)) ?_
  rintro _ μ4 ⟨rfl, g4⟩
  have e0 : trimR (byR a 0) = [] := nil_of_zero (trim_trim _) fun y => by rw [ev_trim, byR_scale, ev_scale]; grind
  have e1 : neD (.tup []) (.tup []) = M.ret (.bl false) := ne_nil []
  have e2 : (Std.frs []) = [] := rfl
  rw [e0, e2, e1]
  have eb := eq_nil b
  rw [eb]
  try walk_at "mi"
  refine ⟨by omega, by omega, fun _ => ((g1.trans g2).trans g3).trans g4, fun hb => ?_⟩
  have b0 : b ≠ [] := hb
  have bl := last_of h.tb b0
  have hN : (a.length + 1 - b.length) * (15 + 1) ≤ 8 * (15 + 1) := Nat.mul_le_mul (by have := List.length_pos_iff.mpr b0; omega) (Nat.le_refl _)
  have po : PtOk 160 a b := pt_ok h.ca h.cb bl b0 (by omega) (by omega)
  refine Wp.go (po.run (by omega) (by omega)) ?_
  rintro _ μ5 ⟨rfl, g5⟩
  refine ⟨_, rfl, rfl, _, _, rfl, ?_⟩
  try walk_at "mi"
  have lq : (quoR a b).length ≤ 8 := Nat.le_trans quo_len (by have := List.length_pos_iff.mpr b0; omega)
  have lr := rem_len (a := a) b0
  have sr : SmL 160 (remR a b) := (cb_rem h.ca h.cb bl b0).sm (by omega)
  have n5 : (quoR a b).length * 271 ≤ 8 * 271 := Nat.mul_le_mul lq (Nat.le_refl _)
  have n6 : (remR a b).length * 271 ≤ 8 * 271 := Nat.mul_le_mul (by omega) (Nat.le_refl _)
  refine Wp.go (run_pat (C := 271) (quo_sm po) hx (by omega) (by omega) (by omega) (by omega) (by omega)) ?_
  rintro _ _ ⟨⟨rfl, vq⟩, rfl⟩
  refine Wp.go (run_times (A := 2200) (vq.up (by omega)) (vb.up (by omega)) (by omega) (by omega)) ?_
  rintro _ _ ⟨rfl, rfl⟩
  refine Wp.go (run_pat (C := 271) sr hx (by omega) (by omega) (by omega) (by omega) (by omega)) ?_
  rintro _ _ ⟨⟨rfl, vr⟩, rfl⟩
  refine Wp.go (run_plus (A := 5000) ((vq.mul vb).up (by omega)) (vr.up (by omega)) (by omega) (by omega)) ?_
  rintro _ _ ⟨rfl, rfl⟩
  have ep : evalL x (quoR a b) * evalL x b + evalL x (remR a b) = evalL x a := by rw [ev_parted (x := x) (a := a) b0 bl]; grind
  rw [ep, ne_fr, decide_eq_true rfl]
  have hlt : ¬ ((b.length : Int) ≤ ((remR a b).length : Int)) := by omega
  have lB := @frs_len b
  have lR := @frs_len (remR a b)
  try walk_at "mi*"
  obtain ⟨n, g, K⟩ := h.kn b0
  have G5 := (((g1.trans g2).trans g3).trans g4).trans g5
  refine Wp.go (run_ratio K.ok (by omega) (by omega)) ?_
  rintro _ μ6 ⟨rfl, g6⟩
  refine Wp.go (run_ratio_at (C := 25611) K.sa K.sb hx (by omega) (by omega) (by have := K.la; omega) (by have := K.lb; omega) (by omega) (by omega)) ?_
  rintro _ _ ⟨rfl, rfl⟩
  have ea := K.v.ea x
  have eb' := K.v.eb x
  rw [show D.tup [D.int 0, D.int 1] = fr 0 from rfl, ne_fr]
  try walk_at "mi"
  refine ⟨fun hb => ?_, fun hb => ?_⟩
  · have vn : evalL x b ≠ 0 := by simpa using hb
    have wn : evalL x (rtB b g) ≠ 0 := fun z => vn (by rw [eb', z]; grind)
    rw [if_neg wn]
    refine Wp.go (run_ov (A := 1017) va vb (by omega) (by omega) vn) ?_
    rintro _ _ ⟨rfl, rfl⟩
    have e : evalL x (rtA a b g) / evalL x (rtB b g) = evalL x a / evalL x b := by
      have hn : evalL x (hR b g) ≠ 0 := fun z => vn (by rw [eb', z]; grind)
      rw [ea, eb']
      grind
    rw [e, eqv_fr, decide_eq_true rfl]
    try walk_at "mi"
    exact G5.trans g6
  · have vz : evalL x b = 0 := by simpa using hb
    by_cases wz : evalL x (rtB b g) = 0
    · rw [if_pos wz]
      exact ⟨fun _ => G5.trans g6, fun z => absurd rfl z⟩
    · rw [if_neg wz]
      refine ⟨fun z => (by cases z), fun _ => ?_⟩
      refine Wp.go (run_common (euc_up K.w.euc (show 22300 ≤ 22300 by omega)) (by have := K.hn; omega) (fun g0 => last_of K.tg g0) (by omega) (by omega)) ?_
      rintro _ μ7 ⟨rfl, g7⟩
      have lm : (monic g).length ≤ 8 := by
        rw [(monic_eq K.g0 (last_of K.tg K.g0)).2.2.2]
        have := hR_len (b := b) K.tg K.g0
        have := (mu_of K.v.hl K.pr.tb K.v.tb (ne_of_last (by rw [K.v.one]; decide)) K.v.eb).len
        have := List.length_pos_iff.mpr (ne_of_last (p := rtB b g) (by rw [K.v.one]; decide))
        omega
      refine Wp.go (run_patC (C := 3000) (K.cm.sm (A := 2801) (by omega)) hx (by omega) (by omega) (by omega) (by omega) (by have := Nat.mul_le_mul (show (monic g).length + 1 ≤ 9 by omega) (Nat.le_refl 3000); omega)) ?_
      rintro _ _ ⟨⟨rfl, _⟩, rfl⟩
      have mz : evalL x (monic g) = 0 := by
        rw [eb'] at vz
        have := (Rat.mul_eq_zero.mp vz).resolve_right wz
        unfold hR at this
        rw [ev_scale] at this
        exact (Rat.mul_eq_zero.mp this).resolve_left bl
      rw [mz, eqv_fr, decide_eq_true rfl]
      try walk_at "mi"
      exact (G5.trans g6).trans g7
/-! ### a ratio's own two -/
theorem eqv_frs {neg : Bool} (p q : List Rat) (μ : List O) : eqvD neg (.tup (frs p)) (.tup (frs q)) μ = some (.ok (.bl (if neg then !decide (p = q) else decide (p = q))), μ) := by
  unfold eqvD
  rw [see_tfrs, see_tfrs]
  simp only [shaped_t, and_self, if_true]
  have h : ∀ p q : List Rat, PyData.eqvAll (p.map pF) (q.map pF) = decide (p = q) := by
    intro p
    induction p with
    | nil =>
      intro q
      cases q <;> simp [PyData.eqvAll]
    | cons a p ih =>
      intro q
      cases q with
      | nil => simp [PyData.eqvAll]
      | cons b q =>
        have h1 := ih q
        have h2 : PyData.eqv (pF a) (pF b) = decide (a = b) := by
          have e1 : PyData.eqv (.tuple [.int a.num, .int a.den]) (.tuple [.int b.num, .int b.den]) = (a.num == b.num && (((a.den : Nat) : Int) == ((b.den : Nat) : Int) && true)) := by
            simp [PyData.eqv, PyData.eqvAll]
          show PyData.eqv (.tuple [.int a.num, .int a.den]) (.tuple [.int b.num, .int b.den]) = _
          rw [e1]
          by_cases h : a = b
          · subst h; simp
          · rw [decide_eq_false h]
            by_cases hn : a.num = b.num
            · have hd : a.den ≠ b.den := fun z => h (Rat.ext hn z)
              have : ¬ ((a.den : Int) = b.den) := by omega
              simp
              exact fun _ => this
            · simp [hn]
        show PyData.eqvAll (pF a :: p.map pF) (pF b :: q.map pF) = _
        have e3 : PyData.eqvAll (pF a :: p.map pF) (pF b :: q.map pF) = (PyData.eqv (pF a) (pF b) && PyData.eqvAll (p.map pF) (q.map pF)) := by simp [PyData.eqvAll]
        rw [e3, h1, h2]
        simp
  have e : PyData.eqv (.tuple (p.map pF)) (.tuple (q.map pF)) = decide (p = q) := by
    rw [← h]
    simp [PyData.eqv]
  rw [e]
theorem eq_frs (p q : List Rat) : eqD (.tup (frs p)) (.tup (frs q)) = M.ret (.bl (decide (p = q))) := by
  funext μ
  exact eqv_frs (neg := false) p q μ
theorem ne_frs (p q : List Rat) : neD (.tup (frs p)) (.tup (frs q)) = M.ret (.bl (!decide (p = q))) := by
  funext μ
  exact eqv_frs (neg := true) p q μ
/-- a ratio against itself -/
theorem eqv_rt {neg : Bool} (p q : List Rat) (μ : List O) : eqvD neg (.tup [.tup (frs p), .tup (frs q)]) (.tup [.tup (frs p), .tup (frs q)]) μ = some (.ok (.bl (!neg)), μ) := by
  unfold eqvD
  have hs : see μ 65 (.tup [.tup (frs p), .tup (frs q)]) = some (.tuple [.tuple (p.map pF), .tuple (q.map pF)]) := by
    show (seeL (see μ 64) [.tup (frs p), .tup (frs q)]).map PyData.tuple = _
    have e : ∀ p : List Rat, see μ 64 (.tup (frs p)) = some (.tuple (p.map pF)) := fun p => by
      show (seeL (see μ 63) (frs p)).map PyData.tuple = _
      rw [see_frs]
      rfl
    show (match see μ 64 (.tup (frs p)), seeL (see μ 64) [.tup (frs q)] with | some a, some b => some (a :: b) | _, _ => none).map PyData.tuple = _
    rw [e p]
    show (match some (PyData.tuple (p.map pF)), (match see μ 64 (.tup (frs q)), seeL (see μ 64) [] with | some a, some b => some (a :: b) | _, _ => none) with | some a, some b => some (a :: b) | _, _ => none).map PyData.tuple = _
    rw [e q]
    rfl
  rw [hs]
  have sh : SeqAt.shaped (.tuple [.tuple (p.map pF), .tuple (q.map pF)]) = true := by
    have h1 := lay_frs p
    have h2 := dep_frs p
    have h3 := lay_frs q
    have h4 := dep_frs q
    unfold SeqAt.shaped
    have e : PyData.depth (.tuple [.tuple (p.map pF), .tuple (q.map pF)]) ≤ 3 := by simp [PyData.depth, PyData.depthAll]; omega
    have e2 : PyData.canLay0 (.tuple [.tuple (p.map pF), .tuple (q.map pF)]) = true := by simp [PyData.canLay0, PyData.canLayAll0, h1, h3]
    rw [e2]
    simp
    omega
  simp only [sh, and_self, if_true]
  have h : ∀ p : List Rat, PyData.eqvAll (p.map pF) (p.map pF) = true := by
    intro p
    induction p with
    | nil => simp [PyData.eqvAll]
    | cons a r ih => simp [PyData.eqvAll, pF, PyData.eqv] at ih ⊢; exact ih
  have e : PyData.eqv (.tuple [.tuple (p.map pF), .tuple (q.map pF)]) (.tuple [.tuple (p.map pF), .tuple (q.map pF)]) = true := by simp [PyData.eqv, PyData.eqvAll, h]
  rw [e]
  cases neg <;> rfl
theorem eq_rt (p q : List Rat) : eqD (.tup [.tup (frs p), .tup (frs q)]) (.tup [.tup (frs p), .tup (frs q)]) = M.ret (.bl true) := by
  funext μ
  exact eqv_rt (neg := false) p q μ
theorem ne_rt (p q : List Rat) : neD (.tup [.tup (frs p), .tup (frs q)]) (.tup [.tup (frs p), .tup (frs q)]) = M.ret (.bl false) := by
  funext μ
  exact eqv_rt (neg := true) p q μ
theorem cut_tail {a : Type} {xs : List a} {x : a} : Mi.cutD (xs ++ [x]) (some (-1)) none = [x] := by
  unfold Mi.cutD
  simp [HT.sIx]
  have : (-1 + ((xs.length : Int) + 1)).toNat = xs.length := by omega
  rw [this]
  simp
theorem run_ratios {a b c : List Rat} {μ : List O} {E : Ex → List O → Prop} (h : Pr a b) (b0 : b ≠ []) (hc : trimR c = c) (cc : Cb 7 c) (lc : c.length ≤ 3) : Wp (m_l_ratio_right [.tup (frs a), .tup (frs b), .tup (frs c)]) μ (fun r μ' => r = .bl true ∧ Gr0 μ μ') E := by
  unfold m_l_ratio_right c_l_ratio_right
  have hs : sizeLine = 16777216 := sizeLine_eq
  obtain ⟨n, g, K⟩ := h.kn b0
  have hn := K.hn
  have gl := last_of K.tg K.g0
  have m3 := (monic_eq K.g0 gl).2.2.1
  have ml : (monic g).getLastD 0 ≠ 0 := by rw [(monic_eq K.g0 gl).2.1]; decide
  obtain ⟨⟨s1, ps1, es1⟩, ⟨s2, ps2, es2⟩⟩ := euc_div K.w.euc
  have ra : remR a (monic g) = [] := rem_nil m3 ml (w := fun x => g.getLastD 0 * s1 x) (.mul (.const _) ps1) fun x => by rw [es1, ev_monic K.tg]; grind
  have rb : remR b (monic g) = [] := rem_nil m3 ml (w := fun x => g.getLastD 0 * s2 x) (.mul (.const _) ps2) fun x => by rw [es2, ev_monic K.tg]; grind
  have e1 : neD (.tup []) (.tup []) = M.ret (.bl false) := ne_nil []
  have e2 : (Std.frs []) = [] := rfl
  walk_at "mi"
  refine Wp.go (run_ratio K.ok (by omega) (by omega)) ?_
  rintro _ μ1 ⟨rfl, g1⟩
  refine Wp.go (run_common K.w.euc (by omega) (fun g0 => last_of K.tg g0) (by omega) (by omega)) ?_
  rintro _ μ2 ⟨rfl, g2⟩
  refine Wp.go (K.ok.pa.run (by omega) (by omega)) ?_
  rintro _ μ3 ⟨rfl, g3⟩
  rw [ra, e2]
  try walk_at "mi*"
  refine Wp.go (K.ok.pb.run (by omega) (by omega)) ?_
  rintro _ μ4 ⟨rfl, g4⟩
  rw [rb, e2]
  try walk_at "mi*"
  obtain ⟨g', m1, g0', tg', he', ok', rA, rB⟩ := low_ratio (s := 2815) K.w (by omega) h.ta h.tb b0 K.v K.ch (by have := K.la; omega)
  have d1 : D.tup [D.int 1, D.int 1] = fr 1 := rfl
  have d2 : D.tup [fr 1] = .tup (frs [1]) := rfl
  refine Wp.go (run_common he' (by omega) (fun g0 => last_of tg' g0) (by omega) (by omega)) ?_
  rintro _ μ5 ⟨rfl, g5⟩
  rw [m1, d1, d2, ne_frs, decide_eq_true rfl]
  try walk_at "mi"
  have B0 := ok'.b0
  have et : Mi.cutD (Std.frs (rtB b g)) (some (-1)) none = Std.frs [1] := by
    have l1 := K.v.one
    rcases snoc_or (rtB b g) with z | ⟨rs, q, z⟩
    · exact absurd z B0
    · rw [z] at l1 ⊢
      rw [frs_snoc, cut_tail]
      have : q = 1 := by simpa using l1
      rw [this]
      rfl
  rw [et, ne_frs, decide_eq_true rfl]
  try walk_at "mi"
  refine Wp.go (run_ratio ok' (by omega) (by omega)) ?_
  rintro _ μ6 ⟨rfl, g6⟩
  rw [rA, rB, ne_rt]
  try walk_at "mi"
  have lA := K.la
  have lB := K.lb
  have la := h.la
  have lb := h.lb
  have sa : SmL 16 a := h.ca.sm (by omega)
  have sb : SmL 16 b := h.cb.sm (by omega)
  have sc : SmL 8 c := cc.sm (by omega)
  refine Wp.go (run_ptimesC (C := 230000) K.sa sb (by omega) (by omega) (by omega) (by omega) (by have := Nat.mul_le_mul lA (Nat.le_refl (25500 + 16 + 1)); omega) (by omega)) ?_
  rintro _ μ7 ⟨rfl, g7⟩
  refine Wp.go (run_ptimesC (C := 230000) sa K.sb (by omega) (by omega) (by omega) (by omega) (by have := Nat.mul_le_mul la (Nat.le_refl (16 + 25500 + 1)); omega) (by omega)) ?_
  rintro _ μ8 ⟨rfl, g8⟩
  have em : trimR (mulR (rtA a b g) b) = trimR (mulR a (rtB b g)) := same _ _ (trim_trim _) (trim_trim _) fun x => by
    rw [ev_trim, ev_trim, ev_mulR, ev_mulR, K.v.ea, K.v.eb x]
    grind
  have G8 := ((((((g1.trans g2).trans g3).trans g4).trans g5).trans g6).trans g7).trans g8
  rw [em, ne_frs, decide_eq_true rfl, eq_nil c]
  try walk_at "mi"
  refine ⟨fun _ => G8, fun c0 => ?_⟩
  refine Wp.go (run_ptimes sa sc (by omega) (by omega) (by omega) (by omega) (by omega)) ?_
  rintro _ μ9 ⟨rfl, g9⟩
  refine Wp.go (run_ptimes sc sb (by omega) (by omega) (by omega) (by omega) (by omega)) ?_
  rintro _ μ10 ⟨rfl, g10⟩
  have cl := last_of hc c0
  have bl := last_of h.tb b0
  have w2 := way_up K.w cl cc (by omega) (by omega) (by omega)
  have eb2 : trimR (mulR c b) = mulT b c := mulT_comm c b
  have lm : (monic g).length ≤ 8 := by
    rw [(monic_eq K.g0 gl).2.2.2]
    have := hR_len (b := b) K.tg K.g0
    have := (mu_of K.v.hl K.pr.tb K.v.tb B0 K.v.eb).len
    have := List.length_pos_iff.mpr B0
    omega
  have cm2 : Cb 2812 (monic (mulT g c)) := by
    rw [monic_mul K.tg hc]
    exact cb_mul K.cm (cb_monic hc fun _ => cc) (by omega)
  obtain ⟨ok2, v2⟩ := rt_ok w2 (by omega) mulT_trim mulT_trim (ne_of_last (mul_last0 bl cl)) cm2
  obtain ⟨t1, t2⟩ := third_ratio h.tb b0 K.tg K.g0 hc c0 K.v v2
  rw [eb2, show trimR (mulR a c) = mulT a c from rfl]
  refine Wp.go (run_ratio ok2 (by omega) (by omega)) ?_
  rintro _ μ11 ⟨rfl, g11⟩
  rw [t1, t2, eq_rt]
  try walk_at "mi"
  exact ((G8.trans g9).trans g10).trans g11

/-! ### draws -/
theorem run_lsmall2 {l n : Nat} {μ : List O} {E : Ex → List O → Prop} (h : Pot μ l n) (hn : n + 20 ≤ 1000000) :
    Wp (m_l_small [.ref l]) μ (fun r μ' => (∃ q, r = fr q ∧ Tw q) ∧ Pot μ' l (n + 2) ∧ Gr l μ μ') E := by
  unfold m_l_small c_l_small
  walk_at "mi*"
  refine Wp.go (run_draw h (by omega) (by decide) (by decide)) ?_
  rintro _ μ1 ⟨⟨d1, rfl, a1, b1⟩, p1, g1⟩
  walk_at "mi*"
  refine Wp.go (run_draw p1 (by omega) (by decide) (by decide)) ?_
  rintro _ μ2 ⟨⟨d2, rfl, a2, b2⟩, p2, g2⟩
  walk_at "mi*"
  have e8 : (2 : Nat) ^ 3 = 8 := rfl
  refine Wp.go (run_mk (by omega) ⟨3, by omega, by omega, by omega⟩) ?_
  rintro _ _ ⟨rfl, rfl⟩
  exact ⟨⟨_, rfl, tw_of (by omega) (by omega) (by omega)⟩, p2, g1.trans g2⟩
/-- a drawn polynomial -/
structure Dr (most : Nat) (ps : List Rat) : Prop where
  trim : trimR ps = ps
  len : ps.length ≤ most
  tw : TwL ps
theorem run_lpoly2 {l n : Nat} {most : Nat} {μ : List O} {E : Ex → List O → Prop} (h : Pot μ l n) (hn : n + 500 ≤ 1000000) (hm : most ≤ 40) :
    Wp (m_l_poly [.ref l, .int most]) μ (fun r μ' => (∃ ps, r = .tup (frs ps) ∧ Dr most ps) ∧ Pot μ' l (n + 200) ∧ Gr l μ μ') E := by
  unfold m_l_poly c_l_poly
  have hs : sizeLine = 16777216 := sizeLine_eq
  walk_at "mi*"
  have hlog : ((most : Int) + 1).natAbs.log2 < 400000 := Nat.lt_of_le_of_lt (log2_mono (b := 41) (by omega)) (by decide)
  refine Wp.go (run_draw h (by omega) (by omega) hlog) ?_
  rintro _ μ1 ⟨⟨d1, rfl, a1, b1⟩, p1, g1⟩
  obtain ⟨k, rfl⟩ : ∃ k : Nat, d1 = k := ⟨d1.toNat, by omega⟩
  walk_at "mi*"
  refine ⟨⟨by omega, by omega⟩, ?_⟩
  rw [Int.toNat_natCast]
  have hl1 := p1.lt
  refine wp_lc k (fun i acc μ' => ∃ cs, acc = Std.frs cs ∧ cs.length = i ∧ TwL cs ∧ Pot μ' l (n + 1 + 4 * i) ∧ Gr l μ1 μ' ∧ μ'[μ1.length]? = some (.lst acc)) (Nat.le_refl _) ?_ ?_ ?_
  · exact ⟨[], rfl, rfl, fun p hp => (nomatch hp), p1.app, (Gr0.app _ _).gr, at_off0⟩
  · rintro i acc μ2 hi ⟨cs, rfl, hc, hsm, p2, g2, h2⟩
    refine ⟨.int (0 + i), by show (if i < k then _ else _) = _; rw [if_pos hi], _, _, rfl, ?_⟩
    dsimp only [wipeE, List.map_cons, List.map_nil, List.set_cons_succ, List.set_cons_zero]
    try walk_at "mi"
    refine Wp.go (run_lsmall2 p2 (by omega)) ?_
    rintro _ μ3 ⟨⟨q, rfl, hq⟩, p3, g3⟩
    try walk_at "mi"
    refine ⟨by omega, by omega, Wp.go (run_draw p3.app (by omega) (by decide) (by decide)) ?_⟩
    rintro _ μ4 ⟨⟨d4, rfl, a4, b4⟩, p4, g4⟩
    have h4 := g4.at_ _ _ (Nat.ne_of_gt p3.lt) at_off0
    have G4 : Gr l μ2 μ4 := g3.trans ((Gr0.app _ _).gr.trans g4)
    have h24 := G4.at_ _ _ (Nat.ne_of_gt hl1) h2
    walk_at "mi*"
    have fin : ∀ c : Rat, Tw c → (∃ ds, some (O.lst (Std.frs cs)) = some (O.lst ds) ∧ ds.length < 16777216 ∧ ∃ cs', ds ++ [fr c] = Std.frs cs' ∧ cs'.length = i + 1 ∧ TwL cs' ∧ Pot (μ4.set μ1.length (O.lst (ds ++ [fr c]))) l (n + (1 + 4 * (i + 1))) ∧ Gr l μ1 (μ4.set μ1.length (O.lst (ds ++ [fr c]))) ∧ (μ4.set μ1.length (O.lst (ds ++ [fr c])))[μ1.length]? = some (.lst (ds ++ [fr c]))) := by
      intro c hcs
      refine ⟨_, rfl, by rw [frs_len]; omega, cs ++ [c], frs_snoc.symm, by simp [hc], ?_, ?_, (g2.trans G4).set_off (Nat.le_refl _), at_set h24⟩
      · intro p hp
        rcases List.mem_append.mp hp with h | h
        · exact hsm p h
        · rw [List.mem_singleton.mp h]; exact hcs
      · have := p4.up (m := n + (1 + 4 * (i + 1))) (by omega)
        obtain ⟨a, b, c', hh, r⟩ := this
        exact ⟨a, b, c', by rw [List.getElem?_set_ne (by omega)]; exact hh, r⟩
    by_cases h0 : d4 = 0
    · subst h0
      try walk_at "mi"
      rw [h24]
      exact fin 0 tw0
    · simp only [h0, decide_false, Bool.false_eq_true, if_false]
      try walk_at "mi"
      rw [h24]
      exact fin q hq
  · rintro acc μ2 ⟨cs, rfl, hc, hsm, p2, g2, h2⟩
    refine ⟨by show (if k < k then _ else _) = _; rw [if_neg (by omega)], ?_⟩
    try walk_at "mi"
    refine Wp.go (run_ltrim h2 (by omega)) ?_
    rintro _ μ3 ⟨rfl, g3⟩
    try walk_at "mi"
    have hle := Std.trim_len cs
    exact ⟨⟨_, rfl, trim_trim _, by omega, fun p hp => hsm p (trim_mem hp)⟩, (p2.gr g3).up (by omega), (g1.trans g2).trans g3.gr⟩

theorem Dr.cd {m : Nat} {p : List Rat} (h : Dr m p) : Cd 72 12 p := tw_cd h.tw


/-- numbers at which all is asked -/
def Pts (qs : List Rat) : Prop := ∀ q : Rat, q ∈ qs → Sm 110 q
theorem run_points {b : List Rat} {l n : Nat} {μ : List O} {E : Ex → List O → Prop} (h : Pot μ l n) (hn : n + 50 ≤ 1000000) (hb : trimR b = b) (cb : Cb 15 b) : Wp (m_l_points [.ref l, .tup (frs b)]) μ (fun r μ' => (∃ j qs, r = .ref j ∧ μ'[j]? = some (.lst (frs qs)) ∧ Pts qs ∧ qs.length ≤ 6 ∧ j ≠ l) ∧ Pot μ' l (n + 20) ∧ Gr l μ μ') E := by
  unfold m_l_points c_l_points
  have hs : sizeLine = 16777216 := sizeLine_eq
  have lb := @frs_len b
  walk_at "mi*"
  refine Wp.go (run_lsmall h (by omega)) ?_
  rintro _ μ1 ⟨⟨q1, rfl, h1⟩, p1, g1⟩
  refine Wp.go (run_some_q p1 (by omega)) ?_
  rintro _ μ2 ⟨⟨q2, rfl, h2⟩, p2, g2⟩
  try walk_at "mi*"
  have s3 : ∀ q ∈ [(0 : Rat), 1, -1, q1, q2], Sm 110 q := by
    have o1 : Sm 110 1 := Sm.up (A := 1) ⟨by decide, by decide⟩ (by omega)
    intro q hq
    simp only [List.mem_cons, List.not_mem_nil, or_false] at hq
    rcases hq with rfl | rfl | rfl | rfl | rfl
    · exact sm0 (by omega)
    · exact o1
    · exact o1.neg
    · exact h1.up (by omega)
    · exact h2.up (by omega)
  have p2' : Pot (μ2 ++ [O.lst [D.tup [D.int 0, D.int 1], D.tup [D.int 1, D.int 1], D.tup [D.int (-1), D.int 1], fr q1, fr q2]]) l (n + 20) := p2.app.up (by omega)
  have hl2 := p2.lt
  have G2 := (g1.trans g2).trans (Gr0.app μ2 [O.lst [D.tup [D.int 0, D.int 1], D.tup [D.int 1, D.int 1], D.tup [D.int (-1), D.int 1], fr q1, fr q2]]).gr
  refine ⟨fun hb2 => ?_, fun hb2 => ?_⟩
  · obtain ⟨b0, b1, rfl⟩ : ∃ b0 b1, b = [b0, b1] := by
      match b, hb2 with
      | [x, y], _ => exact ⟨x, y, rfl⟩
      | [], z => exact absurd z (by decide)
      | [x], z => exact absurd z (by rw [List.length_singleton]; decide)
      | x :: y :: w :: r, z => exact absurd z (by rw [List.length_cons, List.length_cons, List.length_cons]; omega)
    have bl : b1 ≠ 0 := last_of hb (by simp)
    have sb : SmL 16 [b0, b1] := cb.sm (by omega)
    have e0 : atD (Std.frs [b0, b1]) 0 = M.ret (fr b0) := rfl
    have e1 : atD (Std.frs [b0, b1]) 1 = M.ret (fr b1) := rfl
    rw [e0, e1]
    try walk_at "mi"
    have s0 := sb b0 (by simp)
    have s1 := sb b1 (by simp)
    refine Wp.go (run_ov s0 s1 (by omega) (by omega) bl) ?_
    rintro _ _ ⟨rfl, rfl⟩
    have sd : Sm 32 (b0 / b1) := by rw [Rat.div_def]; exact s0.mul (s1.inv bl)
    rw [show D.tup [D.int 0, D.int 1] = fr 0 from rfl] at *
    refine Wp.go (run_minus (A := 33) (sm0 (by omega)) (sd.up (by omega)) (by omega) (by omega)) ?_
    rintro _ _ ⟨rfl, rfl⟩
    refine ⟨_, at_off0, by simp, ⟨_, [(0 : Rat), 1, -1, q1, q2, 0 - b0 / b1], rfl, ?_, ?_, by simp, by omega⟩, ?_, ?_⟩
    · rw [at_set at_off0]
      rfl
    · intro q hq
      have hq : q ∈ [(0 : Rat), 1, -1, q1, q2] ++ [0 - b0 / b1] := hq
      rcases List.mem_append.mp hq with hq | hq
      · exact s3 q hq
      · rw [List.mem_singleton.mp hq, Rat.sub_eq_add_neg]
        exact ((sm0 (A := 1) (by omega)).add sd.neg).up (by omega)
    · obtain ⟨x, y, z, e, r⟩ := p2'
      exact ⟨x, y, z, by rw [List.getElem?_set_ne (by omega)]; exact e, r⟩
    · exact G2.set_off (by have := h.lt; have := (g1.trans g2).len; omega)
  · exact ⟨⟨_, [(0 : Rat), 1, -1, q1, q2], rfl, at_off0, s3, by simp, by omega⟩, p2', G2⟩
theorem c4_is : D.tup [D.tup [D.int (-1), D.int 2], D.tup [D.int 1, D.int 3]] = .tup (Std.frs [Rat.divInt (-1) 2, Rat.divInt 1 3]) := by
  have h1 : D.tup [.int (-1), .int 2] = fr (Rat.divInt (-1) 2) := fr_of (by decide) (by decide) rfl
  have h2 : D.tup [.int 1, .int 3] = fr (Rat.divInt 1 3) := fr_of (by decide) (by decide) rfl
  rw [h1, h2]
  rfl
theorem pr_small {m1 m2 : Nat} {a b : List Rat} (ha : Dr m1 a) (hb : Dr m2 b) (h1 : m1 ≤ 8) (h2 : m2 ≤ 8) : Pr a b :=
  ⟨ha.trim, hb.trim, ha.cd.up (by decide) (by decide), hb.cd.up (by decide) (by decide), Nat.le_trans ha.len h1, Nat.le_trans hb.len h2⟩
abbrev cVR : CE := cCall (Str.ofString "_law_values_right") m_l_values_right (aCons (cVar 6) (aCons (cVar 4) (aCons (cVar 8) aNil)))
theorem tail {a b c : List Rat} {l n : Nat} {μ : List O} {x0 x1 x3 y8 : Option D} {F : Prop} {Q : D → D → List O → Prop} (hp : Pr a b) (dc : Dr 3 c) (p : Pot μ l n) (hn : n + 100 ≤ 1000000) (q : ∀ d e μ', Pot μ' l (n + 50) → Q d e μ') :
    Wp (m_l_draw [.ref l, .int 4]) (μ ++ [.lst [.tup (Std.frs b), .tup (Std.frs b), .tup (Std.frs a), .tup [.tup [.int (-1), .int 2], .tup [.int 1, .int 3]]]]) (fun d μ' => Wp (ixD (.ref μ.length) d) μ' (fun d μ' => Wp (m_l_points [.ref l, d]) μ' (fun d_1 μ' => Wp (m_l_points [.ref l, .tup (Std.frs c)]) μ' (fun d_2 μ' =>
      Wp (addD d_1 d_2) μ' (fun d_3 μ' => Wp (anyW d_3) μ' (fun d_4 μ' => Wp (lcM d_4 (gN 8) fNil.run cVR.run (wipeE [x0, x1, some (.ref l), x3, some d, some d_3, some (.tup (Std.frs a)), some (.tup (Std.frs c)), y8] [8])) μ' (fun d_5 μ' =>
      Wp (allD [d_5]) μ' (fun d_6 μ' => Wp (asB d_6) μ' (fun d_7 μ' => ((!d_7) = true → F) ∧ (¬ (!d_7) = true → Wp (neD d (.tup [])) μ' (fun d_8 μ' => Wp (asB d_8) μ' (fun d_9 μ' =>
        (d_9 = true → Wp (m_l_ratio_right [.tup (Std.frs a), d, .tup (Std.frs c)]) μ' (fun d_10 μ' => Wp (asB d_10) μ' (fun d_11 μ' => ((!d_11) = true → F) ∧ (¬ (!d_11) = true → Q d d_3 μ')) fun _ _ => False) fun _ _ => False) ∧ (¬ d_9 = true → Q d d_3 μ')) fun _ _ => False) fun _ _ => False)) fun _ _ => False) fun _ _ => False) fun _ _ => False) fun _ _ => False) fun _ _ => False) fun _ _ => False) fun _ _ => False) fun _ _ => False) fun _ _ => False := by
  have hs : sizeLine = 16777216 := sizeLine_eq
  refine Wp.go (run_draw p.app (by omega) (by decide) (by decide)) ?_
  rintro _ μ1 ⟨⟨w, rfl, w0, w4⟩, p1, g1⟩
  obtain ⟨w, rfl⟩ : ∃ v : Nat, w = v := ⟨w.toNat, by omega⟩
  have h1 := g1.at_ _ _ (Nat.ne_of_gt p.lt) at_off0
  obtain ⟨b2, hb2, hp2⟩ : ∃ b2 : List Rat, [D.tup (Std.frs b), .tup (Std.frs b), .tup (Std.frs a), .tup [.tup [.int (-1), .int 2], .tup [.int 1, .int 3]]][w]? = some (.tup (Std.frs b2)) ∧ Pr a b2 := by
    have : w = 0 ∨ w = 1 ∨ w = 2 ∨ w = 3 := by omega
    rcases this with rfl | rfl | rfl | rfl
    · exact ⟨b, rfl, hp⟩
    · exact ⟨b, rfl, hp⟩
    · exact ⟨a, rfl, hp.ta, hp.ta, hp.ca, hp.ca, hp.la, hp.la⟩
    · refine ⟨_, by rw [c4_is]; rfl, hp.ta, trim_of_last (by decide +kernel), hp.ca, (tw_cd (p := [Rat.divInt (-1) 2, Rat.divInt 1 3]) fun c hc => ?_).up (by decide) (by decide), hp.la, by decide⟩
      rcases List.mem_cons.mp hc with rfl | hc
      · exact tw_of (by decide) (by decide) (by decide)
      · rw [List.mem_singleton.mp hc]; exact tw_of (by decide) (by decide) (by decide)
  rw [ix_ref, wp_bnd, wp_lst h1, atD_nat hb2, wp_ret]
  refine Wp.go (run_points p1 (by omega) hp2.tb hp2.cb) ?_
  rintro _ μ2 ⟨⟨j1, qs1, rfl, a1, s1, l1, n1⟩, p2, g2⟩
  refine Wp.go (run_points p2 (by omega) dc.trim (dc.cd.up (by decide) (by decide))) ?_
  rintro _ μ3 ⟨⟨j2, qs2, rfl, a2, s2, l2, n2⟩, p3, g3⟩
  have a1 := g3.at_ _ _ n1 a1
  have e1 := @frs_len qs1
  have e2 := @frs_len qs2
  have ea : Std.frs qs1 ++ Std.frs qs2 = Std.frs (qs1 ++ qs2) := by unfold Std.frs; rw [List.map_append]
  try walk_at "mi*"
  have hall : blsOf (List.replicate (qs1.length + qs2.length) (.bl true)) = some (List.replicate (qs1.length + qs2.length) true) := by
    generalize qs1.length + qs2.length = m
    induction m with
    | zero => rfl
    | succ m ih => rw [List.replicate_succ]; unfold blsOf; rw [ih]; rfl
  have hall2 : (List.replicate (qs1.length + qs2.length) true).all id = true := by
    generalize qs1.length + qs2.length = m
    induction m with
    | zero => rfl
    | succ m ih => rw [List.replicate_succ]; exact ih
  have p3' := p3.app (ν := [O.lst (Std.frs (qs1 ++ qs2))])
  have hl3 := p3.lt
  have l12 : (qs1 ++ qs2).length = qs1.length + qs2.length := List.length_append
  have s12 : Pts (qs1 ++ qs2) := fun q hq => (List.mem_append.mp hq).elim (s1 q) (s2 q)
  generalize qs1 ++ qs2 = qs at l12 s12 p3'
  have hlq := @frs_len qs
  refine ⟨by omega, ?_⟩
  refine wp_lc (qs1.length + qs2.length) (fun i acc μ' => acc = List.replicate i (.bl true) ∧ μ'[μ3.length]? = some (.lst (Std.frs qs)) ∧ μ'[μ3.length + 1]? = some (.lst acc) ∧ Pot μ' l (n + 50)) (by show _ ≤ qs1.length + qs2.length; omega) ⟨rfl, ?_, ?_, ?_⟩ ?_ ?_
  · rw [List.append_assoc]; exact at_off0
  · rw [List.append_assoc]; exact at_off
  · exact p3'.app.up (by omega)
  · rintro i acc μ4 hi ⟨rfl, h4, h5, p4⟩
    have hiq : i < qs.length := by omega
    refine ⟨fr (qs.getD i 0), ?_, _, _, rfl, ?_⟩
    · dsimp only [wkL]
      rw [h4]
      show some ((frs qs)[i]?) = _
      rw [frs_get hiq]
    · dsimp only [wipeE, List.set, List.map_cons, List.map_nil]
      show Wp (M.ret true) _ _ _
      rw [wp_ret, if_pos rfl]
      walk_at "mi"
      refine Wp.go (run_values hp2 (s12 _ (by rw [gd_in hiq]; exact List.getElem_mem hiq))) ?_
      rintro _ μ5 ⟨rfl, g5⟩
      have h6 := g5.at_ _ _ h5
      have h7 := g5.at_ _ _ h4
      obtain ⟨x, y, z, e, r⟩ := p4.gr g5
      refine ⟨_, h6, by rw [List.length_replicate]; omega, List.replicate_succ'.symm, ?_, ?_, x, y, z, ?_, r⟩
      · rw [List.getElem?_set_ne (by omega)]; exact h7
      · exact at_set h6
      · rw [List.getElem?_set_ne (by omega)]; exact e
  · rintro acc μ4 ⟨rfl, h4, h5, p4⟩
    refine ⟨?_, ?_⟩
    · dsimp only [wkL]
      rw [h4]
      show some ((frs qs)[_]?) = _
      rw [List.getElem?_eq_none (by omega)]
    · rw [List.length_append, List.length_singleton, o_all, wp_bnd, wp_lst h5]
      rw [hall]
      dsimp only
      rw [hall2]
      have en := ne_nil b2
      rw [en]
      try walk_at "mi"
      refine ⟨fun hb => ?_, fun hb => ?_⟩
      · have b0 : b2 ≠ [] := by simpa using hb
        refine Wp.go (run_ratios hp2 b0 dc.trim (dc.cd.up (by decide) (by decide)) dc.len) ?_
        rintro _ μ5 ⟨rfl, g5⟩
        try walk_at "mi"
        exact q _ _ _ (p4.gr g5)
      · exact q _ _ _ p4
theorem run_law {ns : List Int} (hn : ns.length ≤ 63) : Wp (m_law [scr ns]) [] (fun r _ => r = .bl true) (fun _ _ => False) := by
  unfold m_law c_law
  have hs : sizeLine = 16777216 := sizeLine_eq
  have hsc : scr ns = .fro (ns.map .int) := rfl
  have hc : (Mi.cutD (List.map D.int ns) none (some 4)).length ≤ 4 := by
    simp [Mi.cutD, HT.sIx]
    omega
  have o6 : ok62 6 := by decide
  walk_at "mi*"
  refine ⟨⟨by omega, by omega⟩, ?_⟩
  refine ws_forR (fun i ρ _ => ∃ x1 x2 x3 x4 x5 x6 x7 x8, ρ = [some (scr ns), x1, x2, x3, x4, x5, x6, x7, x8]) ?_ ?_ ?_
  · exact ⟨_, _, _, _, _, _, _, _, rfl⟩
  · rintro k ρ μ hk ⟨x1, x2, x3, x4, x5, x6, x7, x8, rfl⟩
    refine ⟨_, _, rfl, ?_⟩
    have hk' : k ≤ 63 := by omega
    walk_at "mi"
    rw [show (0 : Int) + k = k by omega]
    refine Wp.go (run_begin hk') ?_
    rintro _ μ1 ⟨l, rfl, hl1, p1, _⟩
    walk_at "mi*"
    refine ws_forR (fun i ρ μ' => ∃ x3 x4 x5 x6 x7 x8, ρ = [some (scr ns), some (.int k), some (.ref l), x3, x4, x5, x6, x7, x8] ∧ Pot μ' l (1000 * i)) ?_ ?_ ?_
    · exact ⟨_, _, _, _, _, _, rfl, p1⟩
    · rintro i ρ μ2 hi ⟨y3, y4, y5, y6, y7, y8, rfl, p2⟩
      refine ⟨_, _, rfl, ?_⟩
      have hi' : i < 6 := hi
      try walk_at "mi"
      refine Wp.go (run_lpoly2 (most := 6) p2 (by omega) (by omega)) ?_
      rintro _ μ3 ⟨⟨a, rfl, da⟩, p3, g3⟩
      try walk_at "mi"
      refine Wp.go (run_lpoly2 (most := 4) p3 (by omega) (by omega)) ?_
      rintro _ μ4 ⟨⟨b, rfl, db⟩, p4, g4⟩
      try walk_at "mi"
      refine Wp.go (run_lpoly2 (most := 3) p4 (by omega) (by omega)) ?_
      rintro _ μ5 ⟨⟨c, rfl, dc⟩, p5, g5⟩
      try walk_at "mi*"
      refine Wp.go (run_draw p5 (by omega) (by decide) (by decide)) ?_
      rintro _ μ6 ⟨⟨w, rfl, w0, w6⟩, p6, g6⟩
      try walk_at "mi*"
      have fin : ∀ (A d e : D) (μ' : List O), Pot μ' l (1000 * i + 200 + 200 + 200 + 1 + 50) → ∃ x3 x4 x5 x6 x7 x8, [some (D.fro (List.map D.int ns)), some (D.int ↑k), some (D.ref l), some (D.int (0 + ↑i)), some d, some e, some A, some (D.tup (Std.frs c)), y8] =
          [some (D.fro (List.map D.int ns)), some (D.int ↑k), some (D.ref l), x3, x4, x5, x6, x7, x8] ∧ Pot μ' l (1000 * (i + 1)) := fun A d e μ' h => ⟨_, _, _, _, _, _, rfl, h.up (by omega)⟩
      refine ⟨fun hw => ?_, fun hw => ?_⟩
      · have s7 : ∀ {p : List Rat}, Cd 72 12 p → SmL 7 p := fun h => h.sm (by decide) (by decide)
        have la := da.len
        have lb := db.len
        have lc := dc.len
        refine Wp.go (run_ptimes (s7 da.cd) (s7 dc.cd) (by omega) (by omega) (by omega) (by omega) (by omega)) ?_
        rintro _ μ7 ⟨rfl, g7⟩
        refine Wp.go (run_ptimes (s7 db.cd) (s7 dc.cd) (by omega) (by omega) (by omega) (by omega) (by omega)) ?_
        rintro _ μ8 ⟨rfl, g8⟩
        have ca : Cb 15 (trimR (mulR a c)) := ((cd_mul da.cd dc.cd).up (by have := Nat.mul_le_mul la (Nat.le_refl (72 * 72)); omega) (by decide)).sub fun x hx => trim_mem hx
        have cb : Cb 15 (trimR (mulR b c)) := ((cd_mul db.cd dc.cd).up (by have := Nat.mul_le_mul lb (Nat.le_refl (72 * 72)); omega) (by decide)).sub fun x hx => trim_mem hx
        exact tail ⟨trim_trim _, trim_trim _, ca, cb, Nat.le_trans prod_len (by omega), Nat.le_trans prod_len (by omega)⟩ dc ((p6.gr g7).gr g8) (by omega) (fun d e μ' h => fin _ d e μ' h)
      · exact tail (pr_small da db (by omega) (by omega)) dc p6 (by omega) (fun d e μ' h => fin _ d e μ' h)
    · rintro ρ μ2 ⟨y3, y4, y5, y6, y7, y8, rfl, _⟩
      try walk_at "mi"
      exact ⟨_, _, _, _, _, _, _, _, rfl⟩
  · rintro ρ μ ⟨x1, x2, x3, x4, x5, x6, x7, x8, rfl⟩
    walk_at "mi"
theorem law_true : ∀ ns : List Int, ns.length ≤ 63 → ∃ μ', m_law [scr ns] [] = some (.ok (.bl true), μ') := by
  intro ns h
  obtain ⟨r, μ', e, q⟩ := run_law h
  cases r with
  | error x => exact q.elim
  | ok d => exact ⟨μ', by rw [e, show d = .bl true from q]⟩
end Law
namespace Law
open PySem L2 PyProof.Rows Mi Sp Po
open Std hiding c_over m_over c_fraction m_fraction run_over run_fraction trim_mem
theorem all_mk {l : PySem.W.OpenLaw} {w : World} {K : PySem.W.Frag} {h : Heap} {mg : Str → Option Value} {fa : Addr} (X : K.In h) (G : h.Ns mainGlobals mg) (hfa : mg "law" = some (.ref fa))
    {f0 : Addr} {od0 an0 : Option Addr} {sl0 : Array (Option Value)} {oc0 kV0 dc0 pm0 cd0 ct0 : Value}
    (a0 : PySem.W.nsIn K mainGlobals "shared_by" = some (some (.ref f0))) (l0 : K.lookup f0 = some ⟨oc0, od0, .func (PySem.W.fnOf "shared_by" "shared_by" (defArgs s_shared_by) (defBody s_shared_by) (defScope s_shared_by) .none kV0 dc0 pm0 an0 cd0 ct0), sl0⟩)
    (c0 : PySem.W.codeIn K cd0 "shared_by" = true) (k0 : PySem.W.keepIn K (.ref f0) = true)
    {f1 : Addr} {od1 an1 : Option Addr} {sl1 : Array (Option Value)} {oc1 kV1 dc1 pm1 cd1 ct1 : Value}
    (a1 : PySem.W.nsIn K mainGlobals "plus" = some (some (.ref f1))) (l1 : K.lookup f1 = some ⟨oc1, od1, .func (PySem.W.fnOf "plus" "plus" (defArgs s_plus) (defBody s_plus) (defScope s_plus) .none kV1 dc1 pm1 an1 cd1 ct1), sl1⟩)
    (c1 : PySem.W.codeIn K cd1 "plus" = true) (k1 : PySem.W.keepIn K (.ref f1) = true)
    {f2 : Addr} {od2 an2 : Option Addr} {sl2 : Array (Option Value)} {oc2 kV2 dc2 pm2 cd2 ct2 : Value}
    (a2 : PySem.W.nsIn K mainGlobals "minus" = some (some (.ref f2))) (l2 : K.lookup f2 = some ⟨oc2, od2, .func (PySem.W.fnOf "minus" "minus" (defArgs s_minus) (defBody s_minus) (defScope s_minus) .none kV2 dc2 pm2 an2 cd2 ct2), sl2⟩)
    (c2 : PySem.W.codeIn K cd2 "minus" = true) (k2 : PySem.W.keepIn K (.ref f2) = true)
    {f3 : Addr} {od3 an3 : Option Addr} {sl3 : Array (Option Value)} {oc3 kV3 dc3 pm3 cd3 ct3 : Value}
    (a3 : PySem.W.nsIn K mainGlobals "times" = some (some (.ref f3))) (l3 : K.lookup f3 = some ⟨oc3, od3, .func (PySem.W.fnOf "times" "times" (defArgs s_times) (defBody s_times) (defScope s_times) .none kV3 dc3 pm3 an3 cd3 ct3), sl3⟩)
    (c3 : PySem.W.codeIn K cd3 "times" = true) (k3 : PySem.W.keepIn K (.ref f3) = true)
    {f4 : Addr} {od4 an4 : Option Addr} {sl4 : Array (Option Value)} {oc4 kV4 dc4 pm4 cd4 ct4 : Value}
    (a4 : PySem.W.nsIn K mainGlobals "over" = some (some (.ref f4))) (l4 : K.lookup f4 = some ⟨oc4, od4, .func (PySem.W.fnOf "over" "over" (defArgs s_over) (defBody s_over) (defScope s_over) .none kV4 dc4 pm4 an4 cd4 ct4), sl4⟩)
    (c4 : PySem.W.codeIn K cd4 "over" = true) (k4 : PySem.W.keepIn K (.ref f4) = true)
    {f5 : Addr} {od5 an5 : Option Addr} {sl5 : Array (Option Value)} {oc5 kV5 dc5 pm5 cd5 ct5 : Value}
    (a5 : PySem.W.nsIn K mainGlobals "trimmed" = some (some (.ref f5))) (l5 : K.lookup f5 = some ⟨oc5, od5, .func (PySem.W.fnOf "trimmed" "trimmed" (defArgs s_trimmed) (defBody s_trimmed) (defScope s_trimmed) .none kV5 dc5 pm5 an5 cd5 ct5), sl5⟩)
    (c5 : PySem.W.codeIn K cd5 "trimmed" = true) (k5 : PySem.W.keepIn K (.ref f5) = true)
    {f6 : Addr} {od6 an6 : Option Addr} {sl6 : Array (Option Value)} {oc6 kV6 dc6 pm6 cd6 ct6 : Value}
    (a6 : PySem.W.nsIn K mainGlobals "part_of" = some (some (.ref f6))) (l6 : K.lookup f6 = some ⟨oc6, od6, .func (PySem.W.fnOf "part_of" "part_of" (defArgs s_part_of) (defBody s_part_of) (defScope s_part_of) .none kV6 dc6 pm6 an6 cd6 ct6), sl6⟩)
    (c6 : PySem.W.codeIn K cd6 "part_of" = true) (k6 : PySem.W.keepIn K (.ref f6) = true)
    {f7 : Addr} {od7 an7 : Option Addr} {sl7 : Array (Option Value)} {oc7 kV7 dc7 pm7 cd7 ct7 : Value}
    (a7 : PySem.W.nsIn K mainGlobals "poly_plus" = some (some (.ref f7))) (l7 : K.lookup f7 = some ⟨oc7, od7, .func (PySem.W.fnOf "poly_plus" "poly_plus" (defArgs s_poly_plus) (defBody s_poly_plus) (defScope s_poly_plus) .none kV7 dc7 pm7 an7 cd7 ct7), sl7⟩)
    (c7 : PySem.W.codeIn K cd7 "poly_plus" = true) (k7 : PySem.W.keepIn K (.ref f7) = true)
    {f8 : Addr} {od8 an8 : Option Addr} {sl8 : Array (Option Value)} {oc8 kV8 dc8 pm8 cd8 ct8 : Value}
    (a8 : PySem.W.nsIn K mainGlobals "poly_times" = some (some (.ref f8))) (l8 : K.lookup f8 = some ⟨oc8, od8, .func (PySem.W.fnOf "poly_times" "poly_times" (defArgs s_poly_times) (defBody s_poly_times) (defScope s_poly_times) .none kV8 dc8 pm8 an8 cd8 ct8), sl8⟩)
    (c8 : PySem.W.codeIn K cd8 "poly_times" = true) (k8 : PySem.W.keepIn K (.ref f8) = true)
    {f9 : Addr} {od9 an9 : Option Addr} {sl9 : Array (Option Value)} {oc9 kV9 dc9 pm9 cd9 ct9 : Value}
    (a9 : PySem.W.nsIn K mainGlobals "poly_by" = some (some (.ref f9))) (l9 : K.lookup f9 = some ⟨oc9, od9, .func (PySem.W.fnOf "poly_by" "poly_by" (defArgs s_poly_by) (defBody s_poly_by) (defScope s_poly_by) .none kV9 dc9 pm9 an9 cd9 ct9), sl9⟩)
    (c9 : PySem.W.codeIn K cd9 "poly_by" = true) (k9 : PySem.W.keepIn K (.ref f9) = true)
    {f10 : Addr} {od10 an10 : Option Addr} {sl10 : Array (Option Value)} {oc10 kV10 dc10 pm10 cd10 ct10 : Value}
    (a10 : PySem.W.nsIn K mainGlobals "poly_parted" = some (some (.ref f10))) (l10 : K.lookup f10 = some ⟨oc10, od10, .func (PySem.W.fnOf "poly_parted" "poly_parted" (defArgs s_poly_parted) (defBody s_poly_parted) (defScope s_poly_parted) .none kV10 dc10 pm10 an10 cd10 ct10), sl10⟩)
    (c10 : PySem.W.codeIn K cd10 "poly_parted" = true) (k10 : PySem.W.keepIn K (.ref f10) = true)
    {f11 : Addr} {od11 an11 : Option Addr} {sl11 : Array (Option Value)} {oc11 kV11 dc11 pm11 cd11 ct11 : Value}
    (a11 : PySem.W.nsIn K mainGlobals "poly_common" = some (some (.ref f11))) (l11 : K.lookup f11 = some ⟨oc11, od11, .func (PySem.W.fnOf "poly_common" "poly_common" (defArgs s_poly_common) (defBody s_poly_common) (defScope s_poly_common) .none kV11 dc11 pm11 an11 cd11 ct11), sl11⟩)
    (c11 : PySem.W.codeIn K cd11 "poly_common" = true) (k11 : PySem.W.keepIn K (.ref f11) = true)
    {f12 : Addr} {od12 an12 : Option Addr} {sl12 : Array (Option Value)} {oc12 kV12 dc12 pm12 cd12 ct12 : Value}
    (a12 : PySem.W.nsIn K mainGlobals "poly_at" = some (some (.ref f12))) (l12 : K.lookup f12 = some ⟨oc12, od12, .func (PySem.W.fnOf "poly_at" "poly_at" (defArgs s_poly_at) (defBody s_poly_at) (defScope s_poly_at) .none kV12 dc12 pm12 an12 cd12 ct12), sl12⟩)
    (c12 : PySem.W.codeIn K cd12 "poly_at" = true) (k12 : PySem.W.keepIn K (.ref f12) = true)
    {f13 : Addr} {od13 an13 : Option Addr} {sl13 : Array (Option Value)} {oc13 kV13 dc13 pm13 cd13 ct13 : Value}
    (a13 : PySem.W.nsIn K mainGlobals "ratio" = some (some (.ref f13))) (l13 : K.lookup f13 = some ⟨oc13, od13, .func (PySem.W.fnOf "ratio" "ratio" (defArgs s_ratio) (defBody s_ratio) (defScope s_ratio) .none kV13 dc13 pm13 an13 cd13 ct13), sl13⟩)
    (c13 : PySem.W.codeIn K cd13 "ratio" = true) (k13 : PySem.W.keepIn K (.ref f13) = true)
    {f14 : Addr} {od14 an14 : Option Addr} {sl14 : Array (Option Value)} {oc14 kV14 dc14 pm14 cd14 ct14 : Value}
    (a14 : PySem.W.nsIn K mainGlobals "ratio_at" = some (some (.ref f14))) (l14 : K.lookup f14 = some ⟨oc14, od14, .func (PySem.W.fnOf "ratio_at" "ratio_at" (defArgs s_ratio_at) (defBody s_ratio_at) (defScope s_ratio_at) .none kV14 dc14 pm14 an14 cd14 ct14), sl14⟩)
    (c14 : PySem.W.codeIn K cd14 "ratio_at" = true) (k14 : PySem.W.keepIn K (.ref f14) = true)
    {f15 : Addr} {od15 an15 : Option Addr} {sl15 : Array (Option Value)} {oc15 kV15 dc15 pm15 cd15 ct15 : Value}
    (a15 : PySem.W.nsIn K mainGlobals "_law_begin" = some (some (.ref f15))) (l15 : K.lookup f15 = some ⟨oc15, od15, .func (PySem.W.fnOf "_law_begin" "_law_begin" (defArgs s_l_begin) (defBody s_l_begin) (defScope s_l_begin) .none kV15 dc15 pm15 an15 cd15 ct15), sl15⟩)
    (c15 : PySem.W.codeIn K cd15 "_law_begin" = true) (k15 : PySem.W.keepIn K (.ref f15) = true)
    {f16 : Addr} {od16 an16 : Option Addr} {sl16 : Array (Option Value)} {oc16 kV16 dc16 pm16 cd16 ct16 : Value}
    (a16 : PySem.W.nsIn K mainGlobals "_law_draw" = some (some (.ref f16))) (l16 : K.lookup f16 = some ⟨oc16, od16, .func (PySem.W.fnOf "_law_draw" "_law_draw" (defArgs s_l_draw) (defBody s_l_draw) (defScope s_l_draw) .none kV16 dc16 pm16 an16 cd16 ct16), sl16⟩)
    (c16 : PySem.W.codeIn K cd16 "_law_draw" = true) (k16 : PySem.W.keepIn K (.ref f16) = true)
    {f17 : Addr} {od17 an17 : Option Addr} {sl17 : Array (Option Value)} {oc17 kV17 dc17 pm17 cd17 ct17 : Value}
    (a17 : PySem.W.nsIn K mainGlobals "_law_shared" = some (some (.ref f17))) (l17 : K.lookup f17 = some ⟨oc17, od17, .func (PySem.W.fnOf "_law_shared" "_law_shared" (defArgs s_l_shared) (defBody s_l_shared) (defScope s_l_shared) .none kV17 dc17 pm17 an17 cd17 ct17), sl17⟩)
    (c17 : PySem.W.codeIn K cd17 "_law_shared" = true) (k17 : PySem.W.keepIn K (.ref f17) = true)
    {f18 : Addr} {od18 an18 : Option Addr} {sl18 : Array (Option Value)} {oc18 kV18 dc18 pm18 cd18 ct18 : Value}
    (a18 : PySem.W.nsIn K mainGlobals "_law_made" = some (some (.ref f18))) (l18 : K.lookup f18 = some ⟨oc18, od18, .func (PySem.W.fnOf "_law_made" "_law_made" (defArgs s_l_made) (defBody s_l_made) (defScope s_l_made) .none kV18 dc18 pm18 an18 cd18 ct18), sl18⟩)
    (c18 : PySem.W.codeIn K cd18 "_law_made" = true) (k18 : PySem.W.keepIn K (.ref f18) = true)
    {f19 : Addr} {od19 an19 : Option Addr} {sl19 : Array (Option Value)} {oc19 kV19 dc19 pm19 cd19 ct19 : Value}
    (a19 : PySem.W.nsIn K mainGlobals "_law_whole" = some (some (.ref f19))) (l19 : K.lookup f19 = some ⟨oc19, od19, .func (PySem.W.fnOf "_law_whole" "_law_whole" (defArgs s_l_whole) (defBody s_l_whole) (defScope s_l_whole) .none kV19 dc19 pm19 an19 cd19 ct19), sl19⟩)
    (c19 : PySem.W.codeIn K cd19 "_law_whole" = true) (k19 : PySem.W.keepIn K (.ref f19) = true)
    {f20 : Addr} {od20 an20 : Option Addr} {sl20 : Array (Option Value)} {oc20 kV20 dc20 pm20 cd20 ct20 : Value}
    (a20 : PySem.W.nsIn K mainGlobals "_law_some" = some (some (.ref f20))) (l20 : K.lookup f20 = some ⟨oc20, od20, .func (PySem.W.fnOf "_law_some" "_law_some" (defArgs s_l_some) (defBody s_l_some) (defScope s_l_some) .none kV20 dc20 pm20 an20 cd20 ct20), sl20⟩)
    (c20 : PySem.W.codeIn K cd20 "_law_some" = true) (k20 : PySem.W.keepIn K (.ref f20) = true)
    {f21 : Addr} {od21 an21 : Option Addr} {sl21 : Array (Option Value)} {oc21 kV21 dc21 pm21 cd21 ct21 : Value}
    (a21 : PySem.W.nsIn K mainGlobals "_law_small" = some (some (.ref f21))) (l21 : K.lookup f21 = some ⟨oc21, od21, .func (PySem.W.fnOf "_law_small" "_law_small" (defArgs s_l_small) (defBody s_l_small) (defScope s_l_small) .none kV21 dc21 pm21 an21 cd21 ct21), sl21⟩)
    (c21 : PySem.W.codeIn K cd21 "_law_small" = true) (k21 : PySem.W.keepIn K (.ref f21) = true)
    {f22 : Addr} {od22 an22 : Option Addr} {sl22 : Array (Option Value)} {oc22 kV22 dc22 pm22 cd22 ct22 : Value}
    (a22 : PySem.W.nsIn K mainGlobals "_law_trim" = some (some (.ref f22))) (l22 : K.lookup f22 = some ⟨oc22, od22, .func (PySem.W.fnOf "_law_trim" "_law_trim" (defArgs s_l_trim) (defBody s_l_trim) (defScope s_l_trim) .none kV22 dc22 pm22 an22 cd22 ct22), sl22⟩)
    (c22 : PySem.W.codeIn K cd22 "_law_trim" = true) (k22 : PySem.W.keepIn K (.ref f22) = true)
    {f23 : Addr} {od23 an23 : Option Addr} {sl23 : Array (Option Value)} {oc23 kV23 dc23 pm23 cd23 ct23 : Value}
    (a23 : PySem.W.nsIn K mainGlobals "_law_poly" = some (some (.ref f23))) (l23 : K.lookup f23 = some ⟨oc23, od23, .func (PySem.W.fnOf "_law_poly" "_law_poly" (defArgs s_l_poly) (defBody s_l_poly) (defScope s_l_poly) .none kV23 dc23 pm23 an23 cd23 ct23), sl23⟩)
    (c23 : PySem.W.codeIn K cd23 "_law_poly" = true) (k23 : PySem.W.keepIn K (.ref f23) = true)
    {f24 : Addr} {od24 an24 : Option Addr} {sl24 : Array (Option Value)} {oc24 kV24 dc24 pm24 cd24 ct24 : Value}
    (a24 : PySem.W.nsIn K mainGlobals "_law_values_right" = some (some (.ref f24))) (l24 : K.lookup f24 = some ⟨oc24, od24, .func (PySem.W.fnOf "_law_values_right" "_law_values_right" (defArgs s_l_values_right) (defBody s_l_values_right) (defScope s_l_values_right) .none kV24 dc24 pm24 an24 cd24 ct24), sl24⟩)
    (c24 : PySem.W.codeIn K cd24 "_law_values_right" = true) (k24 : PySem.W.keepIn K (.ref f24) = true)
    {f25 : Addr} {od25 an25 : Option Addr} {sl25 : Array (Option Value)} {oc25 kV25 dc25 pm25 cd25 ct25 : Value}
    (a25 : PySem.W.nsIn K mainGlobals "_law_ratio_right" = some (some (.ref f25))) (l25 : K.lookup f25 = some ⟨oc25, od25, .func (PySem.W.fnOf "_law_ratio_right" "_law_ratio_right" (defArgs s_l_ratio_right) (defBody s_l_ratio_right) (defScope s_l_ratio_right) .none kV25 dc25 pm25 an25 cd25 ct25), sl25⟩)
    (c25 : PySem.W.codeIn K cd25 "_law_ratio_right" = true) (k25 : PySem.W.keepIn K (.ref f25) = true)
    {f26 : Addr} {od26 an26 : Option Addr} {sl26 : Array (Option Value)} {oc26 kV26 dc26 pm26 cd26 ct26 : Value}
    (a26 : PySem.W.nsIn K mainGlobals "_law_points" = some (some (.ref f26))) (l26 : K.lookup f26 = some ⟨oc26, od26, .func (PySem.W.fnOf "_law_points" "_law_points" (defArgs s_l_points) (defBody s_l_points) (defScope s_l_points) .none kV26 dc26 pm26 an26 cd26 ct26), sl26⟩)
    (c26 : PySem.W.codeIn K cd26 "_law_points" = true) (k26 : PySem.W.keepIn K (.ref f26) = true)
    {f27 : Addr} {od27 an27 : Option Addr} {sl27 : Array (Option Value)} {oc27 kV27 dc27 pm27 cd27 ct27 : Value}
    (a27 : PySem.W.nsIn K mainGlobals "law" = some (some (.ref f27))) (l27 : K.lookup f27 = some ⟨oc27, od27, .func (PySem.W.fnOf "law" "law" (defArgs s_law) (defBody s_law) (defScope s_law) .none kV27 dc27 pm27 an27 cd27 ct27), sl27⟩)
    (c27 : PySem.W.codeIn K cd27 "law" = true) (k27 : PySem.W.keepIn K (.ref f27) = true)
    {pNOUGHT_0 : Addr} {oNOUGHT_0 : Option Addr} {nNOUGHT_0 : Nat} {sNOUGHT_0 : Array (Option Value)}
    {tNOUGHT_1 : Tok}
    {tNOUGHT_2 : Tok}
    (nNOUGHT : PySem.W.nsIn K mainGlobals "NOUGHT" = some (some (.ref pNOUGHT_0)))
    (mNOUGHT_0 : K.lookup pNOUGHT_0 = some ⟨.type "tuple", oNOUGHT_0, .seq #[(.int 0 tNOUGHT_1), (.int 1 tNOUGHT_2)] nNOUGHT_0, sNOUGHT_0⟩)
    {pONE_0 : Addr} {oONE_0 : Option Addr} {nONE_0 : Nat} {sONE_0 : Array (Option Value)}
    {tONE_1 : Tok}
    {tONE_2 : Tok}
    (nONE : PySem.W.nsIn K mainGlobals "ONE" = some (some (.ref pONE_0)))
    (mONE_0 : K.lookup pONE_0 = some ⟨.type "tuple", oONE_0, .seq #[(.int 1 tONE_1), (.int 1 tONE_2)] nONE_0, sONE_0⟩)
    (z_abs : PySem.W.nsIn K mainGlobals "abs" = some none)
    (z_all : PySem.W.nsIn K mainGlobals "all" = some none)
    (z_enumerate : PySem.W.nsIn K mainGlobals "enumerate" = some none)
    (z_int : PySem.W.nsIn K mainGlobals "int" = some none)
    (z_len : PySem.W.nsIn K mainGlobals "len" = some none)
    (z_list : PySem.W.nsIn K mainGlobals "list" = some none)
    (z_max : PySem.W.nsIn K mainGlobals "max" = some none)
    (z_range : PySem.W.nsIn K mainGlobals "range" = some none)
    (z_tuple : PySem.W.nsIn K mainGlobals "tuple" = some none)
    {xCNoPart xBNoPart xINoPart xNNoPart : Addr} {xnmNoPart xqNoPart : Str} {xbsNoPart : List Value} {xsnNoPart : List Str} {xsubNoPart : List Value} {xabNoPart : Bool} {xcolNoPart : Option Bool} {xddNoPart : Option Addr} {xm0NoPart xm1NoPart xm2NoPart xm3NoPart xm5NoPart : Option Value}
    {xodNoPart xanNoPart : Option Addr} {xslNoPart : Array (Option Value)} {xocNoPart xkVNoPart xdcNoPart xpmNoPart xcdNoPart xctNoPart : Value}
    (xaNoPart : PySem.W.nsIn K mainGlobals "NoPart" = some (some (.ref xCNoPart)))
    (xeNoPart : PySem.W.nsIn K mainGlobals "NetError" = some (some (.ref xBNoPart)))
    (xLNoPart : K.lookup xCNoPart = some (excClassObj xnmNoPart xqNoPart xCNoPart xNNoPart xbsNoPart [.ref xBNoPart, .type "ValueError", .type "Exception", .type "BaseException", .type "object"] true xsnNoPart xsubNoPart xabNoPart xcolNoPart xddNoPart xm0NoPart xm1NoPart xm2NoPart xm3NoPart xm5NoPart "ValueError.__new__"))
    (xsaNoPart : PySem.W.findIn K (.ref xCNoPart) "__setattr__" = some (some (.builtin "object.__setattr__")))
    (xexNoPart : PySem.W.subIn K (.ref xCNoPart) (.type "BaseException") = some true)
    (xtyNoPart : PySem.W.typeIn K (.ref xCNoPart) = some (.type "type"))
    (xkNoPart : PySem.W.keepIn K (.ref xCNoPart) = true)
    (xiNoPart : PySem.W.findIn K (.ref xCNoPart) "__init__" = some (some (.ref xINoPart)))
    (xtNoPart : PySem.W.typeIn K (.ref xINoPart) = some (.type "function"))
    (xlNoPart : K.lookup xINoPart = some ⟨xocNoPart, xodNoPart, .func (PySem.W.fnOf "__init__" "NoPart.__init__" (defArgs s_x_NoPart) (defBody s_x_NoPart) (defScope s_x_NoPart) .none xkVNoPart xdcNoPart xpmNoPart xanNoPart xcdNoPart xctNoPart), xslNoPart⟩)
    (xcNoPart : PySem.W.codeIn K xcdNoPart "NoPart.__init__" = true)
    (xkpNoPart : PySem.W.keepIn K (.ref xINoPart) = true)
    (xicNoPart : PySem.W.isClsIn K xCNoPart = true)
    (xssNoPart : PySem.W.subIn K (.ref xCNoPart) (.ref xCNoPart) = some true)
    (xrNoPart : PySem.W.readsIn K xBNoPart (.type "type") = true)
    (xgNoPart : PySem.W.specialIn K (.ref xBNoPart) "__getattribute__" = some (some (.builtin "type.__getattribute__")))
    (xfNoPart : PySem.W.findCls K (.ref xBNoPart) (.type "type") "__init__" = some (.val (.builtin "ValueError.__init__")))
    : ∃ fd : FuncData, (∀ (s : Shared) (v : Value), BindsTo s fd ⟨[v], []⟩ [("_law_script", v)]) ∧ ∀ base : Heap, K.In base → base.Ns mainGlobals mg → SysOk l.prog base → FnG l.prog w K mg base 8 fa fd ["_law_script"] (spOf K mg m_law) := by
  have e := hfa.symm.trans (PySem.W.mg_of X G a27)
  cases e
  have F0 := fun_mk (st := s_shared_by) l0 c0 k0
  have F1 := fun_mk (st := s_plus) l1 c1 k1
  have F2 := fun_mk (st := s_minus) l2 c2 k2
  have F3 := fun_mk (st := s_times) l3 c3 k3
  have F4 := fun_mk (st := s_over) l4 c4 k4
  have F5 := fun_mk (st := s_trimmed) l5 c5 k5
  have F6 := fun_mk (st := s_part_of) l6 c6 k6
  have F7 := fun_mk (st := s_poly_plus) l7 c7 k7
  have F8 := fun_mk (st := s_poly_times) l8 c8 k8
  have F9 := fun_mk (st := s_poly_by) l9 c9 k9
  have F10 := fun_mk (st := s_poly_parted) l10 c10 k10
  have F11 := fun_mk (st := s_poly_common) l11 c11 k11
  have F12 := fun_mk (st := s_poly_at) l12 c12 k12
  have F13 := fun_mk (st := s_ratio) l13 c13 k13
  have F14 := fun_mk (st := s_ratio_at) l14 c14 k14
  have F15 := fun_mk (st := s_l_begin) l15 c15 k15
  have F16 := fun_mk (st := s_l_draw) l16 c16 k16
  have F17 := fun_mk (st := s_l_shared) l17 c17 k17
  have F18 := fun_mk (st := s_l_made) l18 c18 k18
  have F19 := fun_mk (st := s_l_whole) l19 c19 k19
  have F20 := fun_mk (st := s_l_some) l20 c20 k20
  have F21 := fun_mk (st := s_l_small) l21 c21 k21
  have F22 := fun_mk (st := s_l_trim) l22 c22 k22
  have F23 := fun_mk (st := s_l_poly) l23 c23 k23
  have F24 := fun_mk (st := s_l_values_right) l24 c24 k24
  have F25 := fun_mk (st := s_l_ratio_right) l25 c25 k25
  have F26 := fun_mk (st := s_l_points) l26 c26 k26
  have F27 := fun_mk (st := s_law) l27 c27 k27
  have FXNoPart := fun_mk (st := s_x_NoPart) xlNoPart xcNoPart xkpNoPart
  have T : Tx K mg := ⟨PySem.W.mg_none_of X G z_abs, PySem.W.mg_none_of X G z_all, PySem.W.mg_none_of X G z_enumerate, PySem.W.mg_none_of X G z_int, PySem.W.mg_none_of X G z_len, PySem.W.mg_none_of X G z_list, PySem.W.mg_none_of X G z_max, PySem.W.mg_none_of X G z_range, PySem.W.mg_none_of X G z_tuple, ⟨_, PySem.W.mg_of X G nNOUGHT, (cr_tup mNOUGHT_0 (Nat.le_of_ble_eq_true rfl) (crs_cons cr_int (crs_cons cr_int crs_nil)))⟩, ⟨_, PySem.W.mg_of X G nONE, (cr_tup mONE_0 (Nat.le_of_ble_eq_true rfl) (crs_cons cr_int (crs_cons cr_int crs_nil)))⟩, ⟨_, _, F0, PySem.W.mg_of X G a0⟩, ⟨_, _, F1, PySem.W.mg_of X G a1⟩, ⟨_, _, F2, PySem.W.mg_of X G a2⟩, ⟨_, _, F3, PySem.W.mg_of X G a3⟩, ⟨_, _, F4, PySem.W.mg_of X G a4⟩, ⟨_, _, F5, PySem.W.mg_of X G a5⟩, ⟨_, _, F6, PySem.W.mg_of X G a6⟩, ⟨_, _, F7, PySem.W.mg_of X G a7⟩, ⟨_, _, F8, PySem.W.mg_of X G a8⟩, ⟨_, _, F9, PySem.W.mg_of X G a9⟩, ⟨_, _, F10, PySem.W.mg_of X G a10⟩, ⟨_, _, F11, PySem.W.mg_of X G a11⟩, ⟨_, _, F12, PySem.W.mg_of X G a12⟩, ⟨_, _, F13, PySem.W.mg_of X G a13⟩, ⟨_, _, F14, PySem.W.mg_of X G a14⟩, ⟨_, _, F15, PySem.W.mg_of X G a15⟩, ⟨_, _, F16, PySem.W.mg_of X G a16⟩, ⟨_, _, F17, PySem.W.mg_of X G a17⟩, ⟨_, _, F18, PySem.W.mg_of X G a18⟩, ⟨_, _, F19, PySem.W.mg_of X G a19⟩, ⟨_, _, F20, PySem.W.mg_of X G a20⟩, ⟨_, _, F21, PySem.W.mg_of X G a21⟩, ⟨_, _, F22, PySem.W.mg_of X G a22⟩, ⟨_, _, F23, PySem.W.mg_of X G a23⟩, ⟨_, _, F24, PySem.W.mg_of X G a24⟩, ⟨_, _, F25, PySem.W.mg_of X G a25⟩, ⟨_, _, F26, PySem.W.mg_of X G a26⟩, ⟨_, _, F27, PySem.W.mg_of X G a27⟩, ⟨_, _, _, _, _, PySem.W.mg_of X G xaNoPart, ⟨⟨_, _, _, _, _, _, _, _, _, _, _, _, _, _, _, xLNoPart, by rfl⟩, xsaNoPart, xexNoPart, xtyNoPart, xkNoPart⟩, xiNoPart, xtNoPart, FXNoPart, FXNoPart.binds fun _ _ _ _ _ _ us hl => (match us, hl with | [_], _ => rfl), PySem.W.mg_of X G xeNoPart, xrNoPart, xgNoPart, xfNoPart⟩⟩
  exact ⟨_, fun s v => .of_eq rfl, fun base _ _ hs => fnG (Kn := Kn) F27 sc_law ⟨T, hs⟩ hs ok_law ck_law⟩
end Law
open PySem PySem.W PyProof.Rows in
set_option maxRecDepth 100000 in
set_option maxHeartbeats 0 in
theorem PySem.Challenge.cw_wirereckon_k07_whole_polynomials_by_valu_holds : PySem.Challenge.rw_wirereckon_k07_whole_polynomials_by_valu.Holds := by
  w_on; o_law; k_head; (case hw => w_witness2)
  k_fill
  refine Mi.walkG (l := PySem.Challenge.rw_wirereckon_k07_whole_polynomials_by_valu) (m := Law.m_law) (k := 8) (x := "_law_script") rfl (by decide) rfl ⟨⟨rfl, by decide, by decide⟩, by decide⟩ rfl (by decide +kernel) (fun w h Y => PySem.W.kIn_of Y) ?F Law.law_true
  case F =>
    intro w mg fa h KX G hmg
    refine' Law.all_mk KX G hmg ?a0 ?l0 ?c0 ?k0 ?a1 ?l1 ?c1 ?k1 ?a2 ?l2 ?c2 ?k2 ?a3 ?l3 ?c3 ?k3 ?a4 ?l4 ?c4 ?k4 ?a5 ?l5 ?c5 ?k5 ?a6 ?l6 ?c6 ?k6 ?a7 ?l7 ?c7 ?k7 ?a8 ?l8 ?c8 ?k8 ?a9 ?l9 ?c9 ?k9 ?a10 ?l10 ?c10 ?k10 ?a11 ?l11 ?c11 ?k11 ?a12 ?l12 ?c12 ?k12 ?a13 ?l13 ?c13 ?k13 ?a14 ?l14 ?c14 ?k14 ?a15 ?l15 ?c15 ?k15 ?a16 ?l16 ?c16 ?k16 ?a17 ?l17 ?c17 ?k17 ?a18 ?l18 ?c18 ?k18 ?a19 ?l19 ?c19 ?k19 ?a20 ?l20 ?c20 ?k20 ?a21 ?l21 ?c21 ?k21 ?a22 ?l22 ?c22 ?k22 ?a23 ?l23 ?c23 ?k23 ?a24 ?l24 ?c24 ?k24 ?a25 ?l25 ?c25 ?k25 ?a26 ?l26 ?c26 ?k26 ?a27 ?l27 ?c27 ?k27 ?nNOUGHT ?mNOUGHT_0 ?nONE ?mONE_0 ?z_abs ?z_all ?z_enumerate ?z_int ?z_len ?z_list ?z_max ?z_range ?z_tuple ?xaNoPart ?xeNoPart ?xLNoPart ?xsaNoPart ?xexNoPart ?xtyNoPart ?xkNoPart ?xiNoPart ?xtNoPart ?xlNoPart ?xcNoPart ?xkpNoPart ?xicNoPart ?xssNoPart ?xrNoPart ?xgNoPart ?xfNoPart
    (case a0 => k_is)
    (case l0 => k_is)
    (case c0 => k_is)
    (case k0 => k_is)
    (case a1 => k_is)
    (case l1 => k_is)
    (case c1 => k_is)
    (case k1 => k_is)
    (case a2 => k_is)
    (case l2 => k_is)
    (case c2 => k_is)
    (case k2 => k_is)
    (case a3 => k_is)
    (case l3 => k_is)
    (case c3 => k_is)
    (case k3 => k_is)
    (case a4 => k_is)
    (case l4 => k_is)
    (case c4 => k_is)
    (case k4 => k_is)
    (case a5 => k_is)
    (case l5 => k_is)
    (case c5 => k_is)
    (case k5 => k_is)
    (case a6 => k_is)
    (case l6 => k_is)
    (case c6 => k_is)
    (case k6 => k_is)
    (case a7 => k_is)
    (case l7 => k_is)
    (case c7 => k_is)
    (case k7 => k_is)
    (case a8 => k_is)
    (case l8 => k_is)
    (case c8 => k_is)
    (case k8 => k_is)
    (case a9 => k_is)
    (case l9 => k_is)
    (case c9 => k_is)
    (case k9 => k_is)
    (case a10 => k_is)
    (case l10 => k_is)
    (case c10 => k_is)
    (case k10 => k_is)
    (case a11 => k_is)
    (case l11 => k_is)
    (case c11 => k_is)
    (case k11 => k_is)
    (case a12 => k_is)
    (case l12 => k_is)
    (case c12 => k_is)
    (case k12 => k_is)
    (case a13 => k_is)
    (case l13 => k_is)
    (case c13 => k_is)
    (case k13 => k_is)
    (case a14 => k_is)
    (case l14 => k_is)
    (case c14 => k_is)
    (case k14 => k_is)
    (case a15 => k_is)
    (case l15 => k_is)
    (case c15 => k_is)
    (case k15 => k_is)
    (case a16 => k_is)
    (case l16 => k_is)
    (case c16 => k_is)
    (case k16 => k_is)
    (case a17 => k_is)
    (case l17 => k_is)
    (case c17 => k_is)
    (case k17 => k_is)
    (case a18 => k_is)
    (case l18 => k_is)
    (case c18 => k_is)
    (case k18 => k_is)
    (case a19 => k_is)
    (case l19 => k_is)
    (case c19 => k_is)
    (case k19 => k_is)
    (case a20 => k_is)
    (case l20 => k_is)
    (case c20 => k_is)
    (case k20 => k_is)
    (case a21 => k_is)
    (case l21 => k_is)
    (case c21 => k_is)
    (case k21 => k_is)
    (case a22 => k_is)
    (case l22 => k_is)
    (case c22 => k_is)
    (case k22 => k_is)
    (case a23 => k_is)
    (case l23 => k_is)
    (case c23 => k_is)
    (case k23 => k_is)
    (case a24 => k_is)
    (case l24 => k_is)
    (case c24 => k_is)
    (case k24 => k_is)
    (case a25 => k_is)
    (case l25 => k_is)
    (case c25 => k_is)
    (case k25 => k_is)
    (case a26 => k_is)
    (case l26 => k_is)
    (case c26 => k_is)
    (case k26 => k_is)
    (case a27 => k_is)
    (case l27 => k_is)
    (case c27 => k_is)
    (case k27 => k_is)
    (case nNOUGHT => k_is)
    (case mNOUGHT_0 => k_is)
    (case nONE => k_is)
    (case mONE_0 => k_is)
    (case z_abs => k_is)
    (case z_all => k_is)
    (case z_enumerate => k_is)
    (case z_int => k_is)
    (case z_len => k_is)
    (case z_list => k_is)
    (case z_max => k_is)
    (case z_range => k_is)
    (case z_tuple => k_is)
    (case xaNoPart => k_is)
    (case xeNoPart => k_is)
    (case xLNoPart => k_is)
    (case xsaNoPart => k_is)
    (case xexNoPart => k_is)
    (case xtyNoPart => k_is)
    (case xkNoPart => k_is)
    (case xiNoPart => k_is)
    (case xtNoPart => k_is)
    (case xlNoPart => k_is)
    (case xcNoPart => k_is)
    (case xkpNoPart => k_is)
    (case xicNoPart => first | rfl | k_is | decide +kernel)
    (case xssNoPart => first | rfl | k_is | decide +kernel)
    (case xrNoPart => first | rfl | k_is | decide +kernel)
    (case xgNoPart => first | rfl | k_is | decide +kernel)
    (case xfNoPart => first | rfl | k_is | decide +kernel)
