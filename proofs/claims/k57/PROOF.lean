import PyProof.Rows.All
import Wide.All
import OpenK.AllK
import Wide.FinOn
import HandS.ForMost
import HandS.ForExc
import HandS.IsInst
import HandS.Lambda
import HandS.Wide
import HandS.TupAny
import HandS.RaiseMore
import HandS.Style
import HandS.EndOwn
import HandS.Comp
import HandS.Zip
import KE.GoesMore
import HandS.Deep
import HandS.SetFor
import HandS.Steps
import HandS.FStr
import HandS.StrMore
import HandS.Text
import HandS.SetKeys
import HandS.More
import KE.GoesZip
import HandS.ExcInit
import HandS.Codes
import KE.KDictPairs
import HandS.DictComp
import HandS.SetBool
import HandS.Strs
import HandS.Iter
import KE.SortData
import HandS.SortRule
import HandS.ListItems
import HandS.DictTup
import KE.KDictList
import KE.KDictWalk
import KE.KDictCopyH
import HandS.WordsDict
import HandS.List
import HandS.Conv
import PyProof.P3In
import PyProof.ListStr
import PyProof.Rows.InDataRows
import HandS.ExcField
import HandS.TryOnly
import PySem.Challenge.RW_wirereckon_k57_turns_at_the_first_row
import HandS.Head0
import HandS.Head1
import HandS.Head2
import HandS.HeadHook1
import KE.KStateDown
set_option Elab.async false
set_option linter.all false
set_option maxRecDepth 100000
set_option maxHeartbeats 4000000
theorem XqA.{u} {α : Type u} {l : List α} {i : Nat} (h : i < l.length) : l[i]? = some l[i] := List.getElem?_eq_getElem h
theorem XqB.{u} {α : Type u} {i : Nat} {a : α} {l : List α} (h : l[i]? = some a) : ∃ h : i < l.length, l[i] = a := List.getElem?_eq_some_iff.mp h
theorem XqC.{u} {α : Type u} {l : List α} {i j : Nat} (h : i ≠ j) {a : α} : (l.set i a)[j]? = l[j]? := List.getElem?_set_ne h
theorem XqD.{u} {α : Type u} {l : List α} {i : Nat} {a : α} : l.getD i a = l[i]?.getD a := List.getD_eq_getElem?_getD
theorem XqE.{u} {α : Type u} {l : List α} {i : Nat} (h : l.length <= i) : l[i]? = none := List.getElem?_eq_none h
theorem XqF.{u, v} {α : Type u} {β : Type v} {f : α -> β} {l : List α} {i : Nat} : (l.map f)[i]? = l[i]?.map f := List.getElem?_map
open List (all_cons all_eq_true any_eq_true append_assoc append_nil cons_append eq_nil_of_length_eq_zero ext_getElem? filter_append find?_cons getD_eq_getElem?_getD getElem?_append_left getElem?_append_right getElem?_cons_succ getElem?_cons_zero getElem?_eq_getElem getElem?_eq_none getElem?_map getElem?_set_ne getElem?_set_self getElem_mem getElem_of_mem length_append length_cons length_drop length_filter_le length_map length_nil length_pos_iff length_set length_take length_zip map_append map_cons map_map map_nil mem_append mem_append_left mem_append_right mem_cons mem_cons_of_mem mem_cons_self mem_filter mem_map mem_map_of_mem mem_of_getElem? mem_singleton mergeSort_perm nil_append nodup_append nodup_cons nodup_nil not_mem_nil replicate replicate_succ replicate_zero set_cons_succ set_cons_zero set_set size_toArray sum_cons take_length take_of_length_le take_succ take_zero zipWith)
open Bool (and_eq_true false_eq_true not_eq_true' or_eq_true true_eq_false)
local macro_rules | `(⋯) => `(by omega)
local macro_rules | `(∅) => `(by decide +kernel)
theorem XqG {n : Nat} : n <= n := Nat.le_refl n
namespace Mi
open PySem L2 PyProof.Rows
class Tb where
 T : List (Addr × Str)
 /-- where a class of the program's own stands -/
 C : Str -> Addr := fun _ => 0
 /-- where a def that is handed on as a value stands -/
 F : Str -> Addr := fun _ => 0
instance (priority := low) tb0 : Tb := ⟨[], fun _ => 0, fun _ => 0⟩
inductive D where
 | non | bl (b : Bool) | int (i : Int) | str (x : Str) | tup (ds : List D) | fro (ds : List D) | ref (l : Nat) | fn (x : Str) | tpl (ds : List D)
inductive O where
 | lst (ds : List D) | dct (kvs : List (Key × D)) | ins (c : Str) (fs : List (Str × D)) | fzd (kvs : List (Key × D))
structure Ex where
 cls : Str
 fs : Option (List (Str × D))
def M (α : Type) : Type := List O -> Option (Except Ex α × List O)
def M.ret {α : Type} (a : α) : M α := fun Z => some (.ok a, Z)
def M.bnd {α β : Type} (m : M α) (f : α -> M β) : M β := fun Z => match m Z with
 | none => none
 | some (.error x, Z1) => some (.error x, Z1)
 | some (.ok a, Z1) => f a Z1
def M.stop {α : Type} : M α := fun _ => none
instance : Monad M where
 pure := M.ret
 bind := M.bnd
abbrev Env := List (Option D)
def Imm : HO -> Prop
 | .tup _ => True
 | .frz _ _ => True
 | _ => False
def IsT (o : HO) : Prop := ∃ ps, o = .tbl ps
structure Ext (α : List Addr) (H : Hp) (α' : List Addr) (H' : Hp) : Prop where
 pre : ∀ (l : Nat) p, α[l]? = some p -> α'[l]? = some p
 keep : ∀ p o, H p = some o -> (Imm o \/ p ∉ α) -> H' p = some o \/ IsT o
 new : ∀ p, p ∈ α' -> p ∈ α \/ ∀ o, H p = some o -> IsT o
theorem Ext.refl (α : List Addr) (H : Hp) : Ext α H α H := ⟨fun _ _ h => h, fun _ _ h _ => .inl h, fun _ h => .inl h⟩
theorem Ext.trans {α α1 α2 : List Addr} {H H1 H2 : Hp} (a : Ext α H α1 H1) (b : Ext α1 H1 α2 H2) : Ext α H α2 H2 where
 pre := fun l p h => b.pre l p (a.pre l p h)
 keep := fun p o h c => by
  rcases a.keep p o h c with z | z
  ·by_cases ht : IsT o
   ·exact .inr ht
   ·exact b.keep p o z (c.imp id fun n hm => (a.new p hm).elim n fun q => ht (q o h))
  ·exact .inr z
 new := fun p h => by
  rcases b.new p h with z | z
  ·exact a.new p z
  ·by_cases hm : p ∈ α
   ·exact .inl hm
   ·exact .inr fun o q => (a.keep p o q (.inr hm)).elim (fun w => z o w) id
theorem Ext.imm {α α' : List Addr} {H H' : Hp} (k : Ext α H α' H') {p : Addr} {o : HO} (h : H p = some o) (i : Imm o) : H' p = some o := (k.keep p o h (.inl i)).elim id fun ⟨ps, e⟩ => by
 subst e
 exact i.elim
theorem Ext.lay {α : List Addr} {H : Hp} {p : Addr} {o : HO} (h : H p = none) : Ext α H α (upd H p o) :=
 ⟨fun _ _ h => h, fun q u e _ => by rw [upd_ne (ne_of_none e h)]; exact .inl e, fun _ h => .inl h⟩
theorem Ext.push {α : List Addr} {H : Hp} {p : Addr} {o : HO} (h : H p = none) : Ext α H (α ++ [p]) (upd H p o) :=
 ⟨fun l q z => by rw [getElem?_append_left (XqB z).1]; exact z, fun q u e _ => by rw [upd_ne (ne_of_none e h)]; exact .inl e,
  fun q z => (mem_append.mp z).imp id fun w => by
   have e : q = p := by simpa using w
   rw [e]; exact fun o q => by rw [h] at q; cases q⟩
theorem Ext.put {α : List Addr} {H : Hp} {p : Addr} {o u : HO} {l : Nat} (hp : α[l]? = some p) (h : H p = some u) (ni : ¬ Imm u) : Ext α H α (upd H p o) :=
 ⟨fun _ _ h => h, fun q v e c => by
  have ne : q ≠ p := fun z => by
   subst z
   rcases c with c | c
   ·rw [h] at e
    cases e
    exact ni c
   ·exact c (mem_of_getElem? hp)
  rw [upd_ne ne]
  exact .inl e, fun _ h => .inl h⟩
theorem Ext.rdT {α α' : List Addr} {H H' : Hp} {p : Addr} {xs : List V} (k : Ext α H α' H') (h : Rd H p (.tup xs)) : Rd H' p (.tup xs) := by
 rcases h with h | ⟨o, h⟩
 ·exact .inl (k.imm h trivial)
 ·exact .inr ⟨o, k.imm h trivial⟩
theorem Ext.sqT {K : PySem.W.Frag} {α α' : List Addr} {H H' : Hp} {p : Addr} {xs : List V} (k : Ext α H α' H') (h : SqT K H p xs) : SqT K H' p xs := by
 rcases h with h | h
 ·exact .inl (k.rdT h)
 ·exact .inr h
def FzT (H : Hp) (p : Addr) (xs : List V) : Prop := ∃ o : PySem.Obj, H p = some (.frz o (.tup xs)) /\ o.dict = none
theorem FzT.sq {K : PySem.W.Frag} {H : Hp} {p : Addr} {xs : List V} (h : FzT H p xs) : SqT K H p xs := by
 obtain ⟨o, h, _⟩ := h
 exact .inl (.inr ⟨o, h⟩)
theorem Ext.fzT {α α' : List Addr} {H H' : Hp} {p : Addr} {xs : List V} (k : Ext α H α' H') (h : FzT H p xs) : FzT H' p xs := by
 obtain ⟨o, h, d⟩ := h
 exact ⟨o, k.imm h trivial, d⟩
def FqL (K : PySem.W.Frag) (H : Hp) (p : Addr) (xs : List V) : Prop := (∃ o, H p = some (.frz o (.lst xs))) \/ SqL K (fun _ => none) p xs
theorem FqL.sq {K : PySem.W.Frag} {H : Hp} {p : Addr} {xs : List V} (h : FqL K H p xs) : SqL K H p xs := by
 rcases h with h | (h | ⟨o, h⟩) | h
 ·exact .inl (.inr h)
 ·cases h
 ·cases h
 ·exact .inr h
theorem Ext.fqL {K : PySem.W.Frag} {α α' : List Addr} {H H' : Hp} {p : Addr} {xs : List V} (k : Ext α H α' H') (h : FqL K H p xs) : FqL K H' p xs := by
 rcases h with ⟨o, h⟩ | h
 ·exact .inl ⟨o, k.imm h trivial⟩
 ·exact .inr h
variable [Tb]
mutual
def Rep (K : PySem.W.Frag) (α : List Addr) (H : Hp) : D -> V -> Prop
 | .non, v => v = .non
 | .bl b, v => v = .bl b
 | .int i, v => v = .int i
 | .str x, v => v = .str x
 | .tup ds, v => ∃ p vs, v = .ref p /\ SqT K H p vs /\ Bh K α H ds vs
 | .fro ds, v => ∃ p vs, v = .ref p /\ FqL K H p vs /\ Bh K α H ds vs
 | .ref l, v => ∃ p, v = .ref p /\ α[l]? = some p
 | .fn x, v => v = .ref (Tb.F x)
 | .tpl ds, v => ∃ p vs, v = .ref p /\ FzT H p vs /\ Bh K α H ds vs
def Bh (K : PySem.W.Frag) (α : List Addr) (H : Hp) : List D -> List V -> Prop
 | [], vs => vs = []
 | d :: ds, vs => ∃ v r, vs = v :: r /\ Rep K α H d v /\ Bh K α H ds r
end
mutual
theorem Rep.up {K : PySem.W.Frag} {α α' : List Addr} {H H' : Hp} (k : Ext α H α' H') : ∀ {d : D} {v : V}, Rep K α H d v -> Rep K α' H' d v
 | .non, _, h => h
 | .bl _, _, h => h
 | .int _, _, h => h
 | .str _, _, h => h
 | .tup ds, _, ⟨p, vs, e, t, r⟩ => ⟨p, vs, e, k.sqT t, Bh.up k r⟩
 | .fro ds, _, ⟨p, vs, e, t, r⟩ => ⟨p, vs, e, k.fqL t, Bh.up k r⟩
 | .ref l, _, ⟨p, e, a⟩ => ⟨p, e, k.pre l p a⟩
 | .fn _, _, h => h
 | .tpl ds, _, ⟨p, vs, e, t, r⟩ => ⟨p, vs, e, k.fzT t, Bh.up k r⟩
theorem Bh.up {K : PySem.W.Frag} {α α' : List Addr} {H H' : Hp} (k : Ext α H α' H') : ∀ {ds : List D} {vs : List V}, Bh K α H ds vs -> Bh K α' H' ds vs
 | [], _, h => h
 | _ :: _, _, ⟨v, r, e, a, b⟩ => ⟨v, r, e, Rep.up k a, Bh.up k b⟩
end
section
variable {K : PySem.W.Frag} {α : List Addr} {H : Hp}
theorem Bh.len : ∀ {ds : List D} {vs : List V}, Bh K α H ds vs -> vs.length = ds.length
 | [], _, h => by
  have e : _ = ([] : List V) := h
  rw [e]; rfl
 | _ :: _, _, ⟨v, r, e, a, b⟩ => by rw [e, length_cons, length_cons, Bh.len b]
theorem Bh.get : ∀ {ds : List D} {vs : List V} {i : Nat} {d : D}, Bh K α H ds vs -> ds[i]? = some d -> ∃ v, vs[i]? = some v /\ Rep K α H d v
 | [], _, i, d, _, h => by simp at h
 | d0 :: ds, _, 0, d, ⟨v, r, e, a, b⟩, h => by
  simp at h
  subst h e
  exact ⟨v, rfl, a⟩
 | d0 :: ds, _, i + 1, d, ⟨v, r, e, a, b⟩, h => by
  subst e
  obtain ⟨w, h1, h2⟩ := Bh.get (i := i) b (by simpa using h)
  exact ⟨w, by simpa using h1, h2⟩
theorem Bh.get' {ds : List D} {vs : List V} {i : Nat} {v : V} (r : Bh K α H ds vs) (h : vs[i]? = some v) : ∃ d, ds[i]? = some d /\ Rep K α H d v := by
 obtain ⟨hi, _⟩ := XqB h
 rw [r.len] at hi
 obtain ⟨w, h1, h2⟩ := r.get (getElem?_eq_getElem hi)
 rw [h] at h1
 cases h1
 exact ⟨_, getElem?_eq_getElem hi, h2⟩
theorem Bh.nil : Bh K α H [] [] := rfl
theorem Bh.cons {d : D} {v : V} {ds : List D} {vs : List V} (a : Rep K α H d v) (b : Bh K α H ds vs) : Bh K α H (d :: ds) (v :: vs) := ⟨v, vs, rfl, a, b⟩
theorem Bh.app : ∀ {ds es : List D} {vs ws : List V}, Bh K α H ds vs -> Bh K α H es ws -> Bh K α H (ds ++ es) (vs ++ ws)
 | [], _, _, _, h, h2 => by
  have e : _ = ([] : List V) := h
  rw [e]; exact h2
 | _ :: _, _, _, _, ⟨v, r, e, a, b⟩, h2 => ⟨v, r ++ _, by rw [e]; rfl, a, Bh.app b h2⟩
theorem Bh.set : ∀ {ds : List D} {vs : List V} {d : D} {v : V} (i : Nat), Bh K α H ds vs -> Rep K α H d v -> Bh K α H (ds.set i d) (vs.set i v)
 | [], _, _, _, _, h, _ => by
  have e : _ = ([] : List V) := h
  rw [e]; exact rfl
 | _ :: _, _, _, _, 0, ⟨v, r, e, a, b⟩, h2 => by
  subst e
  exact ⟨_, r, rfl, h2, b⟩
 | _ :: _, _, _, _, i + 1, ⟨v, r, e, a, b⟩, h2 => by
  subst e
  exact ⟨v, _, rfl, a, Bh.set i b h2⟩
theorem Bh.take : ∀ {ds : List D} {vs : List V} (n : Nat), Bh K α H ds vs -> Bh K α H (ds.take n) (vs.take n)
 | _, _, 0, _ => rfl
 | [], _, n + 1, h => by
  have e : _ = ([] : List V) := h
  rw [e]; exact rfl
 | _ :: _, _, n + 1, ⟨v, r, e, a, b⟩ => by
  subst e
  exact ⟨v, _, rfl, a, Bh.take n b⟩
theorem Bh.drop : ∀ {ds : List D} {vs : List V} (n : Nat), Bh K α H ds vs -> Bh K α H (ds.drop n) (vs.drop n)
 | _, _, 0, h => h
 | [], _, n + 1, h => by
  have e : _ = ([] : List V) := h
  rw [e]; exact rfl
 | _ :: _, _, n + 1, ⟨v, r, e, a, b⟩ => by
  subst e
  exact Bh.drop n b
theorem Bh.one {ds : List D} {v : V} (h : Bh K α H ds [v]) : ∃ d, ds = [d] /\ Rep K α H d v := by
 match ds, h with
 | [], h => cases (show [v] = [] from h)
 | [d], ⟨_, _, e, a, b⟩ => cases e; exact ⟨d, rfl, a⟩
 | _ :: _ :: _, ⟨_, _, e, a, _, _, e2, _⟩ => cases e; cases e2
end
def Bo (K : PySem.W.Frag) (α : List Addr) (H : Hp) : List (Key × D) -> List (Key × V) -> Prop
 | [], ws => ws = []
 | (k, d) :: r, ws => ∃ v s, ws = (k, v) :: s /\ Rep K α H d v /\ Bo K α H r s
theorem Bo.up {K : PySem.W.Frag} {α α' : List Addr} {H H' : Hp} (k : Ext α H α' H') : ∀ {ds : List (Key × D)} {vs : List (Key × V)}, Bo K α H ds vs -> Bo K α' H' ds vs
 | [], _, h => h
 | _ :: _, _, ⟨v, s, e, a, b⟩ => ⟨v, s, e, Rep.up k a, Bo.up k b⟩
def Rm (K : PySem.W.Frag) (α : List Addr) (H : Hp) : List (Str × D) -> List (Str × V) -> Prop
 | [], ws => ws = []
 | (k, d) :: r, ws => ∃ v s, ws = (k, v) :: s /\ Rep K α H d v /\ Rm K α H r s
theorem Rm.up {K : PySem.W.Frag} {α α' : List Addr} {H H' : Hp} (k : Ext α H α' H') : ∀ {ds : List (Str × D)} {vs : List (Str × V)}, Rm K α H ds vs -> Rm K α' H' ds vs
 | [], _, h => h
 | _ :: _, _, ⟨v, s, e, a, b⟩ => ⟨v, s, e, Rep.up k a, Rm.up k b⟩
def XN (K : PySem.W.Frag) (α : List Addr) (H : Hp) : O -> Addr -> Prop
 | .lst ds, p => ∃ vs, H p = some (.lst vs) /\ Bh K α H ds vs
 | .dct kvs, p => ∃ ws, H p = some (.dK ws) /\ Bo K α H kvs ws
 | .ins c fs, p => ∃ dx ws, H p = some (.ins (Tb.C c) dx ws) /\ Rm K α H fs ws
 | .fzd kvs, p => ∃ ob ws, H p = some (.frz ob (.dK ws)) /\ Bo K α H kvs ws
theorem XN.up {K : PySem.W.Frag} {α α' : List Addr} {H H' : Hp} (k : Ext α H α' H') {o : O} {p : Addr} (e : H' p = H p) (h : XN K α H o p) : XN K α' H' o p := by
 cases o with
 | lst ds =>
  obtain ⟨vs, h1, h2⟩ := h
  exact ⟨vs, e.trans h1, h2.up k⟩
 | dct ds =>
  obtain ⟨vs, h1, h2⟩ := h
  exact ⟨vs, e.trans h1, h2.up k⟩
 | ins c fs =>
  obtain ⟨dx, vs, h1, h2⟩ := h
  exact ⟨dx, vs, e.trans h1, h2.up k⟩
 | fzd kvs =>
  obtain ⟨ob, vs, h1, h2⟩ := h
  exact ⟨ob, vs, e.trans h1, h2.up k⟩
theorem XN.some {K : PySem.W.Frag} {α : List Addr} {H : Hp} {o : O} {p : Addr} (h : XN K α H o p) : ∃ u, H p = some u /\ (¬ Imm u \/ ∃ kvs, o = .fzd kvs) := by
 cases o with
 | lst ds =>
  obtain ⟨vs, h1, _⟩ := h
  exact ⟨_, h1, .inl fun z => z⟩
 | dct ds =>
  obtain ⟨vs, h1, _⟩ := h
  exact ⟨_, h1, .inl fun z => z⟩
 | ins c fs =>
  obtain ⟨dx, vs, h1, _⟩ := h
  exact ⟨_, h1, .inl fun z => z⟩
 | fzd kvs =>
  obtain ⟨ob, vs, h1, _⟩ := h
  exact ⟨_, h1, .inr ⟨_, rfl⟩⟩
theorem N6 {K : PySem.W.Frag} {α : List Addr} {H : Hp} {o : O} {p : Addr} (h : XN K α H o p) : ∃ u, H p = some u /\ (∀ ps, u ≠ .tbl ps) /\ ∀ c q, u ≠ LamX.CodeO c q := by
 cases o with
 | lst ds =>
  obtain ⟨vs, h1, _⟩ := h
  exact ⟨_, h1, fun ps z => (by cases z), fun c q z => (by unfold LamX.CodeO at z; cases z)⟩
 | dct ds =>
  obtain ⟨vs, h1, _⟩ := h
  exact ⟨_, h1, fun ps z => (by cases z), fun c q z => (by unfold LamX.CodeO at z; cases z)⟩
 | ins c fs =>
  obtain ⟨dx, vs, h1, _⟩ := h
  exact ⟨_, h1, fun ps z => (by cases z), fun c q z => (by unfold LamX.CodeO at z; cases z)⟩
 | fzd kvs =>
  obtain ⟨ob, vs, h1, _⟩ := h
  exact ⟨_, h1, fun ps z => (by cases z), fun c q z => (by unfold LamX.CodeO at z; cases z)⟩
structure RepS (K : PySem.W.Frag) (α : List Addr) (H : Hp) (Z : List O) : Prop where
 len : α.length = Z.length
 nd : α.Nodup
 at_ : ∀ (l : Nat) o p, Z[l]? = some o -> α[l]? = some p -> XN K α H o p
 tb : LamX.Tabs Tb.T H
section
variable {K : PySem.W.Frag} {α : List Addr} {H : Hp} {Z : List O}
theorem RepS.there (s : RepS K α H Z) {l : Nat} {p : Addr} (h : α[l]? = some p) : ∃ o, Z[l]? = some o /\ XN K α H o p := by
 obtain ⟨hl, _⟩ := XqB h
 have hl' : l < Z.length := by rw [<- s.len]; exact hl
 exact ⟨_, getElem?_eq_getElem hl', s.at_ l _ _ (getElem?_eq_getElem hl') h⟩
theorem RepS.fresh (s : RepS K α H Z) {p : Addr} (h : H p = none) : p ∉ α := fun hm => by
 obtain ⟨l, hl, e⟩ := getElem_of_mem hm
 obtain ⟨o, _, r⟩ := s.there (List.getElem?_eq_some_iff.mpr ⟨hl, e⟩)
 obtain ⟨u, hu, _⟩ := r.some
 rw [h] at hu
 cases hu
theorem RepS.lay (s : RepS K α H Z) {p : Addr} {u : HO} (hp : H p = none) : RepS K α (upd H p u) Z :=
 ⟨s.len, s.nd, fun l o q h1 h2 => by
  refine (s.at_ l o q h1 h2).up (Ext.lay hp) (upd_ne fun z => s.fresh hp ?_)
  rw [<- z]
  exact mem_of_getElem? h2, s.tb.ext fun b o e => by rw [upd_ne (ne_of_none e hp)]; exact e⟩
theorem RepS.push (s : RepS K α H Z) {p : Addr} {u : HO} {o : O} (hp : H p = none) (ho : XN K (α ++ [p]) (upd H p u) o p) : RepS K (α ++ [p]) (upd H p u) (Z ++ [o]) := by
 have np := s.fresh hp
 refine ⟨by simp [s.len], nodup_append.mpr ⟨s.nd, by simp, fun a ha b hb z => ?_⟩, fun l o' q h1 h2 => ?_, s.tb.ext fun b o e => by rw [upd_ne (ne_of_none e hp)]; exact e⟩
 ·simp at hb
  exact np (by rw [<- hb, <- z]; exact ha)
 ·by_cases hl : l < Z.length
  ·rw [getElem?_append_left hl] at h1
   rw [getElem?_append_left (by rw [s.len]; exact hl)] at h2
   refine (s.at_ l o' q h1 h2).up (Ext.push hp) (upd_ne fun z => np ?_)
   rw [<- z]
   exact mem_of_getElem? h2
  ·have e : l = Z.length := by
    have := (XqB h1).1
    simp at this
    omega
   subst e
   rw [getElem?_append_right XqG] at h1
   rw [getElem?_append_right (by rw [s.len]; exact XqG)] at h2
   simp [s.len] at h1 h2
   subst h1 h2
   exact ho
theorem RepS.put (s : RepS K α H Z) {p : Addr} {u : HO} {o : O} {l : Nat} (hp : α[l]? = some p) (ho : XN K α (upd H p u) o p) (x : Ext α H α (upd H p u)) : RepS K α (upd H p u) (Z.set l o) := by
 obtain ⟨o0, h0, r0⟩ := s.there hp
 obtain ⟨u0, hu, ni⟩ := r0.some
 obtain ⟨u1, hu1, nt, nc⟩ := N6 r0
 rw [hu] at hu1
 cases hu1
 refine ⟨by simp [s.len], s.nd, fun j o' q h1 h2 => ?_, fun y hy => ?_⟩
 rotate_left
 ·obtain ⟨ps, a1, a2, a3⟩ := s.tb y hy
  refine ⟨ps, by rw [upd_ne fun z => nt ps (Option.some.inj (hu.symm.trans (by rw [<- z]; exact a1)))]; exact a1, a2, fun pos cv hc => ?_⟩
  obtain ⟨c, e1, e2⟩ := a3 pos cv hc
  exact ⟨c, e1, by rw [upd_ne fun z => nc c y.2 (Option.some.inj (hu.symm.trans (by rw [<- z]; exact e2)))]; exact e2⟩
 by_cases hj : j = l
 ·subst hj
  rw [hp] at h2
  cases h2
  rw [getElem?_set_self (XqB h0).1] at h1
  cases h1
  exact ho
 ·rw [getElem?_set_ne (Ne.symm hj)] at h1
  have nq : q ≠ p := fun z => by
   subst z
   obtain ⟨b1, e1⟩ := XqB h2
   obtain ⟨b2, e2⟩ := XqB hp
   exact hj ((List.getElem_inj s.nd).mp (e1.trans e2.symm))
  exact (s.at_ j o' q h1 h2).up x (upd_ne nq)
end
structure RepE (K : PySem.W.Frag) (α : List Addr) (H : Hp) (Y : Env) (σ : L2.St) : Prop where
 len : Y.length = σ.length
 at_ : ∀ (i : Nat) d, Y[i]? = some (some d) -> ∃ v, σ[i]? = some (some v) /\ Rep K α H d v
section
variable {K : PySem.W.Frag} {α α' : List Addr} {H H' : Hp} {Y : Env} {σ : L2.St}
theorem RepE.up (e : RepE K α H Y σ) (k : Ext α H α' H') : RepE K α' H' Y σ :=
 ⟨e.len, fun i d h => let ⟨v, h1, h2⟩ := e.at_ i d h; ⟨v, h1, h2.up k⟩⟩
theorem RepE.set (e : RepE K α H Y σ) {d : D} {v : V} (i : Nat) (r : Rep K α H d v) : RepE K α H (Y.set i (some d)) (σ.set i (some v)) :=
 ⟨by simp [e.len], fun j d' h => by
  by_cases hj : j = i
  ·subst hj
   have hl := (XqB h).1
   rw [length_set] at hl
   rw [getElem?_set_self hl] at h
   cases h
   exact ⟨v, getElem?_set_self (by rw [<- e.len]; exact hl), r⟩
  ·rw [getElem?_set_ne (Ne.symm hj)] at h
   obtain ⟨w, h1, h2⟩ := e.at_ j d' h
   exact ⟨w, by rw [getElem?_set_ne (Ne.symm hj)]; exact h1, h2⟩⟩
theorem RepE.start {ds : List D} {vs : List V} {N : List Str} (r : Bh K α H ds vs) : RepE K α H (ds.map some ++ replicate (N.length - ds.length) none) (L2.start N vs) := by
 have hl := r.len
 refine ⟨by unfold L2.start; simp [hl], fun i d h => ?_⟩
 by_cases hi : i < ds.length
 ·rw [getElem?_append_left (by simpa using hi), getElem?_map] at h
  cases e : ds[i]? with
  | none => rw [e] at h; cases h
  | some d0 =>
   rw [e] at h
   cases h
   obtain ⟨v, h1, h2⟩ := r.get e
   refine ⟨v, ?_, h2⟩
   unfold L2.start
   rw [getElem?_append_left (by rw [length_map, hl]; exact hi), getElem?_map, h1]
   rfl
 ·rw [getElem?_append_right (by simpa using hi), List.getElem?_replicate] at h
  split at h <;> cases h
end
def RepX (K : PySem.W.Frag) (mg : Str -> Option Value) (α : List Addr) (H : Hp) (x : Ex) (c : Value) (dd : Option Addr) : Prop :=
 mg x.cls = some c /\ match x.fs with
  | none => dd = none
  | some fs => ∃ d ws, dd = some d /\ H d = some (.xd ws) /\ Rm K α H fs ws
def Aft {a b : Type} (R : List Addr -> Hp -> a -> b -> Prop) (K : PySem.W.Frag) (mg : Str -> Option Value) (E : XK) (α : List Addr) (H : Hp) (r : Except Ex a) (Z' : List O) (Q : b -> Hp -> Prop) : Prop :=
 match r with
 | .ok d => ∀ α' v H', Ext α H α' H' -> RepS K α' H' Z' -> R α' H' d v -> Q v H'
 | .error x => ∀ α' c dd H', Ext α H α' H' -> RepS K α' H' Z' -> RepX K mg α' H' x c dd -> E c dd H'
theorem Aft.up {a b : Type} {R : List Addr -> Hp -> a -> b -> Prop} {K : PySem.W.Frag} {mg : Str -> Option Value} {E : XK} {α α1 : List Addr} {H H1 : Hp} {r : Except Ex a} {Z' : List O} {Q : b -> Hp -> Prop} (h : Aft R K mg E α H r Z' Q) (k : Ext α H α1 H1) :
  Aft R K mg E α1 H1 r Z' Q := by
 cases r with
 | ok d => exact fun α' v H' k' => h α' v H' (k.trans k')
 | error x => exact fun α' c dd H' k' => h α' c dd H' (k.trans k')
structure Cfg (K : PySem.W.Frag) (α : List Addr) (H : Hp) (Y : Env) (σ : L2.St) (Z : List O) : Prop where
 s : RepS K α H Z
 e : RepE K α H Y σ
def rd {a b : Type} (R : List Addr -> Hp -> a -> b -> Prop) (K : PySem.W.Frag) (mg : Str -> Option Value) (W : WX) (m : Env -> M a) : L2.St -> Hp -> (b -> Hp -> Prop) -> Prop := fun σ H Q =>
 ∃ α Y Z r Z', Cfg K α H Y σ Z /\ m Y Z = some (r, Z') /\ Aft R K mg (fun c dd H' => W c dd σ H') α H r Z' Q
section
variable {a b c e : Type} {R : List Addr -> Hp -> a -> b -> Prop} {R1 : List Addr -> Hp -> c -> e -> Prop} {K : PySem.W.Frag} {mg : Str -> Option Value} {W : WX} {α : List Addr} {H : Hp} {Y : Env} {σ : L2.St} {Z Z' : List O} {r : Except Ex a} {Q : b -> Hp -> Prop} {Q1 : e -> Hp -> Prop}
theorem VJ {m : Env -> M a} (g : Cfg K α H Y σ Z) (run : m Y Z = some (r, Z')) (aft : Aft R K mg (fun c dd H' => W c dd σ H') α H r Z' Q) : rd R K mg W m σ H Q := ⟨α, Y, Z, r, Z', g, run, aft⟩
theorem Bp {m1 : Env -> M c} {f : c -> M a} (g : Cfg K α H Y σ Z) (run : M.bnd (m1 Y) f Z = some (r, Z')) (aft : Aft R K mg (fun c dd H' => W c dd σ H') α H r Z' Q)
  (k : ∀ d v α1 H1 Z1, Cfg K α1 H1 Y σ Z1 -> Ext α H α1 H1 -> R1 α1 H1 d v -> f d Z1 = some (r, Z') -> Aft R K mg (fun c dd H' => W c dd σ H') α1 H1 r Z' Q -> Q1 v H1) :
  rd R1 K mg W m1 σ H Q1 := by
 unfold M.bnd at run
 cases h : m1 Y Z with
 | none => rw [h] at run; cases run
 | some p =>
  obtain ⟨r1, Z1⟩ := p
  rw [h] at run
  cases r1 with
  | error x =>
   cases run
   exact ⟨α, Y, Z, .error x, _, g, h, fun α' c dd H' k' s' x' => aft α' c dd H' k' s' x'⟩
  | ok d =>
   refine ⟨α, Y, Z, .ok d, Z1, g, h, fun α1 v H1 k1 s1 r1 => ?_⟩
   exact k d v α1 H1 Z1 ⟨s1, g.e.up k1⟩ k1 r1 run (aft.up k1)
end
end Mi
namespace Mi
open PySem L2 PyProof.Rows
variable [Tb]
abbrev CXr (P : Program) (w : World) : CXT := L2.CX P w
structure RoomB (k : Nat) (A : Around) : Prop where
 r : Room k A
 d : A.depth + 3 * k + 105 < recursionLimit
theorem RoomB.mono {j k : Nat} {A : Around} (h : RoomB k A) (l : j <= k) : RoomB j A := ⟨h.r.mono l, by have := h.d; omega⟩
theorem RoomB.deeper {k : Nat} {A : Around} (h : RoomB (k + 1) A) (env : PySem.Env) : RoomB k (A.deeper env) := ⟨h.r.deeper env, by
 have := h.d
 show A.depth + 1 + 3 * k + 105 < _
 omega⟩
structure SysOk (P : Program) (base : Heap) : Prop where
 m : ∃ o, base.get? sysModules = some o
 s : base.NoSeer
 t : P.given.tree = none
def TopOk (X : Cx) : Prop := ∃ env l, X.stack = env :: l /\ env.scope.isGenerator = false /\ env.scope.isCoroutine = false /\ env.builtins = builtinsNs /\ env.globals = mainGlobals
structure FnG (P : Program) (w : World) (K : PySem.W.Frag) (mg : Str -> Option Value) (base : Heap) (k : Nat) (f : Addr) (fd : FuncData) (ps : List Str) (sp : Sp) : Prop where
 len : ∀ vs H Q E, sp vs H Q E -> vs.length = ps.length
 run : ∀ (A : Around) (outer : List PySem.Env) (s : Shared) (H : Hp) (args : Args) (us : List Value) (vs : List V) (Q : VK) (E : XK), RoomB k A -> A.guards = some [] -> Env0 P w K mg base A outer s H ->
  BindsTo s fd args (ps.zip us) -> Vals vs us -> sp vs H Q E -> codeAny (model P w) A (.call (.ref f) args) (CR (CXr P w) outer P w H s Q E) s
theorem FnG.up {P : Program} {w : World} {K : PySem.W.Frag} {mg : Str -> Option Value} {base : Heap} {j k : Nat} {f : Addr} {fd : FuncData} {ps : List Str} {sp : Sp} (F : FnG P w K mg base j f fd ps sp) (h : j <= k) : FnG P w K mg base k f fd ps sp :=
 ⟨F.len, fun A o s H a us vs Q E hr => F.run A o s H a us vs Q E (hr.mono h)⟩
def Tv (K : PySem.W.Frag) (mg : Str -> Option Value) (m : List D -> M D) : Sp := fun vs H Q E =>
 ∃ α Z ds r Z', RepS K α H Z /\ Bh K α H ds vs /\ m ds Z = some (r, Z') /\ Aft (Rep K) K mg E α H r Z' Q
section
variable {X : Cx} {W : WX} {k : Nat} {f : Addr} {fd : FuncData} {ps ks : List Str} {sp : Sp} {pins : List (Addr × Obj)} {σ : L2.St} {H : Hp} {s : Shared} {Q : VK} {us ws : List Value} {vs zs : List V}
theorem ended (tk : Takes X W) (I : Inv X pins σ H s) {r : Result} {s' : Shared} (hq : CR (CXr X.prog X.w) X.stack X.prog X.w H s Q (fun c d H' => W c d σ H') r s') :
  match r with
  | .ok (.ret u) => EP X pins σ Q u s'
  | .ok _ => False
  | .error e => X.xe e s' := by
 cases r with
 | error e => exact tk e s' (XE.of_call I (fun _ _ _ z => z) hq)
 | ok fl =>
  cases fl with
  | ret u => exact I.after hq
  | next => exact hq
  | brk => exact hq
  | cont => exact hq
theorem runG (F : FnG X.prog X.w X.K X.mg X.base k f fd ps sp) (hr : RoomB k X.A) (hg : X.A.guards = some []) (hb : Binds X.K fd ps []) (tk : Takes X W) (I : Inv X pins σ H s) (r : Vals vs us)
  (h : sp vs H Q fun c d H' => W c d σ H') : wpAny (model X.prog X.w) X.A (call (.ref f) us) (EP X pins σ Q) X.xe s := by
 have hl : (us ++ []).length = ps.length := by rw [append_nil, <- r.length, F.len _ _ _ _ h]
 have b := hb s us I.kIn hl
 rw [append_nil] at b
 refine wpAny_call (codeAny_mono (F.run X.A X.stack s H ⟨us, []⟩ us vs Q _ hr hg I.env0 b r h) fun r s' hq => ?_)
 have z := ended tk I hq
 cases r with
 | error e => exact z
 | ok fl => cases fl <;> exact z
end
theorem PE.imp {X : Cx} {e : Expr} {t t' : TE} (h : PE X e t) (i : ∀ σ H Q, t' σ H Q -> t σ H Q) : PE X e t' := ⟨fun pins s σ H Q I q => h.run pins s σ H Q I (i σ H Q q)⟩
theorem PT.imp {X : Cx} {e : Expr} {t t' : TT} (h : PT X e t) (i : ∀ σ H Q, t' σ H Q -> t σ H Q) : PT X e t' := ⟨fun pins s σ H Q I q => h.run pins s σ H Q I (i σ H Q q)⟩
theorem PW.imp {X : Cx} {e : Expr} {t t' : TT} (h : PW X e t) (i : ∀ σ H Q, t' σ H Q -> t σ H Q) : PW X e t' := ⟨fun wh pins s σ H Q I q => h.run wh pins s σ H Q I (i σ H Q q)⟩
theorem PA.imp {X : Cx} {e : List Expr} {t t' : TA} (h : PA X e t) (i : ∀ σ H Q, t' σ H Q -> t σ H Q) : PA X e t' := ⟨fun p pins s σ H Q I q => h.run p pins s σ H Q I (i σ H Q q)⟩
theorem PO.imp {X : Cx} {e : Option Expr} {t t' : TO} (h : PO X e t) (i : ∀ σ H Q, t' σ H Q -> t σ H Q) : PO X e t' := ⟨fun pins s σ H Q I q => h.run pins s σ H Q I (i σ H Q q)⟩
theorem PK.imp {X : Cx} {e : List Keyword} {t t' : TA} (h : PK X e t) (i : ∀ σ H Q, t' σ H Q -> t σ H Q) : PK X e t' := ⟨fun p pins s σ H Q I q => h.run p pins s σ H Q I (i σ H Q q)⟩
theorem PS.imp {X : Cx} {e : Stmt} {t t' : TS} (h : PS X e t) (i : ∀ σ H Q, t' Q σ H -> t Q σ H) : PS X e t' := ⟨fun pins s σ H Q I q => h.run pins s σ H Q I (i σ H Q q)⟩
theorem PSs.imp {X : Cx} {e : List Stmt} {t t' : TS} (h : PSs X e t) (i : ∀ σ H Q, t' Q σ H -> t Q σ H) : PSs X e t' := ⟨fun pins s σ H Q I q => h.run pins s σ H Q I (i σ H Q q)⟩
structure Inf where
 N : List Str
 sc : Scope
 cells : Str -> Bool
abbrev Kno := Program -> World -> PySem.W.Frag -> (Str -> Option Value) -> Heap -> Prop
def LamC (base : Heap) (mg : Str -> Option Value) (cdv : Value) (q : Str) : Prop :=
 ∃ c P, cdv = .ref c /\ LamX.TabB base mg c P /\ (P, q ++ "<lambda>") ∈ Tb.T /\ ∀ p ∈ Tb.T, p.1 = P -> p.2 = q ++ "<lambda>"
def nlam : Str -> Bool := fun x => x.cps.size != 0
structure Bas (Kn : Kno) (k : Nat) (cb : Str -> Bool) (X : Cx) (W : WX) : Prop where
 kn : Kn X.prog X.w X.K X.mg X.base
 calm : X.calm = true
 nd : X.N.Nodup
 room : RoomB k X.A
 grd : X.A.guards = some []
 tk : Takes X W
 sys : SysOk X.prog X.base
 top : TopOk X
 cells : ∀ x, cb x = true -> X.fn x = true
 lam : cb Str.empty = true -> LamC X.base X.mg X.env.code X.env.qual
structure Here (X : Cx) : Prop where
 calm : X.calm = true
 room : Room 0 X.A
 grd : X.A.guards = some []
 sys : ∃ o, X.base.get? sysModules = some o
 big : X.A.depth + 105 < recursionLimit
 sy : SysOk X.prog X.base
 top : TopOk X
theorem Bas.here {Kn : Kno} {k : Nat} {cb : Str -> Bool} {X : Cx} {W : WX} (b : Bas Kn k cb X W) : Here X := ⟨b.calm, b.room.r.mono (Nat.zero_le _), b.grd, b.sys.m, by have := b.room.d; omega, b.sys, b.top⟩
structure CE where
 run : Env -> M D
 chk : Inf -> Expr -> Bool
structure CA where
 run : Env -> M (List D)
 chk : Inf -> List Expr -> Bool
structure CT where
 run : Env -> M Bool
 chk : Inf -> Expr -> Bool
abbrev rdE (K : PySem.W.Frag) (mg : Str -> Option Value) (W : WX) (m : Env -> M D) : TE := rd (Rep K) K mg W m
abbrev rdA (K : PySem.W.Frag) (mg : Str -> Option Value) (W : WX) (m : Env -> M (List D)) : TA := rd (Bh K) K mg W m
abbrev rdT (K : PySem.W.Frag) (mg : Str -> Option Value) (W : WX) (m : Env -> M Bool) : TT := rd (fun _ _ (x y : Bool) => x = y) K mg W m
def GE (Kn : Kno) (k : Nat) (c : CE) : Prop := ∀ X W b, Bas Kn k b X W -> ∀ e, c.chk ⟨X.N, X.env.scope, b⟩ e = true -> PE X e (rdE X.K X.mg W c.run)
def GA (Kn : Kno) (k : Nat) (c : CA) : Prop := ∀ X W b, Bas Kn k b X W -> ∀ e, c.chk ⟨X.N, X.env.scope, b⟩ e = true -> PA X e (rdA X.K X.mg W c.run)
def GT (Kn : Kno) (k : Nat) (c : CT) : Prop := ∀ X W b, Bas Kn k b X W -> ∀ e, c.chk ⟨X.N, X.env.scope, b⟩ e = true -> PT X e (rdT X.K X.mg W c.run)
def GW (Kn : Kno) (k : Nat) (c : CT) : Prop := ∀ X W b, Bas Kn k b X W -> ∀ e, c.chk ⟨X.N, X.env.scope, b⟩ e = true -> PW X e (rdT X.K X.mg W c.run)
theorem GW.t {Kn : Kno} {k : Nat} {c : CT} (h : GW Kn k c) : GT Kn k c := fun X W cb b e q => (h X W cb b e q).pt
def seen (sc : Scope) (x : Str) : Bool := match sc.names.lookup x with
 | some .local => true
 | some .cell => true
 | some .free => true
 | _ => false
theorem seen_vis {sc : Scope} {x : Str} (h : seen sc x = true) : Vis sc x := by
 unfold seen at h
 split at h
 ·exact .inl (by assumption)
 ·exact .inr (.inl (by assumption))
 ·exact .inr (.inr (by assumption))
 ·cases h
def unmarked (x : Str) : Bool := !(x == ("__debug__" : Str)) && !(x == ("__classdict__" : Str))
theorem KJ {x : Str} (h : unmarked x = true) : (x == ("__debug__" : Str)) = false := by
 unfold unmarked at h
 rw [and_eq_true] at h
 simpa using h.1
theorem Yd {x : Str} (h : unmarked x = true) : (x == ("__classdict__" : Str)) = false := by
 unfold unmarked at h
 rw [and_eq_true] at h
 simpa using h.2
def getV (i : Nat) : Env -> M D := fun Y => match Y[i]? with
 | some (some d) => M.ret d
 | _ => M.stop
theorem Zt {i : Nat} {Y : Env} {Z : List O} {p : Except Ex D × List O} (h : getV i Y Z = some p) : ∃ d, Y[i]? = some (some d) /\ p = (.ok d, Z) := by
 unfold getV at h
 cases e : Y[i]? with
 | none => rw [e] at h; cases h
 | some o =>
  rw [e] at h
  cases o with
  | none => cases h
  | some d => exact ⟨d, rfl, (Option.some.inj h).symm⟩
def Ae (i : Nat) : CE := ⟨getV i, fun I e => match e with
 | .Name x _ => decide (I.N[i]? = some x) && (seen I.sc x && unmarked x)
 | _ => false⟩
section
variable {Kn : Kno} {k : Nat}
theorem Ad {i : Nat} : GE Kn k (Ae i) := by
 intro X W cb b e h
 dsimp only [Ae] at h
 split at h
 ·rename_i x pos
  simp only [and_eq_true, decide_eq_true_eq] at h
  refine PE.imp (pe_var h.1 (seen_vis h.2.1) (KJ h.2.2) (Yd h.2.2)) ?_
  rintro σ H Q ⟨α, Y, Z, r, Z', g, run, aft⟩
  obtain ⟨d, h1, h2⟩ := Zt run
  cases h2
  obtain ⟨v, h3, h4⟩ := g.e.at_ i d h1
  exact ⟨v, h3, aft α v H (Ext.refl α H) g.s h4⟩
 ·cases h
theorem Av {a b : Type} {R : List Addr -> Hp -> a -> b -> Prop} {K : PySem.W.Frag} {mg : Str -> Option Value} {E : XK} {α : List Addr} {H : Hp} {Z Z' : List O} {d : a} {r : Except Ex a} {Q : b -> Hp -> Prop} {v : b} (s : RepS K α H Z)
  (run : M.ret d Z = some (r, Z')) (aft : Aft R K mg E α H r Z' Q) (hv : R α H d v) : Q v H := by
 cases run
 exact aft α v H (Ext.refl α H) s hv
def cInt (i : Int) : CE := ⟨fun _ => M.ret (.int i), fun _ e => match e with
 | .Constant (.int j) _ _ => decide (j = i)
 | _ => false⟩
theorem Ai {i : Int} : GE Kn k (cInt i) := by
 intro X W cb b e h
 dsimp only [cInt] at h
 split at h
 ·have z := of_decide_eq_true h
  subst z
  exact PE.imp pe_int fun σ H Q ⟨α, Y, Z, r, Z', g, run, aft⟩ => Av g.s run aft rfl
 ·cases h
def cBl (i : Bool) : CE := ⟨fun _ => M.ret (.bl i), fun _ e => match e with
 | .Constant (.bool j) _ _ => decide (j = i)
 | _ => false⟩
theorem g_bl {i : Bool} : GE Kn k (cBl i) := by
 intro X W cb b e h
 dsimp only [cBl] at h
 split at h
 ·have z := of_decide_eq_true h
  subst z
  exact PE.imp pe_bl fun σ H Q ⟨α, Y, Z, r, Z', g, run, aft⟩ => Av g.s run aft rfl
 ·cases h
def cStr (i : Str) : CE := ⟨fun _ => M.ret (.str i), fun _ e => match e with
 | .Constant (.str j) _ _ => decide (j = i)
 | _ => false⟩
theorem Ea {i : Str} : GE Kn k (cStr i) := by
 intro X W cb b e h
 dsimp only [cStr] at h
 split at h
 ·have z := of_decide_eq_true h
  subst z
  exact PE.imp pe_str fun σ H Q ⟨α, Y, Z, r, Z', g, run, aft⟩ => Av g.s run aft rfl
 ·cases h
def cNon : CE := ⟨fun _ => M.ret .non, fun _ e => match e with
 | .Constant .none _ _ => true
 | _ => false⟩
theorem g_non : GE Kn k cNon := by
 intro X W cb b e h
 dsimp only [cNon] at h
 split at h
 ·exact PE.imp pe_non fun σ H Q ⟨α, Y, Z, r, Z', g, run, aft⟩ => Av g.s run aft rfl
 ·cases h
def glo (sc : Scope) (x : Str) : Bool := decide (sc.names.lookup x = some .globalImplicit)
def M5 (x : Str) (d : D) : CE := ⟨fun _ => M.ret d, fun I e => match e with
 | .Name y _ => decide (y = x) && (glo I.sc y && unmarked y)
 | _ => false⟩
def Uu (Kn : Kno) (x : Str) (d : D) : Prop := ∀ P w K mg base, Kn P w K mg base -> ∃ (v : V) (u : Value), mg x = some u /\ RelV v u /\ ∀ α H, Rep K α H d v
theorem Xm {x : Str} {d : D} (hx : Uu Kn x d) : GE Kn k (M5 x d) := by
 intro X W cb b e h
 dsimp only [M5] at h
 split at h
 ·simp only [and_eq_true, decide_eq_true_eq, glo] at h
  obtain ⟨h1, h2, h3⟩ := h
  subst h1
  obtain ⟨v, u, hm, rv, hr⟩ := hx _ _ _ _ _ b.kn
  exact PE.imp (pe_glob h2 hm rv (KJ h3)) fun σ H Q ⟨α, Y, Z, r, Z', g, run, aft⟩ => Av g.s run aft (hr _ _)
 ·cases h
def noStar : Expr -> Bool
 | .Starred _ _ => false
 | _ => true
theorem Bq {e : Expr} {es : List Expr} {env : PySem.Env} (h : noStar e = true) : starEach (e :: es) env = (false, eval e env) :: starEach es env := by
 cases e <;> first | rfl | cases h
theorem star_any {pos : Pos} {env : PySem.Env} : ∀ {es : List Expr}, es.all noStar = true -> (backTo pos (starEach es env)).any (·.1) = false
 | [], _ => rfl
 | e :: es, h => by
  rw [all_cons, and_eq_true] at h
  rw [Bq h.1]
  show (false || (backTo pos (starEach es env)).any (·.1)) = false
  rw [star_any h.2]; rfl
def aNil : CA := ⟨fun _ => M.ret [], fun _ es => match es with
 | [] => true
 | _ => false⟩
def Aa (c : CE) (cs : CA) : CA := ⟨fun Y => M.bnd (c.run Y) fun d => M.bnd (cs.run Y) fun ds => M.ret (d :: ds), fun I es => match es with
 | e :: r => c.chk I e && (noStar e && cs.chk I r)
 | _ => false⟩
theorem Ah : GA Kn k aNil := by
 intro X W cb b e h
 dsimp only [aNil] at h
 split at h
 ·exact PA.imp pa_nil fun σ H Q ⟨α, Y, Z, r, Z', g, run, aft⟩ => Av g.s run aft Bh.nil
 ·cases h
theorem Ac {c : CE} {cs : CA} (hc : GE Kn k c) (hs : GA Kn k cs) : GA Kn k (Aa c cs) := by
 intro X W cb b e h
 dsimp only [Aa] at h
 split at h
 ·simp only [and_eq_true] at h
  obtain ⟨h1, h2, h3⟩ := h
  refine PA.imp (pa_cons (hc X W cb b _ h1) (hs X W cb b _ h3) (Bq h2)) ?_
  rintro σ H Q ⟨α, Y, Z, r, Z', g, run, aft⟩
  refine Bp g run aft fun d v α1 H1 Z1 g1 k1 r1 run1 aft1 => ?_
  refine Bp g1 run1 aft1 fun ds vs α2 H2 Z2 g2 k2 r2 run2 aft2 => ?_
  exact Av g2.s run2 aft2 (Bh.cons (r1.up k2) r2)
 ·cases h
def Bg (cs : CA) : CE := ⟨fun Y => M.bnd (cs.run Y) fun ds => if ds.length <= sizeLine then M.ret (.tup ds) else M.stop, fun I e => match e with
 | .Tuple es _ _ => cs.chk I es
 | _ => false⟩
theorem Ay {cs : CA} (hc : GA Kn k cs) : GE Kn k (Bg cs) := by
 intro X W cb b e h
 dsimp only [Bg] at h
 split at h
 ·refine PE.imp (pe_tup (hc X W cb b _ h)) ?_
  rintro σ H Q ⟨α, Y, Z, r, Z', g, run, aft⟩
  refine Bp g run aft fun ds vs α1 H1 Z1 g1 k1 r1 run1 aft1 => ?_
  have hl := r1.len
  split at run1
  ·rename_i hz
   refine ⟨by rw [hl]; exact hz, fun p hp => ?_⟩
   cases run1
   exact aft1 α1 _ _ (Ext.lay hp) (g1.s.lay hp) ⟨p, vs, rfl, SqT.of upd_same, r1.up (Ext.lay hp)⟩
  ·cases run1
 ·cases h
def M.new (o : O) : M D := fun Z => some (.ok (.ref Z.length), Z ++ [o])
theorem HW {K : PySem.W.Frag} {mg : Str -> Option Value} {E : XK} {α : List Addr} {H : Hp} {Z Z' : List O} {ds : List D} {vs : List V} {r : Except Ex D} {Q : VK} (s : RepS K α H Z) (run : M.new (.lst ds) Z = some (r, Z'))
  (aft : Aft (Rep K) K mg E α H r Z' Q) (hv : Bh K α H ds vs) {p : Addr} (hp : H p = none) : Q (.ref p) (upd H p (.lst vs)) := by
 cases run
 refine aft (α ++ [p]) _ _ (Ext.push hp) (s.push hp ⟨vs, upd_same, hv.up (Ext.push hp)⟩) ⟨p, rfl, ?_⟩
 rw [<- s.len, getElem?_append_right XqG]
 simp
def Ft (cs : CA) : CE := ⟨fun Y => M.bnd (cs.run Y) fun ds => if ds.length <= sizeLine then M.new (.lst ds) else M.stop, fun I e => match e with
 | .List es _ => cs.chk I es
 | _ => false⟩
theorem Fq {cs : CA} (hc : GA Kn k cs) : GE Kn k (Ft cs) := by
 intro X W cb b e h
 dsimp only [Ft] at h
 split at h
 ·refine PE.imp (pe_lst (hc X W cb b _ h)) ?_
  rintro σ H Q ⟨α, Y, Z, r, Z', g, run, aft⟩
  refine Bp g run aft fun ds vs α1 H1 Z1 g1 k1 r1 run1 aft1 => ?_
  have hl := r1.len
  split at run1
  ·rename_i hz
   exact ⟨by rw [hl]; exact hz, fun p hp => HW g1.s run1 aft1 r1 hp⟩
  ·cases run1
 ·cases h
def OpD (K : PySem.W.Frag) (r : R2) (f : D -> D -> M D) : Prop := ∀ (mg : Str -> Option Value) (E : XK) (α : List Addr) (H : Hp) (Z Z' : List O) (d1 d2 : D) (x y : V) (q : Except Ex D) (Q : VK),
 RepS K α H Z -> Rep K α H d1 x -> Rep K α H d2 y -> f d1 d2 Z = some (q, Z') -> Aft (Rep K) K mg E α H q Z' Q -> r x y H Q
theorem two {K : PySem.W.Frag} {mg : Str -> Option Value} {W : WX} {ra rb : Env -> M D} {f : D -> D -> M D} {r : R2} (ho : OpD K r f) : ∀ σ H Q, rdE K mg W (fun Y => M.bnd (ra Y) fun x => M.bnd (rb Y) fun y => f x y) σ H Q -> tOp r (rdE K mg W ra) (rdE K mg W rb) σ H Q := by
 rintro σ H Q ⟨α, Y, Z, q, Z', g, run, aft⟩
 refine Bp g run aft fun d v α1 H1 Z1 g1 k1 r1 run1 aft1 => ?_
 refine Bp g1 run1 aft1 fun d2 v2 α2 H2 Z2 g2 k2 r2 run2 aft2 => ?_
 exact ho mg _ α2 H2 Z2 Z' d d2 v v2 q Q g2.s (r1.up k2) r2 run2 aft2
def Az (op : Operator) (f : D -> D -> M D) (a b : CE) : CE := ⟨fun Y => M.bnd (a.run Y) fun x => M.bnd (b.run Y) fun y => f x y, fun I e => match e with
 | .BinOp l o r _ => decide (o = op) && (a.chk I l && b.chk I r)
 | _ => false⟩
def Ut (op : Operator) (f : D -> D -> M D) : Prop := ∀ X : Cx, Here X -> ∃ r, OpR X (binaryOp op) r /\ OpD X.K r f
theorem Bb {op : Operator} {f : D -> D -> M D} {a b : CE} (ho : Ut op f) (ha : GE Kn k a) (hb : GE Kn k b) : GE Kn k (Az op f a b) := by
 intro X W cb bs e h
 dsimp only [Az] at h
 split at h
 ·simp only [and_eq_true, decide_eq_true_eq] at h
  obtain ⟨h1, h2, h3⟩ := h
  subst h1
  obtain ⟨r, o1, o2⟩ := ho X bs.here
  exact PE.imp (pe_op o1 (ha X W cb bs _ h2) (hb X W cb bs _ h3)) (two o2)
 ·cases h
def noSet : Expr -> Bool
 | .Set _ _ _ => false
 | _ => true
theorem O6 {op : CmpOp} {e : Expr} (h : noSet e = true) : behindInMarks op e = false := by
 cases e <;> first | rfl | cases h
def XM (op : CmpOp) (f : D -> D -> M D) (a b : CE) : CE := ⟨fun Y => M.bnd (a.run Y) fun x => M.bnd (b.run Y) fun y => f x y, fun I e => match e with
 | .Compare l [o] [r] _ => decide (o = op) && (noSet r && (a.chk I l && b.chk I r))
 | _ => false⟩
def Kh (op : CmpOp) (f : D -> D -> M D) : Prop := ∀ X : Cx, Here X -> ∃ r, OpR X (compareOp op) r /\ OpD X.K r f
theorem g_cmp {op : CmpOp} {f : D -> D -> M D} {a b : CE} (ho : Kh op f) (ha : GE Kn k a) (hb : GE Kn k b) : GE Kn k (XM op f a b) := by
 intro X W cb bs e h
 dsimp only [XM] at h
 split at h
 ·simp only [and_eq_true, decide_eq_true_eq] at h
  obtain ⟨h1, h0, h2, h3⟩ := h
  subst h1
  obtain ⟨r, o1, o2⟩ := ho X bs.here
  exact PE.imp (pe_cmpR o1 (ha X W cb bs _ h2) (hb X W cb bs _ h3) (O6 h0)) (two o2)
 ·cases h
def asB : D -> M Bool
 | .bl b => M.ret b
 | _ => M.stop
theorem tested {K : PySem.W.Frag} {mg : Str -> Option Value} {W : WX} {m : Env -> M D} : ∀ σ H Q, rdT K mg W (fun Y => M.bnd (m Y) asB) σ H Q -> tTest (rdE K mg W m) σ H Q := by
 rintro σ H Q ⟨α, Y, Z, q, Z', g, run, aft⟩
 refine Bp g run aft fun d v α1 H1 Z1 g1 k1 r1 run1 aft1 => ?_
 cases d with
 | bl b =>
  have e : v = .bl b := r1
  exact ⟨b, e, Av g1.s run1 aft1 rfl⟩
 | _ => cases run1
def Ba (op : CmpOp) (f : D -> D -> M D) (a b : CE) : CT := ⟨fun Y => M.bnd ((XM op f a b).run Y) asB, (XM op f a b).chk⟩
theorem BL {op : CmpOp} {f : D -> D -> M D} {a b : CE} (ho : Kh op f) (ha : GE Kn k a) (hb : GE Kn k b) : GT Kn k (Ba op f a b) := by
 intro X W cb bs e h
 dsimp only [Ba, XM] at h
 split at h
 ·simp only [and_eq_true, decide_eq_true_eq] at h
  obtain ⟨h1, h0, h2, h3⟩ := h
  subst h1
  obtain ⟨r, o1, o2⟩ := ho X bs.here
  refine PT.imp (pt_cmpR o1 (ha X W cb bs _ h2) (hb X W cb bs _ h3) (O6 h0)) fun σ H Q q => ?_
  exact two o2 σ H _ (tested σ H Q q)
 ·cases h
def plainT : Expr -> Bool
 | .UnaryOp .Not _ _ => false
 | .BoolOp _ _ _ => false
 | .IfExp _ _ _ _ => false
 | .Compare _ _ _ _ => false
 | _ => true
theorem Y9 {e : Expr} {env : PySem.Env} (h : plainT e = true) : ∀ whole, isTrue e env whole = (do let v <- whole; standAt e.pos; holding [v] (truthy v)) := by
 intro whole
 cases e with
 | UnaryOp op _ _ => cases op <;> first | rfl | cases h
 | _ => first | rfl | cases h
def X8 (a : CE) : CT := ⟨fun Y => M.bnd (a.run Y) asB, fun I e => plainT e && a.chk I e⟩
theorem Mq {a : CE} (ha : GE Kn k a) : GT Kn k (X8 a) := by
 intro X W cb bs e h
 dsimp only [X8] at h
 rw [and_eq_true] at h
 exact PT.imp (pt_val (ha X W cb bs e h.2) (Y9 h.1)) (tested)
def Yh (a : CT) : CT := ⟨fun Y => M.bnd (a.run Y) fun b => M.ret (!b), fun I e => match e with
 | .UnaryOp .Not x _ => a.chk I x
 | _ => false⟩
theorem g_tnot {a : CT} (ha : GT Kn k a) : GT Kn k (Yh a) := by
 intro X W cb bs e h
 dsimp only [Yh] at h
 split at h
 ·refine PT.imp (pt_not (ha X W cb bs _ h)) ?_
  rintro σ H Q ⟨α, Y, Z, q, Z', g, run, aft⟩
  refine Bp g run aft fun d v α1 H1 Z1 g1 k1 r1 run1 aft1 => ?_
  cases r1
  exact Av g1.s run1 aft1 rfl
 ·cases h
def HQ (a : CT) : CT := ⟨a.run, fun I e => match e with
 | .BoolOp .And [x] _ => a.chk I x
 | _ => false⟩
def wOr1 (a : CT) : CT := ⟨a.run, fun I e => match e with
 | .BoolOp .Or [x] _ => a.chk I x
 | _ => false⟩
def Tt (a b : CT) : CT := ⟨fun Y => M.bnd (a.run Y) fun c => if c = true then b.run Y else M.ret false, fun I e => match e with
 | .BoolOp .And (x :: y :: r) pos => a.chk I x && b.chk I (.BoolOp .And (y :: r) pos)
 | _ => false⟩
def wOr (a b : CT) : CT := ⟨fun Y => M.bnd (a.run Y) fun c => if c = true then M.ret true else b.run Y, fun I e => match e with
 | .BoolOp .Or (x :: y :: r) pos => a.chk I x && b.chk I (.BoolOp .Or (y :: r) pos)
 | _ => false⟩
theorem Vn {a : CT} (ha : GT Kn k a) : GW Kn k (HQ a) := by
 intro X W cb bs e h
 dsimp only [HQ] at h
 split at h
 ·exact pw_and1 (ha X W cb bs _ h)
 ·cases h
theorem g_or1 {a : CT} (ha : GT Kn k a) : GW Kn k (wOr1 a) := by
 intro X W cb bs e h
 dsimp only [wOr1] at h
 split at h
 ·exact pw_or1 (ha X W cb bs _ h)
 ·cases h
theorem g_and {a b : CT} (ha : GT Kn k a) (hb : GW Kn k b) : GW Kn k (Tt a b) := by
 intro X W cb bs e h
 dsimp only [Tt] at h
 split at h
 ·rw [and_eq_true] at h
  refine PW.imp (pw_and (ha X W cb bs _ h.1) (hb X W cb bs _ h.2)) ?_
  rintro σ H Q ⟨α, Y, Z, q, Z', g, run, aft⟩
  refine Bp g run aft fun d v α1 H1 Z1 g1 k1 r1 run1 aft1 => ?_
  subst r1
  cases d with
  | true => exact VJ g1 run1 aft1
  | false => exact Av g1.s run1 aft1 rfl
 ·cases h
theorem g_or {a b : CT} (ha : GT Kn k a) (hb : GW Kn k b) : GW Kn k (wOr a b) := by
 intro X W cb bs e h
 dsimp only [wOr] at h
 split at h
 ·rw [and_eq_true] at h
  refine PW.imp (pw_or (ha X W cb bs _ h.1) (hb X W cb bs _ h.2)) ?_
  rintro σ H Q ⟨α, Y, Z, q, Z', g, run, aft⟩
  refine Bp g run aft fun d v α1 H1 Z1 g1 k1 r1 run1 aft1 => ?_
  subst r1
  cases d with
  | true => exact Av g1.s run1 aft1 rfl
  | false => exact VJ g1 run1 aft1
 ·cases h
def cIf (t : CT) (a b : CE) : CE := ⟨fun Y => M.bnd (t.run Y) fun c => if c = true then a.run Y else b.run Y, fun I e => match e with
 | .IfExp x y z _ => t.chk I x && (a.chk I y && b.chk I z)
 | _ => false⟩
theorem g_if {t : CT} {a b : CE} (ht : GT Kn k t) (ha : GE Kn k a) (hb : GE Kn k b) : GE Kn k (cIf t a b) := by
 intro X W cb bs e h
 dsimp only [cIf] at h
 split at h
 ·simp only [and_eq_true] at h
  refine PE.imp (pe_ifExp (ht X W cb bs _ h.1) (ha X W cb bs _ h.2.1) (hb X W cb bs _ h.2.2)) ?_
  rintro σ H Q ⟨α, Y, Z, q, Z', g, run, aft⟩
  refine Bp g run aft fun d v α1 H1 Z1 g1 k1 r1 run1 aft1 => ?_
  subst r1
  cases d with
  | true => exact VJ g1 run1 aft1
  | false => exact VJ g1 run1 aft1
 ·cases h
def vOne (op : PySem.BoolOp) (a : CE) : CE := ⟨a.run, fun I e => match e with
 | .BoolOp o [x] _ => decide (o = op) && a.chk I x
 | _ => false⟩
def vAnd (a b : CE) : CE := ⟨fun Y => M.bnd (M.bnd (a.run Y) asB) fun c => if c = true then b.run Y else M.ret (.bl false), fun I e => match e with
 | .BoolOp .And (x :: y :: r) pos => a.chk I x && b.chk I (.BoolOp .And (y :: r) pos)
 | _ => false⟩
def vOr (a b : CE) : CE := ⟨fun Y => M.bnd (M.bnd (a.run Y) asB) fun c => if c = true then M.ret (.bl true) else b.run Y, fun I e => match e with
 | .BoolOp .Or (x :: y :: r) pos => a.chk I x && b.chk I (.BoolOp .Or (y :: r) pos)
 | _ => false⟩
theorem Zu {op : PySem.BoolOp} {a : CE} (ha : GE Kn k a) : GE Kn k (vOne op a) := by
 intro X W cb bs e h
 dsimp only [vOne] at h
 split at h
 ·rw [and_eq_true] at h
  exact pe_one (ha X W cb bs _ h.2)
 ·cases h
theorem g_vand {a b : CE} (ha : GE Kn k a) (hb : GE Kn k b) : GE Kn k (vAnd a b) := by
 intro X W cb bs e h
 dsimp only [vAnd] at h
 split at h
 ·rw [and_eq_true] at h
  refine PE.imp (pe_and (ha X W cb bs _ h.1) (hb X W cb bs _ h.2)) ?_
  rintro σ H Q ⟨α, Y, Z, q, Z', g, run, aft⟩
  refine tested (K := X.K) (mg := X.mg) (W := W) (m := a.run) σ H (fun c H1 => if c = true then rdE X.K X.mg W b.run σ H1 Q else Q (.bl false) H1) ?_
  refine Bp g run aft fun d v α1 H1 Z1 g1 k1 r1 run1 aft1 => ?_
  subst r1
  cases d with
  | true => exact VJ g1 run1 aft1
  | false => exact Av g1.s run1 aft1 rfl
 ·cases h
theorem g_vor {a b : CE} (ha : GE Kn k a) (hb : GE Kn k b) : GE Kn k (vOr a b) := by
 intro X W cb bs e h
 dsimp only [vOr] at h
 split at h
 ·rw [and_eq_true] at h
  refine PE.imp (pe_or (ha X W cb bs _ h.1) (hb X W cb bs _ h.2)) ?_
  rintro σ H Q ⟨α, Y, Z, q, Z', g, run, aft⟩
  refine tested (K := X.K) (mg := X.mg) (W := W) (m := a.run) σ H (fun c H1 => if c = true then Q (.bl true) H1 else rdE X.K X.mg W b.run σ H1 Q) ?_
  refine Bp g run aft fun d v α1 H1 Z1 g1 k1 r1 run1 aft1 => ?_
  subst r1
  cases d with
  | true => exact Av g1.s run1 aft1 rfl
  | false => exact VJ g1 run1 aft1
 ·cases h
def cNot (a : CE) : CE := ⟨fun Y => M.bnd (M.bnd (a.run Y) asB) fun b => M.ret (.bl (!b)), fun I e => match e with
 | .UnaryOp .Not x _ => a.chk I x
 | _ => false⟩
theorem g_not {a : CE} (ha : GE Kn k a) : GE Kn k (cNot a) := by
 intro X W cb bs e h
 dsimp only [cNot] at h
 split at h
 ·refine PE.imp (pe_not (ha X W cb bs _ h)) ?_
  rintro σ H Q ⟨α, Y, Z, q, Z', g, run, aft⟩
  refine tested (K := X.K) (mg := X.mg) (W := W) (m := a.run) σ H (fun c H1 => Q (.bl (!c)) H1) ?_
  refine Bp g run aft fun d v α1 H1 Z1 g1 k1 r1 run1 aft1 => ?_
  subst r1
  exact Av g1.s run1 aft1 rfl
 ·cases h
def negD : D -> M D
 | .int i => M.ret (.int (-i))
 | _ => M.stop
def Ie (a : CE) : CE := ⟨fun Y => M.bnd (a.run Y) negD, fun I e => match e with
 | .UnaryOp .USub x _ => a.chk I x
 | _ => false⟩
theorem QZ {a : CE} (ha : GE Kn k a) : GE Kn k (Ie a) := by
 intro X W cb bs e h
 dsimp only [Ie] at h
 split at h
 ·refine PE.imp (pe_un un_neg (ha X W cb bs _ h)) ?_
  rintro σ H Q ⟨α, Y, Z, q, Z', g, run, aft⟩
  refine Bp g run aft fun d v α1 H1 Z1 g1 k1 r1 run1 aft1 => ?_
  cases d with
  | int i => exact ⟨i, r1, Av g1.s run1 aft1 rfl⟩
  | _ => cases run1
 ·cases h
end
end Mi
namespace Mi
open PySem L2 PyProof.Rows
variable [Tb]
def M.lst (l : Nat) : M (List D) := fun Z => match Z[l]? with
 | some (.lst ds) => some (.ok ds, Z)
 | _ => none
theorem QH {l : Nat} {Z : List O} {p : Except Ex (List D) × List O} (h : M.lst l Z = some p) : ∃ ds, Z[l]? = some (.lst ds) /\ p = (.ok ds, Z) := by
 unfold M.lst at h
 cases e : Z[l]? with
 | none => rw [e] at h; cases h
 | some o =>
  rw [e] at h
  cases o with
  | lst ds => exact ⟨ds, rfl, (Option.some.inj h).symm⟩
  | dct _ => cases h
  | ins _ _ => cases h
  | fzd _ => cases h
theorem Dm {K : PySem.W.Frag} {α : List Addr} {H : Hp} {Z : List O} {l : Nat} {ds : List D} {x : V} (s : RepS K α H Z) (r : Rep K α H (.ref l) x) (h : Z[l]? = some (.lst ds)) :
  ∃ p vs, x = .ref p /\ α[l]? = some p /\ H p = some (.lst vs) /\ Bh K α H ds vs := by
 obtain ⟨p, e, a⟩ := r
 obtain ⟨vs, h1, h2⟩ := s.at_ l _ p h a
 exact ⟨p, vs, e, a, h1, h2⟩
theorem Ec {a : Type} {l : Nat} {Z Z' : List O} {f : List D -> M a} {r : Except Ex a} (h : M.bnd (M.lst l) f Z = some (r, Z')) : ∃ ds, Z[l]? = some (.lst ds) /\ f ds Z = some (r, Z') := by
 unfold M.bnd at h
 cases e : M.lst l Z with
 | none => rw [e] at h; cases h
 | some p =>
  obtain ⟨ds, h1, h2⟩ := QH e
  subst h2
  rw [e] at h
  exact ⟨ds, h1, h⟩
theorem Q9 {K : PySem.W.Frag} {mg : Str -> Option Value} {E : XK} {α : List Addr} {H : Hp} {Z Z' : List O} {ds : List D} {vs : List V} {r : Except Ex D} {Q : VK} (s : RepS K α H Z) (run : M.ret (D.tup ds) Z = some (r, Z'))
  (aft : Aft (Rep K) K mg E α H r Z' Q) (hv : Bh K α H ds vs) {p : Addr} (hp : H p = none) : Q (.ref p) (upd H p (.tup vs)) := by
 cases run
 exact aft α _ _ (Ext.lay hp) (s.lay hp) ⟨p, vs, rfl, SqT.of upd_same, hv.up (Ext.lay hp)⟩
def newL (ds : List D) : M D := if ds.length <= sizeLine then M.new (.lst ds) else M.stop
theorem Su {ds : List D} {Z : List O} {p : Except Ex D × List O} (h : newL ds Z = some p) : ds.length <= sizeLine /\ M.new (.lst ds) Z = some p := by
 unfold newL at h
 split at h
 ·exact ⟨by assumption, h⟩
 ·cases h
def addD : D -> D -> M D
 | .int i, .int j => M.ret (.int (i + j))
 | .str x, .str y => if x.length + y.length <= sizeLine then M.ret (.str (x ++ y)) else M.stop
 | .tup xs, .tup ys => if xs.length + ys.length <= sizeLine then M.ret (.tup (xs ++ ys)) else M.stop
 | .ref l, .ref m => M.bnd (M.lst l) fun xs => M.bnd (M.lst m) fun ys => newL (xs ++ ys)
 | _, _ => M.stop
theorem Dc : Ut .Add addD := by
 intro X _
 refine ⟨_, OpR.or (OpR.or op_add op_add_str) (OpR.or op_catA op_cat), ?_⟩
 intro mg E α H Z Z' d1 d2 x y q Q s r1 r2 run aft
 unfold addD at run
 split at run
 ·exact .inl (.inl ⟨_, _, r1, r2, Av s run aft rfl⟩)
 ·split at run
  ·rename_i hz
   exact .inl (.inr ⟨_, _, r1, r2, hz, Av s run aft rfl⟩)
  ·cases run
 ·obtain ⟨p1, v1, e1, t1, w1⟩ := r1
  obtain ⟨p2, v2, e2, t2, w2⟩ := r2
  split at run
  ·rename_i hz
   refine .inr (.inl ⟨p1, p2, v1, v2, e1, e2, t1, t2, by rw [w1.len, w2.len]; exact hz, fun z => ?_, fun z z2 => ?_, fun z z2 p hp => Q9 s run aft (w1.app w2) hp⟩)
   ·subst z
    exact Av s run aft ⟨p2, v2, rfl, t2, w1.app w2⟩
   ·subst z2
    exact Av s run aft ⟨p1, v1, rfl, t1, by simpa using w1.app w2⟩
  ·cases run
 ·obtain ⟨xs, h1, run⟩ := Ec run
  obtain ⟨ys, h2, run⟩ := Ec run
  obtain ⟨p1, v1, e1, a1, b1, c1⟩ := Dm s r1 h1
  obtain ⟨p2, v2, e2, a2, b2, c2⟩ := Dm s r2 h2
  obtain ⟨hz, run⟩ := Su run
  rw [length_append] at hz
  exact .inr (.inr ⟨p1, p2, v1, v2, e1, e2, b1, b2, by rw [c1.len, c2.len]; exact hz, fun p hp => HW s run aft (c1.app c2) hp⟩)
 ·cases run
def subD : D -> D -> M D
 | .int i, .int j => M.ret (.int (i - j))
 | _, _ => M.stop
theorem ok_sub : Ut .Sub subD := by
 intro X _
 refine ⟨_, op_sub, ?_⟩
 intro mg E α H Z Z' d1 d2 x y q Q s r1 r2 run aft
 unfold subD at run
 split at run
 ·exact ⟨_, _, r1, r2, Av s run aft rfl⟩
 ·cases run
def Dh (i j : Int) : Prop := ((-(2 ^ 64) < i /\ i < 2 ^ 64) \/ (-(2 ^ 64) < j /\ j < 2 ^ 64)) \/ i.natAbs.log2 + j.natAbs.log2 < 1000000
instance (i j : Int) : Decidable (Dh i j) := by unfold Dh; infer_instance
def repS (x : Str) (n : Nat) : Str := ⟨(replicate n x.cps.toList).flatten.toArray⟩
theorem Vo (cs : List Nat) : ∀ (n : Nat) (acc : Array Nat), ((replicate n cs.toArray).foldl (· ++ ·) acc) = (acc.toList ++ (replicate n cs).flatten).toArray
 | 0, acc => by simp
 | n + 1, acc => by
  rw [replicate_succ, List.foldl_cons, Vo cs n]
  simp [replicate_succ]
def rMulS : R2 := fun x y H Q => ∃ z k, x = .str z /\ y = .int k /\ -(2 ^ 63) <= k /\ k < 2 ^ 63 /\ z.cps.toList.length * k.toNat <= sizeLine /\ Q (.str (repS z k.toNat)) H
theorem op_mulS {X : Cx} : OpR X (binaryOp .Mult) rMulS := by
 intro pins s σ H x y v u Q I rx ry h
 obtain ⟨z, k, rfl, rfl, h1, h2, hz, q⟩ := h
 obtain ⟨t, rfl⟩ := rx
 obtain ⟨t2, rfl⟩ := ry
 obtain ⟨⟨cs⟩⟩ := z
 have e0 : (replicate k.toNat cs).flatten.length = cs.length * k.toNat := by
  rw [List.length_flatten, List.map_replicate, List.sum_replicate_nat, Nat.mul_comm]
 have hz : cs.length * k.toNat <= sizeLine := hz
 have fin : ∀ (a : Str), a = repS ⟨⟨cs⟩⟩ k.toNat -> EP X pins σ Q (.str a s.toks) { s with toks := s.toks + 1 } := fun a e => by
  subst e
  exact ⟨.str (repS ⟨⟨cs⟩⟩ k.toNat), H, I.tok _, ⟨_, rfl⟩, q⟩
 refine PySem.P.mul_str (by rw [decide_eq_false ⋯, decide_eq_false ⋯]; rfl) (fun hk _ => ?_) (fun hk _ => ?_) ?_
 ·show ¬ (cs.length : Int) > _
  intro g
  have k0 : 0 < k := by omega
  have kk : ((k.toNat : Nat) : Int) = k := by omega
  have g2 : (2 ^ 63 - 1 : Int) / k < cs.length := g
  rw [Int.ediv_lt_iff_lt_mul k0] at g2
  have : ((cs.length * k.toNat : Nat) : Int) <= sizeLine := by exact_mod_cast hz
  rw [Int.natCast_mul, kk, sizeLine_eq] at this
  omega
 ·show Builtin.Str.tooLong (cs.length * k.toNat) = false
  unfold Builtin.Str.tooLong
  exact decide_eq_false ⋯
 ·by_cases hk : k < 1
  ·rw [if_pos hk]
   refine ⟨by show 0 <= sizeLine; omega, fin _ ?_⟩
   have : k.toNat = 0 := by omega
   rw [this]; rfl
  ·rw [if_neg hk]
   by_cases hb : (k == 1 || (⟨⟨cs⟩⟩ : Str).length == 0) = true
   ·rw [if_pos hb]
    refine ⟨.str ⟨⟨cs⟩⟩, H, I, ⟨t, rfl⟩, ?_⟩
    have : repS ⟨⟨cs⟩⟩ k.toNat = ⟨⟨cs⟩⟩ := by
     rcases Bool.or_eq_true_iff.mp hb with z | z
     ·have : k.toNat = 1 := by have := beq_iff_eq.mp z; omega
      rw [this]
      simp [repS]
     ·have : cs = [] := eq_nil_of_length_eq_zero (beq_iff_eq.mp z)
      subst this
      simp [repS]
    rw [this] at q
    exact q
   ·rw [if_neg hb]
    have e := Vo cs k.toNat #[]
    refine ⟨?_, fin _ ?_⟩
    ·show ((replicate k.toNat cs.toArray).foldl (· ++ ·) #[]).size <= sizeLine
     rw [e]
     simp only [nil_append, size_toArray]
     rw [e0]; exact hz
    ·exact congrArg Str.mk (e.trans (by rfl))
def mulD : D -> D -> M D
 | .int i, .int j => if Dh i j then M.ret (.int (i * j)) else M.stop
 | .ref l, .int k => M.bnd (M.lst l) fun xs => if -(2 ^ 63) <= k /\ k < 2 ^ 63 then newL (replicate k.toNat xs).flatten else M.stop
 | .str x, .int k => if -(2 ^ 63) <= k /\ k < 2 ^ 63 /\ x.cps.toList.length * k.toNat <= sizeLine then M.ret (.str (repS x k.toNat)) else M.stop
 | _, _ => M.stop
theorem Bh.rep {K : PySem.W.Frag} {α : List Addr} {H : Hp} {ds : List D} {vs : List V} (h : Bh K α H ds vs) : ∀ k : Nat, Bh K α H (replicate k ds).flatten (replicate k vs).flatten
 | 0 => rfl
 | k + 1 => by
  rw [replicate_succ, replicate_succ, List.flatten_cons, List.flatten_cons]
  exact h.app (Bh.rep h k)
theorem flat_len {a : Type} (xs : List a) (k : Nat) : (replicate k xs).flatten.length = xs.length * k := by
 rw [List.length_flatten, List.map_replicate, List.sum_replicate_nat, Nat.mul_comm]
theorem Ca : Ut .Mult mulD := by
 intro X _
 refine ⟨_, OpR.or (OpR.or op_mul op_mulW) (OpR.or op_rep op_mulS), ?_⟩
 intro mg E α H Z Z' d1 d2 x y q Q s r1 r2 run aft
 unfold mulD at run
 split at run
 ·split at run
  ·rename_i hm
   rcases hm with hm | hm
   ·exact .inl (.inl ⟨_, _, r1, r2, hm, Av s run aft rfl⟩)
   ·exact .inl (.inr ⟨_, _, r1, r2, hm, Av s run aft rfl⟩)
  ·cases run
 ·obtain ⟨xs, h1, run⟩ := Ec run
  obtain ⟨p1, v1, e1, a1, b1, c1⟩ := Dm s r1 h1
  split at run
  ·rename_i hk
   obtain ⟨hz, run⟩ := Su run
   refine .inr (.inl ⟨p1, _, v1, e1, r2, b1, hk.1, hk.2, ?_, fun p hp => HW s run aft (c1.rep _) hp⟩)
   rw [flat_len] at hz
   rw [c1.len]
   exact hz
  ·cases run
 ·split at run
  ·rename_i hk
   exact .inr (.inr ⟨_, _, r1, r2, hk.1, hk.2.1, hk.2.2, Av s run aft rfl⟩)
  ·cases run
 ·cases run
def Mx (j : Int) : Prop := j ≠ 0
instance (j : Int) : Decidable (Mx j) := by unfold Mx; infer_instance
def fdivD : D -> D -> M D
 | .int i, .int j => if Mx j then M.ret (.int (i.fdiv j)) else M.stop
 | _, _ => M.stop
theorem Here.pylong {X : Cx} (h : Here X) {pins : List (Addr × Obj)} {σ : L2.St} {H : Hp} {s : Shared} (I : Inv X pins σ H s) : PySem.PylongRoom (model X.prog X.w) X.A s := by
 obtain ⟨env, l, h1, h2, h3, h4, h5⟩ := h.top
 have fr : X.A.frames = some (env :: l) := by rw [I.ok.frames, h1]
 refine PySem.PylongRoom.of I.nolimit ?_ (PySem.SeerAt.of (h.sy.s.keeps I.bk) h.sy.t fr h2 h3 h4 h5)
 have := h.big
 show X.A.depth + 100 < recursionLimit
 omega
theorem op_fdivB {X : Cx} (h : Here X) : OpR X (binaryOp .FloorDiv) (rI (fun _ j => Mx j) fun i j => .int (i.fdiv j)) := by
 intro pins s σ H x y v u Q I rx ry hh
 obtain ⟨i, j, rfl, rfl, hc, q⟩ := hh
 obtain ⟨t, rfl⟩ := rx
 obtain ⟨t2, rfl⟩ := ry
 exact floordiv_int hc ⟨.int (i.fdiv j), H, I.tok _, ⟨_, rfl⟩, q⟩ (.inr (h.pylong I))
theorem Dk : Ut .FloorDiv fdivD := by
 intro X hx
 refine ⟨_, op_fdivB hx, ?_⟩
 intro mg E α H Z Z' d1 d2 x y q Q s r1 r2 run aft
 unfold fdivD at run
 split at run
 ·split at run
  ·rename_i hm
   exact ⟨_, _, r1, r2, hm, Av s run aft rfl⟩
  ·cases run
 ·cases run
def modD : D -> D -> M D
 | .int i, .int j => if j ≠ 0 then M.ret (.int (i.fmod j)) else M.stop
 | _, _ => M.stop
theorem Hw : Ut .Mod modD := by
 intro X _
 refine ⟨_, op_modN, ?_⟩
 intro mg E α H Z Z' d1 d2 x y q Q s r1 r2 run aft
 unfold modD at run
 split at run
 ·split at run
  ·rename_i hm
   exact ⟨_, _, r1, r2, hm, Av s run aft rfl⟩
  ·cases run
 ·cases run
def Qy (i j : Int) : Prop := 0 <= j /\ ((j <= 1000000 /\ i.natAbs < 2 ^ 64) \/ (Builtin.Int.intBits i : Int) * j <= 2 ^ 27)
instance (i j : Int) : Decidable (Qy i j) := by unfold Qy; infer_instance
def powD : D -> D -> M D
 | .int i, .int j => if Qy i j then M.ret (.int (i ^ j.toNat)) else M.stop
 | _, _ => M.stop
theorem op_powB {X : Cx} : OpR X (binaryOp .Pow) (rI Qy fun i j => .int (i ^ j.toNat)) := opI fun i j _ _ _ _ _ hc q => by
 rcases hc.2 with h | h
 ·exact pow_int_small hc.1 h.1 h.2 q
 ·exact pow_int hc.1 h q
theorem UV : Ut .Pow powD := by
 intro X _
 refine ⟨_, op_powB, ?_⟩
 intro mg E α H Z Z' d1 d2 x y q Q s r1 r2 run aft
 unfold powD at run
 split at run
 ·split at run
  ·rename_i hm
   exact ⟨_, _, r1, r2, hm, Av s run aft rfl⟩
  ·cases run
 ·cases run
def ltD : D -> D -> M D
 | .int i, .int j => M.ret (.bl (decide (i < j)))
 | _, _ => M.stop
def gtD : D -> D -> M D
 | .int i, .int j => M.ret (.bl (decide (j < i)))
 | _, _ => M.stop
def geD : D -> D -> M D
 | .int i, .int j => M.ret (.bl (decide (j <= i)))
 | _, _ => M.stop
theorem Ul {op : CmpOp} {f : D -> D -> M D} {g : Int -> Int -> Bool} (h : ∀ X : Cx, OpR X (compareOp op) (rI0 fun i j => .bl (g i j))) (hf : ∀ i j, f (.int i) (.int j) = M.ret (.bl (g i j)))
  (hn : ∀ d e, (∀ i j, ¬ (d = .int i /\ e = .int j)) -> f d e = M.stop) : Kh op f := by
 intro X _
 refine ⟨_, h X, ?_⟩
 intro mg E α H Z Z' d1 d2 x y q Q s r1 r2 run aft
 by_cases z : ∃ i j, d1 = .int i /\ d2 = .int j
 ·obtain ⟨i, j, rfl, rfl⟩ := z
  rw [hf] at run
  exact ⟨i, j, r1, r2, Av s run aft rfl⟩
 ·rw [hn d1 d2 fun i j w => z ⟨i, j, w⟩] at run
  cases run
theorem ok_lt : Kh .Lt ltD := Ul (g := fun i j => decide (i < j)) (fun _ => op_lt) (fun _ _ => rfl) fun d e h => by
 unfold ltD; split
 ·exact (h _ _ ⟨rfl, rfl⟩).elim
 ·rfl
theorem ok_gt : Kh .Gt gtD := Ul (g := fun i j => decide (j < i)) (fun _ => op_gt) (fun _ _ => rfl) fun d e h => by
 unfold gtD; split
 ·exact (h _ _ ⟨rfl, rfl⟩).elim
 ·rfl
theorem ok_ge : Kh .GtE geD := Ul (g := fun i j => decide (j <= i)) (fun _ => op_ge) (fun _ _ => rfl) fun d e h => by
 unfold geD; split
 ·exact (h _ _ ⟨rfl, rfl⟩).elim
 ·rfl
def isNone : D -> Bool
 | .non => true
 | _ => false
theorem Xj {K : PySem.W.Frag} {α : List Addr} {H : Hp} {d : D} {v : V} (r : Rep K α H d v) : decide (v = .non) = isNone d := by
 cases d with
 | non => exact decide_eq_true r
 | bl b => cases (show v = .bl b from r); rfl
 | int b => cases (show v = .int b from r); rfl
 | fn x => cases (show v = .ref (Tb.F x) from r); rfl
 | str b => cases (show v = .str b from r); rfl
 | tup ds => obtain ⟨p, vs, e, _⟩ := r; cases e; rfl
 | fro ds => obtain ⟨p, vs, e, _⟩ := r; cases e; rfl
 | tpl ds => obtain ⟨p, vs, e, _⟩ := r; cases e; rfl
 | ref l => obtain ⟨p, e, _⟩ := r; cases e; rfl
def isnD : D -> D -> M D
 | d, .non => M.ret (.bl (!isNone d))
 | _, _ => M.stop
theorem ok_isn : Kh .IsNot isnD := by
 intro X _
 refine ⟨_, op_notN, ?_⟩
 intro mg E α H Z Z' d1 d2 x y q Q s r1 r2 run aft
 cases d2 with
 | non => exact ⟨r2, by rw [Xj r1]; exact Av s run aft rfl⟩
 | _ => cases run
def Fb (f : D -> Option PyData) : List D -> Option (List PyData)
 | [] => some []
 | d :: r => match f d, Fb f r with
  | some a, some b => some (a :: b)
  | _, _ => none
def keyP : Key -> PyData
 | .inl i => .int i
 | .inr x => .str x
def XD (f : D -> Option PyData) : List (Key × D) -> Option (List (PyData × PyData))
 | [] => some []
 | (k, d) :: r => match f d, XD f r with
  | some a, some b => some ((keyP k, a) :: b)
  | _, _ => none
def see (Z : List O) : Nat -> D -> Option PyData
 | 0, _ => none
 | _ + 1, .non => some .none
 | _ + 1, .bl b => some (.bool b)
 | _ + 1, .int i => some (.int i)
 | _ + 1, .str x => some (.str x)
 | n + 1, .tup ds => (Fb (see Z n) ds).map .tuple
 | n + 1, .fro ds => none
 | n + 1, .fn _ => none
 | n + 1, .tpl _ => none
 | n + 1, .ref l => match Z[l]? with
  | some (.lst ds) => (Fb (see Z n) ds).map .list
  | some (.dct kvs) => (XD (see Z n) kvs).map .dict
  | _ => none
section
variable {X : Cx} {pins : List (Addr × Obj)} {σ : L2.St} {H : Hp} {s : Shared} {α : List Addr} {Z : List O}
theorem no_sys (I : Inv X pins σ H s) (hb : ∃ o, X.base.get? sysModules = some o) {p : Addr} {u : HO} (h : H p = some u) : p ≠ sysModules := fun z => by
 obtain ⟨o, e⟩ := hb
 have := (I.bs _ _ e).2
 rw [<- z, h] at this
 cases this
theorem Jw {f : D -> Option PyData} (ih : ∀ d p v u, f d = some p -> Rep X.K α H d v -> RelV v u -> ∃ as, Reads s.heap u p as /\ sysModules ∉ as) :
  ∀ (ds : List D) ps vs us, Fb f ds = some ps -> Bh X.K α H ds vs -> Vals vs us -> ∃ as, ReadsAll s.heap us ps as /\ sysModules ∉ as
 | [], ps, vs, us, h, r, w => by
  have e : vs = [] := r
  subst e
  cases w
  cases h
  exact ⟨[], .nil, by simp⟩
 | d :: ds, ps, vs, us, h, ⟨v, vr, e, r1, r2⟩, w => by
  subst e
  cases w with
  | cons w1 w2 =>
   unfold Fb at h
   cases e1 : f d with
   | none => rw [e1] at h; cases h
   | some a =>
    cases e2 : Fb f ds with
    | none => rw [e1, e2] at h; cases h
    | some b =>
     rw [e1, e2] at h
     cases h
     obtain ⟨as, q1, n1⟩ := ih d a v _ e1 r1 w1
     obtain ⟨bs, q2, n2⟩ := Jw ih ds b vr _ e2 r2 w2
     exact ⟨as ++ bs, .cons q1 q2, by simp [n1, n2]⟩
theorem V8 {knd : PySem.KeyKind X.prog X.w Key} (hk : ∀ k v, knd.is k v = keyIs k v) {f : D -> Option PyData} (ih : ∀ d p v u, f d = some p -> Rep X.K α H d v -> RelV v u -> ∃ as, Reads s.heap u p as /\ sysModules ∉ as) :
  ∀ (es : List DictEntry) (ks : List (Key × D)) ps ws vs, XD f ks = some ps -> Bo X.K α H ks ws -> KV ws vs -> PySem.Pairs knd es vs ->
   (∃ as, ReadsAll s.heap (es.map (·.key)) (ps.map (·.1)) as /\ sysModules ∉ as) /\ ∃ bs, ReadsAll s.heap (es.map (·.val)) (ps.map (·.2)) bs /\ sysModules ∉ bs := by
 intro es
 induction es with
 | nil =>
  intro ks ps ws vs h r w P
  cases P
  cases w
  cases ks with
  | nil =>
   cases h
   exact ⟨⟨[], .nil, by simp⟩, [], .nil, by simp⟩
  | cons k ks =>
   obtain ⟨k, d⟩ := k
   obtain ⟨v, s', e, _⟩ := r
   cases e
 | cons en es ih2 =>
  intro ks ps ws vs h r w P
  cases P with
  | cons hkey hval hP =>
   cases w with
   | cons w1 w2 =>
    cases ks with
    | nil =>
     have e : _ = ([] : List (Key × V)) := r
     cases e
    | cons k ks =>
     obtain ⟨k, d⟩ := k
     obtain ⟨v, s', e, r1, r2⟩ := r
     cases e
     unfold XD at h
     cases e1 : f d with
     | none => rw [e1] at h; cases h
     | some a =>
      cases e2 : XD f ks with
      | none => rw [e1, e2] at h; cases h
      | some b =>
       rw [e1, e2] at h
       cases h
       obtain ⟨⟨as, q1, n1⟩, bs, q2, n2⟩ := ih2 ks b _ _ e2 r2 w2 hP
       obtain ⟨cs, q3, n3⟩ := ih d a v _ e1 r1 w1.2
       rw [hk, <- w1.1] at hkey
       have qk : Reads s.heap en.key (keyP k) [] := by
        rcases keyIs_shape hkey with ⟨i, t, z1, z2⟩ | ⟨i, t, z1, z2⟩
        ·have z1' : k = Sum.inl i := z1
         rw [z2, z1']
         exact .int i t
        ·have z1' : k = Sum.inr i := z1
         rw [z2, z1']
         exact .str i t
       refine ⟨⟨[] ++ as, .cons qk q1, by simpa using n1⟩, cs ++ bs, ?_, by simp [n2, n3]⟩
       rw [map_cons, map_cons]
       refine .cons ?_ q2
       rw [hval]
       exact q3
theorem Eo (I : Inv X pins σ H s) (hb : ∃ o, X.base.get? sysModules = some o) (sS : RepS X.K α H Z) : ∀ (n : Nat) d p v u, see Z n d = some p -> Rep X.K α H d v -> RelV v u -> ∃ as, Reads s.heap u p as /\ sysModules ∉ as
 | 0, d, p, v, u, h, _, _ => by cases h
 | n + 1, d, p, v, u, h, r, w => by
  have ih := Eo I hb sS n
  cases d with
  | non =>
   cases h
   cases (show v = .non from r)
   cases (show u = Value.none from w)
   exact ⟨[], .none, by simp⟩
  | bl b =>
   cases h
   cases (show v = .bl b from r)
   cases (show u = Value.bool b from w)
   exact ⟨[], .bool b, by simp⟩
  | int i =>
   cases h
   cases (show v = .int i from r)
   obtain ⟨t, e⟩ := (show ∃ t, u = Value.int i t from w)
   cases e
   exact ⟨[], .int i t, by simp⟩
  | str i =>
   cases h
   cases (show v = .str i from r)
   obtain ⟨t, e⟩ := (show ∃ t, u = Value.str i t from w)
   cases e
   exact ⟨[], .str i t, by simp⟩
  | tup ds =>
   obtain ⟨p1, vs, e, t, r2⟩ := r
   subst e
   cases (show u = Value.ref p1 from w)
   have h' : (Fb (see Z n) ds).map PyData.tuple = some p := h
   cases e1 : Fb (see Z n) ds with
   | none => rw [e1] at h'; cases h'
   | some ps =>
    rw [e1] at h'
    cases h'
    obtain ⟨its, rv, ht, _⟩ := I.tuple t
    obtain ⟨o, h1, h2, m, h3⟩ := ht
    obtain ⟨as, q1, n1⟩ := Jw ih ds ps vs its e1 r2 rv
    exact ⟨as, .tuple h1 h2 h3 (by simpa using q1), n1⟩
  | fro ds => cases h
  | fn _ => cases h
  | tpl _ => cases h
  | ref l =>
   obtain ⟨p1, e, a⟩ := r
   subst e
   cases (show u = Value.ref p1 from w)
   obtain ⟨o, h1, h2⟩ := sS.there a
   cases o with
   | ins _ _ =>
    unfold see at h
    rw [h1] at h
    cases h
   | fzd _ =>
    unfold see at h
    rw [h1] at h
    cases h
   | lst ds =>
    obtain ⟨vs, hp, r2⟩ := h2
    have h' : (Fb (see Z n) ds).map PyData.list = some p := by
     unfold see at h
     rw [h1] at h
     exact h
    cases e1 : Fb (see Z n) ds with
    | none => rw [e1] at h'; cases h'
    | some ps =>
     rw [e1] at h'
     cases h'
     obtain ⟨_, its, m, rv, e3⟩ := (show ObjOk X.prog X.w H s.heap p1 (.lst vs) from I.hok p1 _ hp)
     obtain ⟨as, q1, n1⟩ := Jw ih ds ps vs its e1 r2 rv
     exact ⟨p1 :: as, .list e3 rfl rfl (by simpa using q1), by
      have := no_sys I hb hp
      simp [n1, Ne.symm this]⟩
   | dct ks =>
    obtain ⟨ws, hp, r2⟩ := h2
    have h' : (XD (see Z n) ks).map PyData.dict = some p := by
     unfold see at h
     rw [h1] at h
     exact h
    cases e1 : XD (see Z n) ks with
    | none => rw [e1] at h'; cases h'
    | some ps =>
     rw [e1] at h'
     cases h'
     obtain ⟨_, _, vs, rv, o, es, ep, e3, e4, e5, _, P, _⟩ := (show ObjOk X.prog X.w H s.heap p1 (.dK ws) from I.hok p1 _ hp)
     obtain ⟨⟨as, q1, n1⟩, bs, q2, n2⟩ := V8 (knd := mixKind X.prog X.w) (fun _ _ => rfl) ih es.toList ks ps ws vs e1 r2 rv P
     exact ⟨p1 :: as ++ bs, .dict e3 e4.1 e5 (by simpa using q1) (by simpa using q2), by
      have := no_sys I hb hp
      simp [n1, n2, Ne.symm this]⟩
end
def XJ (neg : Bool) (d e : D) : M D := fun Z => match see Z 65 d, see Z 65 e with
 | some a, some b => if SeqAt.shaped a = true /\ SeqAt.shaped b = true then some (.ok (.bl (if neg then !PyData.eqv a b else PyData.eqv a b)), Z) else none
 | _, _ => none
def rEqS (X : Cx) (neg : Bool) : R2 := fun x y H Q => ∃ α Z d e, RepS X.K α H Z /\ Rep X.K α H d x /\ Rep X.K α H e y /\ ∃ a b, see Z 65 d = some a /\ see Z 65 e = some b /\ SeqAt.shaped a = true /\ SeqAt.shaped b = true /\ Q (.bl (if neg then !PyData.eqv a b else PyData.eqv a b)) H
theorem op_eqS {X : Cx} (h : Here X) : OpR X (compareOp .Eq) (rEqS X false) := by
 intro pins s σ H x y v u Q I rx ry h'
 obtain ⟨α, Z, d, e, sS, r1, r2, a, b, e1, e2, s1, s2, q⟩ := h'
 obtain ⟨as, q1, _⟩ := Eo I h.sys sS 65 d a x v e1 r1 rx
 obtain ⟨bs, q2, _⟩ := Eo I h.sys sS 65 e b y u e2 r2 ry
 exact SeqAt.compareEq_shaped q1 q2 s1 s2 h.room.units ⟨.bl _, H, I, rfl, q⟩
theorem op_neS {X : Cx} (h : Here X) : OpR X (compareOp .NotEq) (rEqS X true) := by
 intro pins s σ H x y v u Q I rx ry h'
 obtain ⟨α, Z, d, e, sS, r1, r2, a, b, e1, e2, s1, s2, q⟩ := h'
 obtain ⟨as, q1, _⟩ := Eo I h.sys sS 65 d a x v e1 r1 rx
 obtain ⟨bs, q2, _⟩ := Eo I h.sys sS 65 e b y u e2 r2 ry
 exact SeqAt.compareNe_shaped q1 q2 s1 s2 h.room.units ⟨.bl _, H, I, rfl, q⟩
def eqD : D -> D -> M D
 | .int i, .int j => M.ret (.bl (decide (i = j)))
 | .str i, .str j => M.ret (.bl (decide (i = j)))
 | .bl i, .bl j => M.ret (.bl (decide (i = j)))
 | d, e => XJ false d e
def neD : D -> D -> M D
 | .int i, .int j => M.ret (.bl (!decide (i = j)))
 | .str i, .str j => M.ret (.bl (!decide (i = j)))
 | .bl i, .bl j => M.ret (.bl (!decide (i = j)))
 | d, e => XJ true d e
theorem Zx {X : Cx} {neg : Bool} {mg : Str -> Option Value} {E : XK} {α : List Addr} {H : Hp} {Z Z' : List O} {d1 d2 : D} {x y : V} {q : Except Ex D} {Q : VK} (s : RepS X.K α H Z) (r1 : Rep X.K α H d1 x) (r2 : Rep X.K α H d2 y)
  (run : XJ neg d1 d2 Z = some (q, Z')) (aft : Aft (Rep X.K) X.K mg E α H q Z' Q) : rEqS X neg x y H Q := by
 unfold XJ at run
 cases e1 : see Z 65 d1 with
 | none => rw [e1] at run; cases run
 | some a =>
  cases e2 : see Z 65 d2 with
  | none => rw [e1, e2] at run; cases run
  | some b =>
   rw [e1, e2] at run
   dsimp only at run
   split at run
   ·rename_i hs
    exact ⟨α, Z, d1, d2, s, r1, r2, a, b, e1, e2, hs.1, hs.2, Av s run aft rfl⟩
   ·cases run
theorem LC : Kh .Eq eqD := by
 intro X hx
 refine ⟨_, OpR.or op_eq (op_eqS hx), ?_⟩
 intro mg E α H Z Z' d1 d2 x y q Q s r1 r2 run aft
 unfold eqD at run
 split at run
 ·cases (show x = .int _ from r1); cases (show y = .int _ from r2)
  exact .inl ⟨rfl, Av s run aft (by show V.bl _ = V.bl _; simp)⟩
 ·cases (show x = .str _ from r1); cases (show y = .str _ from r2)
  exact .inl ⟨rfl, Av s run aft (by show V.bl _ = V.bl _; simp)⟩
 ·cases (show x = .bl _ from r1); cases (show y = .bl _ from r2)
  exact .inl ⟨rfl, Av s run aft (by show V.bl _ = V.bl _; simp)⟩
 ·exact .inr (Zx s r1 r2 run aft)
theorem Wt : Kh .NotEq neD := by
 intro X hx
 refine ⟨_, OpR.or op_ne (op_neS hx), ?_⟩
 intro mg E α H Z Z' d1 d2 x y q Q s r1 r2 run aft
 unfold neD at run
 split at run
 ·cases (show x = .int _ from r1); cases (show y = .int _ from r2)
  exact .inl ⟨rfl, Av s run aft (by show V.bl _ = V.bl _; simp)⟩
 ·cases (show x = .str _ from r1); cases (show y = .str _ from r2)
  exact .inl ⟨rfl, Av s run aft (by show V.bl _ = V.bl _; simp)⟩
 ·cases (show x = .bl _ from r1); cases (show y = .bl _ from r2)
  exact .inl ⟨rfl, Av s run aft (by show V.bl _ = V.bl _; simp)⟩
 ·exact .inr (Zx s r1 r2 run aft)
def valD (kvs : List (Key × D)) (k : Key) : Option D := (kvs.find? fun kv => decide (kv.1 = k)).map (·.2)
def G7 (kvs : List (Key × D)) (k : Key) (v : D) : List (Key × D) :=
 if (kvs.any fun kv => decide (kv.1 = k)) = true then kvs.map (fun kv => if kv.1 = k then (kv.1, v) else kv) else kvs ++ [(k, v)]
def keyD : D -> Option Key
 | .int i => some (.inl i)
 | .str x => some (.inr x)
 | _ => none
theorem Ud {K : PySem.W.Frag} {α : List Addr} {H : Hp} {d : D} {v : V} {kk : Key} (r : Rep K α H d v) (h : keyD d = some kk) : v = kV kk := by
 cases d with
 | int i => cases h; exact r
 | str i => cases h; exact r
 | _ => cases h
section
variable {K : PySem.W.Frag} {α : List Addr} {H : Hp}
theorem Bo.len : ∀ {ds : List (Key × D)} {ws : List (Key × V)}, Bo K α H ds ws -> ws.length = ds.length
 | [], _, h => by
  have e : _ = ([] : List (Key × V)) := h
  rw [e]; rfl
 | (k, d) :: ds, _, ⟨v, r, e, a, b⟩ => by rw [e, length_cons, length_cons, Bo.len b]
theorem Bo.val : ∀ {ds : List (Key × D)} {ws : List (Key × V)} (k : Key), Bo K α H ds ws -> match valD ds k with
  | some d => ∃ v, valV ws k = some v /\ Rep K α H d v
  | none => valV ws k = none
 | [], _, k, h => by
  have e : _ = ([] : List (Key × V)) := h
  rw [e]; rfl
 | (j, d) :: ds, _, k, ⟨v, r, e, a, b⟩ => by
  subst e
  by_cases h : j = k
  ·have e1 : valD ((j, d) :: ds) k = some d := by simp [valD, find?_cons, h]
   rw [e1]
   exact ⟨v, valV_pos (p := (j, v)) h, a⟩
  ·have e1 : valD ((j, d) :: ds) k = valD ds k := by simp [valD, find?_cons, h]
   rw [e1, valV_neg (p := (j, v)) h]
   exact Bo.val k b
theorem Bo.some_ {ds : List (Key × D)} {ws : List (Key × V)} {k : Key} {d : D} (h : Bo K α H ds ws) (e : valD ds k = some d) : ∃ v, valV ws k = some v /\ Rep K α H d v := by
 have := h.val k
 rw [e] at this
 exact this
theorem Bo.none_ {ds : List (Key × D)} {ws : List (Key × V)} {k : Key} (h : Bo K α H ds ws) (e : valD ds k = none) : valV ws k = none := by
 have := h.val k
 rw [e] at this
 exact this
theorem Bo.any : ∀ {ds : List (Key × D)} {ws : List (Key × V)} (k : Key), Bo K α H ds ws -> (ws.any fun kv => decide (kv.1 = k)) = ds.any fun kv => decide (kv.1 = k)
 | [], _, k, h => by
  have e : _ = ([] : List (Key × V)) := h
  rw [e]; rfl
 | (j, d) :: ds, _, k, ⟨v, r, e, a, b⟩ => by
  subst e
  rw [List.any_cons, List.any_cons, Bo.any k b]
theorem Bo.app : ∀ {ds es : List (Key × D)} {ws us : List (Key × V)}, Bo K α H ds ws -> Bo K α H es us -> Bo K α H (ds ++ es) (ws ++ us)
 | [], _, _, _, h, h2 => by
  have e : _ = ([] : List (Key × V)) := h
  rw [e]; exact h2
 | (j, d) :: ds, _, _, _, ⟨v, r, e, a, b⟩, h2 => ⟨v, r ++ _, by rw [e]; rfl, a, Bo.app b h2⟩
theorem Bo.repl : ∀ {ds : List (Key × D)} {ws : List (Key × V)} (k : Key) {d : D} {v : V}, Bo K α H ds ws -> Rep K α H d v -> Bo K α H (ds.map fun kv => if kv.1 = k then (kv.1, d) else kv) (ws.map fun kv => if kv.1 = k then (kv.1, v) else kv)
 | [], _, _, _, _, h, _ => by
  have e : _ = ([] : List (Key × V)) := h
  rw [e]; exact rfl
 | (j, d0) :: ds, _, k, d, v, ⟨v0, r, e, a, b⟩, h2 => by
  subst e
  rw [map_cons, map_cons]
  by_cases h : j = k
  ·rw [if_pos h, if_pos h]
   exact ⟨v, _, rfl, h2, Bo.repl k b h2⟩
  ·rw [if_neg h, if_neg h]
   exact ⟨v0, _, rfl, a, Bo.repl k b h2⟩
theorem Bo.put {ds : List (Key × D)} {ws : List (Key × V)} (k : Key) {d : D} {v : V} (h : Bo K α H ds ws) (r : Rep K α H d v) : Bo K α H (G7 ds k d) (putK ws k v) := by
 unfold G7 putK
 rw [h.any k]
 split
 ·exact h.repl k r
 ·exact h.app ⟨v, [], rfl, r, rfl⟩
theorem Zq0 {Z : List O} {l : Nat} {kvs : List (Key × D)} {x : V} (s : RepS K α H Z) (r : Rep K α H (.ref l) x) (h : Z[l]? = some (.dct kvs)) : ∃ p ws, x = .ref p /\ α[l]? = some p /\ H p = some (.dK ws) /\ Bo K α H kvs ws := by
 obtain ⟨p, e, a⟩ := r
 obtain ⟨ws, h1, h2⟩ := s.at_ l _ p h a
 exact ⟨p, ws, e, a, h1, h2⟩
end
def M.dct (l : Nat) : M (List (Key × D)) := fun Z => match Z[l]? with
 | some (.dct kvs) => some (.ok kvs, Z)
 | _ => none
theorem bnd_dct {a : Type} {l : Nat} {Z Z' : List O} {f : List (Key × D) -> M a} {r : Except Ex a} (h : M.bnd (M.dct l) f Z = some (r, Z')) : ∃ ds, Z[l]? = some (.dct ds) /\ f ds Z = some (r, Z') := by
 unfold M.bnd M.dct at h
 cases e : Z[l]? with
 | none => rw [e] at h; cases h
 | some o =>
  rw [e] at h
  cases o with
  | lst ds => cases h
  | ins _ _ => cases h
  | fzd _ => cases h
  | dct ds => exact ⟨ds, rfl, h⟩
theorem hu0 {X : Cx} (h : Here X) : X.A.units + 1 < cLine := hu_of h.room
def rIxKD : R2 := fun x y H Q => ∃ a z v, x = .ref a /\ y = .str z /\ DGet H a y (some v) /\ Q v H
theorem ix_dictK {X : Cx} (hu : X.A.units + 1 < cLine) : IxR X rIxKD := by
 intro value slice pins s σ H x y v u Q I rx ry h hs
 obtain ⟨a, z, w, rfl, rfl, g, q⟩ := h
 obtain rfl : v = Value.ref a := rx
 exact tail_any (dict_typeIs I g) PySem.F.slot_dict_getitem.lookup (d_getItem hu I g ry fun w' s' I' rw' => ⟨w, H, I', rw', q⟩) hs
def Qz : Expr -> Bool
 | .Slice _ _ _ _ => false
 | _ => true
theorem Wq {b : Expr} (h : Qz b = true) : PlainIx b := by
 intro o i
 cases b <;> first | rfl | cases h
def atD (ds : List D) (i : Int) : M D := match atI ds i with
 | some d => M.ret d
 | none => M.stop
def ixD : D -> D -> M D
 | .tup ds, .int i => atD ds i
 | .fro ds, .int i => atD ds i
 | .ref l, .int i => M.bnd (M.lst l) fun ds => atD ds i
 | .ref l, .str x => M.bnd (M.dct l) fun kvs => match valD kvs (.inr x) with
  | some d => M.ret d
  | none => M.stop
 | .str z, .int i => if z.length <= sizeLine then match atI z.cps.toList i with
   | some c => M.ret (.str ⟨#[c]⟩)
   | none => M.stop
  else M.stop
 | _, _ => M.stop
theorem Bh.atI {K : PySem.W.Frag} {α : List Addr} {H : Hp} {ds : List D} {vs : List V} {i : Int} {d : D} (r : Bh K α H ds vs) (h : L2.atI ds i = some d) : ∃ v, L2.atI vs i = some v /\ Rep K α H d v := by
 unfold L2.atI at h ⊢
 rw [r.len]
 cases e : ixN ds.length i with
 | none => rw [e] at h; cases h
 | some j =>
  rw [e] at h
  exact r.get h
theorem Ur {K : PySem.W.Frag} {mg : Str -> Option Value} {E : XK} {α : List Addr} {H : Hp} {Z Z' : List O} {ds : List D} {vs : List V} {i : Int} {q : Except Ex D} {Q : VK} (s : RepS K α H Z) (r : Bh K α H ds vs)
  (run : atD ds i Z = some (q, Z')) (aft : Aft (Rep K) K mg E α H q Z' Q) : ∃ v, L2.atI vs i = some v /\ Q v H := by
 unfold atD at run
 cases e : L2.atI ds i with
 | none => rw [e] at run; cases run
 | some d =>
  rw [e] at run
  obtain ⟨v, h1, h2⟩ := r.atI e
  exact ⟨v, h1, Av s run aft h2⟩
theorem ix_ok {X : Cx} : OpD X.K (fun x y H Q => rIx X.K x y H Q \/ rIxKD x y H Q) ixD := by
 intro mg E α H Z Z' d1 d2 x y q Q s r1 r2 run aft
 unfold ixD at run
 split at run
 ·obtain ⟨p, vs, e, t, w⟩ := r1
  obtain ⟨v, h1, h2⟩ := Ur s w run aft
  exact .inl (.inr (.inl ⟨p, vs, _, v, e, r2, t, h1, h2⟩))
 ·obtain ⟨p, vs, e, t, w⟩ := r1
  obtain ⟨v, h1, h2⟩ := Ur s w run aft
  exact .inl (.inl ⟨p, vs, _, v, e, r2, t.sq, h1, h2⟩)
 ·obtain ⟨xs, h1, run⟩ := Ec run
  obtain ⟨p1, v1, e1, a1, b1, c1⟩ := Dm s r1 h1
  obtain ⟨v, h1, h2⟩ := Ur s c1 run aft
  exact .inl (.inl ⟨p1, v1, _, v, e1, r2, SqL.of b1, h1, h2⟩)
 ·rename_i l z
  obtain ⟨kvs, h1, run⟩ := bnd_dct run
  obtain ⟨p1, ws, e1, a1, b1, c1⟩ := Zq0 s r1 h1
  cases e : valD kvs (.inr z) with
  | none => rw [e] at run; cases run
  | some d =>
   rw [e] at run
   obtain ⟨v, h2, h3⟩ := c1.some_ e
   exact .inr ⟨p1, z, v, e1, r2, .inl ⟨ws, .inr z, .inl b1, r2, h2.symm⟩, Av s run aft h3⟩
 ·split at run
  ·rename_i hz
   rename_i z i
   cases e : L2.atI z.cps.toList i with
   | none => rw [e] at run; cases run
   | some c =>
    rw [e] at run
    exact .inl (.inr (.inr ⟨z, i, c, r1, r2, hz, e, Av s run aft rfl⟩))
  ·cases run
 ·cases run
section
variable {Kn : Kno} {k : Nat}
def cIx (a b : CE) : CE := ⟨fun Y => M.bnd (a.run Y) fun x => M.bnd (b.run Y) fun y => ixD x y, fun I e => match e with
 | .Subscript l r _ => Qz r && (a.chk I l && b.chk I r)
 | _ => false⟩
theorem Bf {a b : CE} (ha : GE Kn k a) (hb : GE Kn k b) : GE Kn k (cIx a b) := by
 intro X W cb bs e h
 dsimp only [cIx] at h
 split at h
 ·simp only [and_eq_true] at h
  exact PE.imp (pe_ix (IxR.or ix_seq (ix_dictK (hu0 bs.here))) (ha X W cb bs _ h.2.1) (hb X W cb bs _ h.2.2) (Wq h.1)) (two ix_ok)
 ·cases h
structure CO where
 run : Env -> M (Option Int)
 chk : Inf -> Option Expr -> Bool
def GO (Kn : Kno) (k : Nat) (c : CO) : Prop := ∀ X W b, Bas Kn k b X W -> ∀ e, c.chk ⟨X.N, X.env.scope, b⟩ e = true -> PO X e (rd (fun _ _ (x y : Option Int) => x = y) X.K X.mg W c.run)
def oNo : CO := ⟨fun _ => M.ret none, fun _ e => e.isNone⟩
def asI : D -> M (Option Int)
 | .int i => M.ret (some i)
 | _ => M.stop
def YW (a : CE) : CO := ⟨fun Y => M.bnd (a.run Y) asI, fun I e => match e with
 | some x => a.chk I x
 | none => false⟩
theorem Zv : GO Kn k oNo := by
 intro X W cb bs e h
 cases e with
 | some _ => cases h
 | none => exact PO.imp po_none fun σ H Q ⟨α, Y, Z, r, Z', g, run, aft⟩ => Av g.s run aft rfl
theorem SQ {a : CE} (ha : GE Kn k a) : GO Kn k (YW a) := by
 intro X W cb bs e h
 cases e with
 | none => cases h
 | some x =>
  refine PO.imp (po_some (ha X W cb bs x h)) ?_
  rintro σ H Q ⟨α, Y, Z, q, Z', g, run, aft⟩
  refine Bp g run aft fun d v α1 H1 Z1 g1 k1 r1 run1 aft1 => ?_
  cases d with
  | int i => exact ⟨i, r1, Av g1.s run1 aft1 rfl⟩
  | _ => cases run1
def cutD {a : Type} (xs : List a) (lo hi : Option Int) : List a := (xs.drop (HT.sIx xs.length 0 lo)).take (HT.sIx xs.length xs.length hi - HT.sIx xs.length 0 lo)
theorem Bh.cut {K : PySem.W.Frag} {α : List Addr} {H : Hp} {ds : List D} {vs : List V} (r : Bh K α H ds vs) (lo hi : Option Int) : Bh K α H (cutD ds lo hi) (cutV vs lo hi) := by
 unfold cutD cutV
 rw [r.len]
 exact (r.drop _).take _
def slD (d : D) (lo hi : Option Int) : M D := match d with
 | .tup ds => M.ret (.tup (cutD ds lo hi))
 | .fro ds => M.new (.lst (cutD ds lo hi))
 | .ref l => M.bnd (M.lst l) fun ds => M.new (.lst (cutD ds lo hi))
 | .str z => if z.length <= sizeLine then M.ret (.str (cutS z lo hi)) else M.stop
 | _ => M.stop
theorem Zq3 {a : Type} {xs : List a} {lo hi : Option Int} (h : HT.sIx xs.length 0 lo = 0 /\ HT.sIx xs.length xs.length hi = xs.length) : cutD xs lo hi = xs := by
 unfold cutD
 rw [h.1, h.2, List.drop_zero, Nat.sub_zero, take_length]
def Gx (a : CE) (lo hi : CO) : CE := ⟨fun Y => M.bnd (a.run Y) fun x => M.bnd (lo.run Y) fun l => M.bnd (hi.run Y) fun h => slD x l h, fun I e => match e with
 | .Subscript b (.Slice l h none _) _ => a.chk I b && (lo.chk I l && hi.chk I h)
 | _ => false⟩
theorem Mr {a : CE} {lo hi : CO} (ha : GE Kn k a) (hl : GO Kn k lo) (hh : GO Kn k hi) : GE Kn k (Gx a lo hi) := by
 intro X W cb bs e h
 dsimp only [Gx] at h
 split at h
 ·simp only [and_eq_true] at h
  refine PE.imp (pe_slice (SlR.or sl_list (SlR.or sl_tupA sl_str)) (ha X W cb bs _ h.1) (hl X W cb bs _ h.2.1) (hh X W cb bs _ h.2.2)) ?_
  rintro σ H Q ⟨α, Y, Z, q, Z', g, run, aft⟩
  refine Bp g run aft fun d v α1 H1 Z1 g1 k1 r1 run1 aft1 => ?_
  refine Bp g1 run1 aft1 fun l l2 α2 H2 Z2 g2 k2 r2 run2 aft2 => ?_
  refine Bp g2 run2 aft2 fun u u2 α3 H3 Z3 g3 k3 r3 run3 aft3 => ?_
  subst r2 r3
  have r4 := r1.up (k2.trans k3)
  unfold slD at run3
  split at run3
  ·obtain ⟨p, vs, e, t, w⟩ := r4
   refine .inr (.inl ⟨p, vs, e, t, fun z => ?_, fun z p' hp => Q9 g3.s run3 aft3 (w.cut _ _) hp⟩)
   rw [w.len] at z
   have z' := Zq3 z
   rw [z'] at run3
   exact Av g3.s run3 aft3 ⟨p, vs, rfl, t, w⟩
  ·obtain ⟨p, vs, e, t, w⟩ := r4
   exact .inl ⟨p, vs, e, t.sq, fun p' hp => HW g3.s run3 aft3 (w.cut _ _) hp⟩
  ·obtain ⟨xs, h1, run3⟩ := Ec run3
   obtain ⟨p1, v1, e1, a1, b1, c1⟩ := Dm g3.s r4 h1
   exact .inl ⟨p1, v1, e1, SqL.of b1, fun p' hp => HW g3.s run3 aft3 (c1.cut _ _) hp⟩
  ·split at run3
   ·rename_i hz
    exact .inr (.inr ⟨_, r4, hz, Av g3.s run3 aft3 rfl⟩)
   ·cases run3
  ·cases run3
 ·cases h
end
def CallD (K : PySem.W.Frag) (r : List V -> Hp -> VK -> Prop) (f : List D -> M D) : Prop := ∀ (mg : Str -> Option Value) (E : XK) (α : List Addr) (H : Hp) (Z Z' : List O) (ds : List D) (xs : List V) (q : Except Ex D) (Q : VK),
 RepS K α H Z -> Bh K α H ds xs -> f ds Z = some (q, Z') -> Aft (Rep K) K mg E α H q Z' Q -> r xs H Q
def GZ (v : Value) (f : List D -> M D) : Prop := ∀ X : Cx, Here X -> ∃ r, CallR X v r /\ CallD X.K r f
def Bare (Kn : Kno) (x : Str) : Prop := ∀ P w K mg base, Kn P w K mg base -> mg x = none
section
variable {Kn : Kno} {k : Nat}
theorem called {K : PySem.W.Frag} {mg : Str -> Option Value} {W : WX} {ra : Env -> M (List D)} {f : List D -> M D} {r : List V -> Hp -> VK -> Prop} (ho : CallD K r f) : ∀ σ H Q, rdE K mg W (fun Y => M.bnd (ra Y) f) σ H Q -> tCB r (rdA K mg W ra) σ H Q := by
 rintro σ H Q ⟨α, Y, Z, q, Z', g, run, aft⟩
 refine Bp g run aft fun d v α1 H1 Z1 g1 k1 r1 run1 aft1 => ?_
 exact ho mg _ α1 H1 Z1 Z' d v q Q g1.s r1 run1 aft1
def cB (x : Str) (f : List D -> M D) (a : CA) : CE := ⟨fun Y => M.bnd (a.run Y) f, fun I e => match e with
 | .Call (.Name y _) (e1 :: es) [] _ => decide (y = x) && (glo I.sc y && ((e1 :: es).all noStar && a.chk I (e1 :: es)))
 | _ => false⟩
theorem g_B {x : Str} {id : String} {f : List D -> M D} {a : CA} (ho : GZ (.builtin id) f) (hb : Bare Kn x) (hv : bootBuiltins x = some (.builtin id)) (hn : x ≠ "__name__") (hd : (x == ("__debug__" : Str)) = false) (ha : GA Kn k a) : GE Kn k (cB x f a) := by
 intro X W cb bs e h
 dsimp only [cB] at h
 split at h
 ·simp only [and_eq_true, decide_eq_true_eq, glo, all_cons] at h
  obtain ⟨h1, h2, ⟨h3, h4⟩, h5⟩ := h
  subst h1
  obtain ⟨r, c1, c2⟩ := ho X bs.here
  exact PE.imp (pe_callB c1 h2 (hb _ _ _ _ _ bs.kn) hv (ha X W cb bs _ h5) hn hd (Bq h3) (star_any h4)) (called c2)
 ·cases h
theorem g_Ty {x : Str} {T : String} {f : List D -> M D} {a : CA} (ho : GZ (.type T) f) (hb : Bare Kn x) (hv : bootBuiltins x = some (.type T)) (hn : x ≠ "__name__") (hd : (x == ("__debug__" : Str)) = false) (ha : GA Kn k a) : GE Kn k (cB x f a) := by
 intro X W cb bs e h
 dsimp only [cB] at h
 split at h
 ·simp only [and_eq_true, decide_eq_true_eq, glo, all_cons] at h
  obtain ⟨h1, h2, ⟨h3, h4⟩, h5⟩ := h
  subst h1
  obtain ⟨r, c1, c2⟩ := ho X bs.here
  exact PE.imp (pe_callTy c1 h2 (hb _ _ _ _ _ bs.kn) hv (ha X W cb bs _ h5) hn hd (Bq h3) (star_any h4)) (called c2)
 ·cases h
end
def lenD : List D -> M D
 | [.tup ds] => M.ret (.int ds.length)
 | [.fro ds] => M.ret (.int ds.length)
 | [.ref l] => M.bnd (M.lst l) fun ds => M.ret (.int ds.length)
 | [.str z] => if z.length <= sizeLine then M.ret (.int z.length) else M.stop
 | _ => M.stop
theorem ok_len : GZ (.builtin "len") lenD := by
 intro X _
 refine ⟨_, CallR.or call_len_seq call_len_str, ?_⟩
 intro mg E α H Z Z' ds xs q Q s r run aft
 unfold lenD at run
 split at run
 ·obtain ⟨v, vr, e, r1, r2⟩ := r
  cases (show vr = [] from r2)
  obtain ⟨p, vs, e1, t, w⟩ := r1
  subst e e1
  exact .inl ⟨p, vs, rfl, .inr t, by rw [w.len]; exact Av s run aft rfl⟩
 ·obtain ⟨v, vr, e, r1, r2⟩ := r
  cases (show vr = [] from r2)
  obtain ⟨p, vs, e1, t, w⟩ := r1
  subst e e1
  exact .inl ⟨p, vs, rfl, .inl t.sq, by rw [w.len]; exact Av s run aft rfl⟩
 ·obtain ⟨v, vr, e, r1, r2⟩ := r
  cases (show vr = [] from r2)
  subst e
  obtain ⟨xs, h1, run⟩ := Ec run
  obtain ⟨p1, v1, e1, a1, b1, c1⟩ := Dm s r1 h1
  subst e1
  exact .inl ⟨p1, v1, rfl, .inl (SqL.of b1), by rw [c1.len]; exact Av s run aft rfl⟩
 ·split at run
  ·rename_i hz
   obtain ⟨v, vr, e, r1, r2⟩ := r
   cases (show vr = [] from r2)
   subst e
   cases (show v = .str _ from r1)
   exact .inr ⟨_, rfl, hz, Av s run aft rfl⟩
  ·cases run
 ·cases run
def absD : List D -> M D
 | [.int i] => M.ret (.int (if i < 0 then -i else i))
 | _ => M.stop
theorem ok_abs : GZ (.builtin "abs") absD := by
 intro X _
 refine ⟨_, call_abs, ?_⟩
 intro mg E α H Z Z' ds xs q Q s r run aft
 unfold absD at run
 split at run
 ·obtain ⟨v, vr, e, r1, r2⟩ := r
  cases (show vr = [] from r2)
  cases (show v = .int _ from r1)
  exact ⟨_, e, Av s run aft rfl⟩
 ·cases run
def Sy : List D -> M D
 | [.tup ds] => M.new (.lst ds)
 | [.fro ds] => M.new (.lst ds)
 | [.ref l] => M.bnd (M.lst l) fun ds => M.new (.lst ds)
 | _ => M.stop
def tupleD : List D -> M D
 | [.tup ds] => M.ret (.tup ds)
 | [.fro ds] => M.ret (.tup ds)
 | [.ref l] => M.bnd (M.lst l) fun ds => M.ret (.tup ds)
 | _ => M.stop
theorem ok_tuple : GZ (.type "tuple") tupleD := by
 intro X _
 refine ⟨_, call_tuple_of, ?_⟩
 intro mg E α H Z Z' ds xs q Q s r run aft
 unfold tupleD at run
 split at run
 ·obtain ⟨v, vr, e, r1, r2⟩ := r
  cases (show vr = [] from r2)
  obtain ⟨p, vs, e1, t, w⟩ := r1
  subst e e1
  exact ⟨p, vs, rfl, .inr ⟨t, Av s run aft ⟨p, vs, rfl, t, w⟩⟩⟩
 ·obtain ⟨v, vr, e, r1, r2⟩ := r
  cases (show vr = [] from r2)
  obtain ⟨p, vs, e1, t, w⟩ := r1
  subst e e1
  exact ⟨p, vs, rfl, .inl ⟨t.sq, fun l hl => Q9 s run aft w hl⟩⟩
 ·obtain ⟨v, vr, e, r1, r2⟩ := r
  cases (show vr = [] from r2)
  subst e
  obtain ⟨xs, h1, run⟩ := Ec run
  obtain ⟨p1, v1, e1, a1, b1, c1⟩ := Dm s r1 h1
  subst e1
  exact ⟨p1, v1, rfl, .inl ⟨SqL.of b1, fun l hl => Q9 s run aft c1 hl⟩⟩
 ·cases run
def JV (a : PyData) : Bool := a.showable && (decide (a.shown.length <= sizeLine) && decide (a.depth <= 60))
def UT (d : D) : M D := fun Z => match see Z 62 d with
 | some a => if JV a = true then some (.ok (.str a.shown), Z) else none
 | none => none
def reprD : List D -> M D
 | [d] => UT d
 | _ => M.stop
def rRepr (X : Cx) : List V -> Hp -> VK -> Prop := fun xs H Q => ∃ α Z d x a, xs = [x] /\ RepS X.K α H Z /\ Rep X.K α H d x /\ see Z 62 d = some a /\ JV a = true /\ Q (.str a.shown) H
theorem Zq5 {X : Cx} (h : Here X) : CallR X (.builtin "repr") (rRepr X) := by
 intro pins s σ H xs us Q I r h'
 obtain ⟨α, Z, d, x, a, rfl, sS, rd, e, ok, q⟩ := h'
 obtain ⟨u, rfl, r1⟩ := vals1 r
 obtain ⟨as, q1, n1⟩ := Eo I h.sys sS 62 d a x u e rd r1
 unfold JV at ok
 simp only [and_eq_true, decide_eq_true_eq] at ok
 obtain ⟨k1, k2, k3⟩ := ok
 have fin : ∀ h' (u' : Tok) tk, (∀ b o, s.heap.get? b = some o -> h'.get? b = some o) -> EP X pins σ Q (.str a.shown u') { s with heap := h', toks := tk } := fun h' u' tk kk => ⟨.str a.shown, H, I.kept (t' := tk) kk, ⟨u', rfl⟩, q⟩
 have hun := h.room.units
 have hs0 : ∀ b o, s.heap.get? b = some o -> s.heap.get? b = some o := fun _ _ z => z
 cases u with
 | ref p => exact repr_of_reads' q1 k1 (fun _ => n1) h.grd ⋯ hs0 fin k2
 | none => cases q1; exact PySem.P.repr_of_none (fin s.heap _ _ hs0)
 | bool b => cases q1; exact PySem.P.repr_of_bool (fin s.heap _ _ hs0)
 | int i t => cases q1; exact PySem.P.repr_of_int (by simpa [PyData.showable] using k1) (fin s.heap _ _ hs0)
 | str y t => cases q1; exact PySem.P.repr_of_str (fin s.heap _ _ hs0) k2
 | _ => cases q1
theorem ok_repr : GZ (.builtin "repr") reprD := by
 intro X hx
 refine ⟨_, Zq5 hx, ?_⟩
 intro mg E α H Z Z' ds xs q Q s r run aft
 unfold reprD at run
 split at run
 ·rename_i d
  obtain ⟨v, vr, e, r1, r2⟩ := r
  cases (show vr = [] from r2)
  unfold UT at run
  cases e1 : see Z 62 d with
  | none => rw [e1] at run; cases run
  | some a =>
   rw [e1] at run
   dsimp only at run
   split at run
   ·rename_i ho
    exact ⟨α, Z, d, v, a, e, s, r1, e1, ho, Av s run aft rfl⟩
   ·cases run
 ·cases run
end Mi
namespace Mi
open PySem L2 PyProof.Rows
variable [Tb]
def Knw (Kn : Kno) (x : Str) (ps : List Str) (m : List D -> M D) (k : Nat) : Prop := ∀ P w K mg base, Kn P w K mg base ->
 ∃ f fd, FnG P w K mg base k f fd ps (Tv K mg m) /\ mg x = some (.ref f) /\ PySem.W.keepIn K (.ref f) = true /\ Binds K fd ps []
theorem pe_callG {X : Cx} {W : WX} {k : Nat} {f : Addr} {fd : FuncData} {ps : List Str} {sp : Sp} {x : Str} {p pos : Pos} {e : Expr} {es : List Expr} {t : TA} (F : FnG X.prog X.w X.K X.mg X.base k f fd ps sp) (hr : RoomB k X.A) (hgd : X.A.guards = some [])
  (hg : Gl X x) (hm : X.mg x = some (.ref f)) (hk : PySem.W.keepIn X.K (.ref f) = true) (hb : Binds X.K fd ps []) (tk : Takes X W) (ha : PA X (e :: es) t) (hd : (x == ("__debug__" : Str)) = false) (h1 : noStar e = true) (h2 : es.all noStar = true) :
  PE X (.Call (.Name x p) (e :: es) [] pos) (fun σ H Q => t σ H fun vs H1 => sp vs H1 Q fun c d H' => W c d σ H') :=
 ⟨fun pins s σ H Q I h => wpAny_Call_Name_kw (ld_glob I hg hm (PySem.W.callWith_K (h₀ := X.base) I.ok.mod.kin hk (thn (ha.run pos pins s σ H _ I h) fun us s1 z =>
  match z with
  | ⟨vs, H1, I1, r, q⟩ => ⟨I1.kIn, runG F hr hgd hb tk I1 r q⟩) (Bq h1) (star_any h2)) hd)⟩
section
variable {Kn : Kno} {k : Nat}
def Am (x : Str) (m : List D -> M D) (a : CA) : CE := ⟨fun Y => M.bnd (a.run Y) m, fun I e => match e with
 | .Call (.Name y _) (e1 :: es) [] _ => decide (y = x) && (glo I.sc y && (unmarked y && ((e1 :: es).all noStar && a.chk I (e1 :: es))))
 | _ => false⟩
theorem Ao {x : Str} {ps : List Str} {m : List D -> M D} {a : CA} (hm : Knw Kn x ps m k) (ha : GA Kn k a) : GE Kn k (Am x m a) := by
 intro X W cb bs e h
 dsimp only [Am] at h
 split at h
 ·rename_i y p e1 es pos
  simp only [and_eq_true, decide_eq_true_eq, glo, all_cons] at h
  obtain ⟨h1, h2, h3, ⟨h4, h4'⟩, h5⟩ := h
  subst h1
  obtain ⟨f, fd, F, m1, m2, m3⟩ := hm _ _ _ _ _ bs.kn
  refine PE.imp (pe_callG F bs.room bs.grd h2 m1 m2 m3 bs.tk (ha X W cb bs _ h5) (KJ h3) h4 h4') ?_
  rintro σ H Q ⟨α, Y, Z, q, Z', g, run, aft⟩
  refine Bp g run aft fun d v α1 H1 Z1 g1 k1 w1 run1 aft1 => ?_
  exact ⟨α1, Z1, d, q, Z', g1.s, w1, run1, aft1⟩
 ·cases h
end
end Mi
namespace Mi
open PySem L2 PyProof.Rows
variable [Tb]
inductive SR where
 | nx (Y : Env) | rt (d : D) | bk (Y : Env) | ct (Y : Env) | er (x : Ex) (Y : Env)
abbrev Ms := List O -> Option (SR × List O)
def Ms.of {a : Type} (m : M a) (Y : Env) (f : a -> Ms) : Ms := fun Z => match m Z with
 | none => none
 | some (.error x, Z1) => some (.er x Y, Z1)
 | some (.ok d, Z1) => f d Z1
def AftS (K : PySem.W.Frag) (mg : Str -> Option Value) (W : WX) (α : List Addr) (H : Hp) (r : SR) (Z' : List O) (Dn : Ends) : Prop := match r with
 | .nx Y => ∀ α' σ' H', Ext α H α' H' -> RepS K α' H' Z' -> RepE K α' H' Y σ' -> Dn.nx σ' H'
 | .bk Y => ∀ α' σ' H', Ext α H α' H' -> RepS K α' H' Z' -> RepE K α' H' Y σ' -> Dn.bk σ' H'
 | .ct Y => ∀ α' σ' H', Ext α H α' H' -> RepS K α' H' Z' -> RepE K α' H' Y σ' -> Dn.ct σ' H'
 | .rt d => ∀ α' v H', Ext α H α' H' -> RepS K α' H' Z' -> Rep K α' H' d v -> Dn.rt v H'
 | .er x Y => ∀ α' c dd σ' H', Ext α H α' H' -> RepS K α' H' Z' -> RepE K α' H' Y σ' -> RepX K mg α' H' x c dd -> W c dd σ' H'
theorem AftS.up {K : PySem.W.Frag} {mg : Str -> Option Value} {W : WX} {α α1 : List Addr} {H H1 : Hp} {r : SR} {Z' : List O} {Dn : Ends} (h : AftS K mg W α H r Z' Dn) (k : Ext α H α1 H1) : AftS K mg W α1 H1 r Z' Dn := by
 cases r with
 | nx Y => exact fun α' σ' H' k' => h α' σ' H' (k.trans k')
 | bk Y => exact fun α' σ' H' k' => h α' σ' H' (k.trans k')
 | ct Y => exact fun α' σ' H' k' => h α' σ' H' (k.trans k')
 | rt d => exact fun α' v H' k' => h α' v H' (k.trans k')
 | er x Y => exact fun α' c dd σ' H' k' => h α' c dd σ' H' (k.trans k')
def rdS (K : PySem.W.Frag) (mg : Str -> Option Value) (W : WX) (m : Env -> Ms) : TS := fun Dn σ H => ∃ α Y Z r Z', Cfg K α H Y σ Z /\ m Y Z = some (r, Z') /\ AftS K mg W α H r Z' Dn
section
variable {c e : Type} {R1 : List Addr -> Hp -> c -> e -> Prop} {K : PySem.W.Frag} {mg : Str -> Option Value} {W : WX} {α : List Addr} {H : Hp} {Y : Env} {σ : L2.St} {Z Z' : List O} {r : SR} {Dn : Ends} {Q1 : e -> Hp -> Prop}
theorem rd_of {m1 : Env -> M c} {f : c -> Ms} (g : Cfg K α H Y σ Z) (run : Ms.of (m1 Y) Y f Z = some (r, Z')) (aft : AftS K mg W α H r Z' Dn)
  (k : ∀ d v α1 H1 Z1, Cfg K α1 H1 Y σ Z1 -> Ext α H α1 H1 -> R1 α1 H1 d v -> f d Z1 = some (r, Z') -> AftS K mg W α1 H1 r Z' Dn -> Q1 v H1) : rd R1 K mg W m1 σ H Q1 := by
 unfold Ms.of at run
 cases h : m1 Y Z with
 | none => rw [h] at run; cases run
 | some p =>
  obtain ⟨r1, Z1⟩ := p
  rw [h] at run
  cases r1 with
  | error x =>
   cases run
   exact ⟨α, Y, Z, .error x, _, g, h, fun α' c dd H' k' s' x' => aft α' c dd σ H' k' s' (g.e.up k') x'⟩
  | ok d =>
   refine ⟨α, Y, Z, .ok d, Z1, g, h, fun α1 v H1 k1 s1 r1 => ?_⟩
   exact k d v α1 H1 Z1 ⟨s1, g.e.up k1⟩ k1 r1 run (aft.up k1)
theorem Vb {Y' : Env} {σ' : L2.St} (s : RepS K α H Z) (run : some (SR.nx Y', Z) = some (r, Z')) (aft : AftS K mg W α H r Z' Dn) (e : RepE K α H Y' σ') : Dn.nx σ' H := by
 cases run
 exact aft α σ' H (Ext.refl α H) s e
end
structure CS where
 run : Env -> Ms
 chk : Inf -> Stmt -> Bool
structure CB where
 run : Env -> Ms
 chk : Inf -> List Stmt -> Bool
structure Own (X : Cx) : Prop where
 po : PassesOwn (model X.prog X.w) X.A X.env X.xe
 stk : X.stack = X.env :: X.outer
 frm : X.env.frame = some X.env.locals
def GS (Kn : Kno) (k : Nat) (c : CS) : Prop := ∀ X W b, Bas Kn k b X W -> Own X -> ∀ e, c.chk ⟨X.N, X.env.scope, b⟩ e = true -> PS X e (rdS X.K X.mg W c.run)
def GB (Kn : Kno) (k : Nat) (c : CB) : Prop := ∀ X W b, Bas Kn k b X W -> Own X -> ∀ e, c.chk ⟨X.N, X.env.scope, b⟩ e = true -> PSs X e (rdS X.K X.mg W c.run)
structure CG where
 run : D -> Env -> List O -> Option (Env × List O)
 chk : Inf -> Expr -> Bool
def rdG (K : PySem.W.Frag) (m : D -> Env -> List O -> Option (Env × List O)) : TG := fun v σ H Q => ∃ α Y Z d Y' Z', Cfg K α H Y σ Z /\ Rep K α H d v /\ m d Y Z = some (Y', Z') /\ ∀ α' σ' H', Ext α H α' H' -> RepS K α' H' Z' -> RepE K α' H' Y' σ' -> Q σ' H'
def GG (Kn : Kno) (k : Nat) (c : CG) : Prop := ∀ X W b, Bas Kn k b X W -> ∀ e, c.chk ⟨X.N, X.env.scope, b⟩ e = true -> PG X e (rdG X.K c.run)
theorem PG.imp {X : Cx} {e : Expr} {t t' : TG} (h : PG X e t) (i : ∀ v σ H Q, t' v σ H Q -> t v σ H Q) : PG X e t' := ⟨fun pins s σ H v u Q I r q => h.run pins s σ H v u Q I r (i v σ H Q q)⟩
theorem PGs.imp {X : Cx} {e : List Expr} {t t' : TGs} (h : PGs X e t) (i : ∀ v σ H Q, t' v σ H Q -> t v σ H Q) : PGs X e t' := ⟨fun pins s σ H v u Q I r q => h.run pins s σ H v u Q I r (i v σ H Q q)⟩
structure CGs where
 run : List D -> Env -> List O -> Option (Env × List O)
 chk : Inf -> List Expr -> Bool
def rdGs (K : PySem.W.Frag) (m : List D -> Env -> List O -> Option (Env × List O)) : TGs := fun vs σ H Q => ∃ α Y Z ds Y' Z', Cfg K α H Y σ Z /\ Bh K α H ds vs /\ m ds Y Z = some (Y', Z') /\ ∀ α' σ' H', Ext α H α' H' -> RepS K α' H' Z' -> RepE K α' H' Y' σ' -> Q σ' H'
def GGs (Kn : Kno) (k : Nat) (c : CGs) : Prop := ∀ X W b, Bas Kn k b X W -> ∀ e, c.chk ⟨X.N, X.env.scope, b⟩ e = true -> PGs X e (rdGs X.K c.run)
section
variable {Kn : Kno} {k : Nat}
def place (I : Inf) (i : Nat) (x : Str) : Bool := decide (I.N[i]? = some x) && (decide (I.sc.names.lookup x = some .local) || (I.cells x && decide (I.sc.names.lookup x = some .cell)))
theorem RP {I : Inf} {i : Nat} {x : Str} (h : place I i x = true) : I.N[i]? = some x /\ Loc I.sc x /\ (I.sc.names.lookup x = some .local \/ (I.cells x = true)) := by
 unfold place at h
 simp only [and_eq_true, or_eq_true, decide_eq_true_eq] at h
 obtain ⟨h1, h2⟩ := h
 rcases h2 with h2 | ⟨h2, h3⟩
 ·exact ⟨h1, .inl h2, .inl h2⟩
 ·exact ⟨h1, .inr h3, .inr h2⟩
def gN (i : Nat) : CG := ⟨fun d Y Z => some (Y.set i (some d), Z), fun I e => match e with
 | .Name x _ => place I i x
 | _ => false⟩
theorem Cj {i : Nat} : GG Kn k (gN i) := by
 intro X W cb b e h
 dsimp only [gN] at h
 split at h
 ·rename_i x pos
  obtain ⟨h1, h2, h3⟩ := RP h
  have hf : X.fn x = true \/ X.env.scope.names.lookup x = some .local := h3.elim Or.inr fun z => Or.inl (b.cells x z)
  refine PG.imp (pg_name b.nd h1 h2 hf) ?_
  rintro v σ H Q ⟨α, Y, Z, d, Y', Z', g, r, run, q⟩
  cases run
  exact q α _ H (Ext.refl α H) g.s (g.e.set i r)
 ·cases h
def gsNil : CGs := ⟨fun ds Y Z => match ds with
 | [] => some (Y, Z)
 | _ => none, fun _ es => match es with
 | [] => true
 | _ => false⟩
def Ak (a : CG) (r : CGs) : CGs := ⟨fun ds Y Z => match ds with
 | d :: dr => match a.run d Y Z with
  | some (Y1, Z1) => r.run dr Y1 Z1
  | none => none
 | [] => none, fun I es => match es with
 | e :: er => noStar e && (a.chk I e && r.chk I er)
 | [] => false⟩
theorem Jl {e : Expr} {es : List Expr} {env : PySem.Env} (h : noStar e = true) : assignEach (e :: es) env = (false, assign e env) :: assignEach es env := by
 cases e <;> first | rfl | cases h
theorem Dq : GGs Kn k gsNil := by
 intro X W cb b e h
 dsimp only [gsNil] at h
 split at h
 ·refine PGs.imp pgs_nil ?_
  rintro v σ H Q ⟨α, Y, Z, ds, Y', Z', g, r, run, q⟩
  cases ds with
  | nil =>
   cases run
   exact ⟨r, q α σ H (Ext.refl α H) g.s g.e⟩
  | cons _ _ => cases run
 ·cases h
theorem Ar {a : CG} {r : CGs} (ha : GG Kn k a) (hr : GGs Kn k r) : GGs Kn k (Ak a r) := by
 intro X W cb b e h
 dsimp only [Ak] at h
 split at h
 ·simp only [and_eq_true] at h
  obtain ⟨h1, h2, h3⟩ := h
  refine PGs.imp (pgs_cons (ha X W cb b _ h2) (hr X W cb b _ h3) (by rw [Jl h1]; rfl)) ?_
  rintro vs σ H Q ⟨α, Y, Z, ds, Y', Z', g, w, run, q⟩
  cases ds with
  | nil => cases run
  | cons d dr =>
   obtain ⟨v, vr, e, w1, w2⟩ := w
   subst e
   dsimp only [Ak] at run
   cases e1 : a.run d Y Z with
   | none => rw [e1] at run; cases run
   | some p =>
    obtain ⟨Y1, Z1⟩ := p
    rw [e1] at run
    refine ⟨v, vr, rfl, α, Y, Z, d, Y1, Z1, g, w1, e1, fun α1 σ1 H1 k1 s1 r1 => ?_⟩
    exact ⟨α1, Y1, Z1, dr, Y', Z', ⟨s1, r1⟩, w2.up k1, run, fun α' σ' H' k' => q α' σ' H' (k1.trans k')⟩
 ·cases h
theorem Ri {env : PySem.Env} : ∀ {es : List Expr}, es.all noStar = true -> (assignEach es env).length = es.length /\ (assignEach es env).findIdx? (·.1) = none
 | [], _ => ⟨rfl, rfl⟩
 | e :: es, h => by
  rw [all_cons, and_eq_true] at h
  rw [Jl h.1]
  obtain ⟨h1, h2⟩ := Ri (env := env) h.2
  refine ⟨by rw [length_cons, length_cons, h1], ?_⟩
  rw [List.findIdx?_cons]
  simp [h2]
def gT (r : CGs) (n : Nat) : CG := ⟨fun d Y Z => match d with
 | .tup ds => if ds.length = n then r.run ds Y Z else none
 | _ => none, fun I e => match e with
 | .Tuple es _ _ => decide (es.length = n) && (es.all noStar && r.chk I es)
 | _ => false⟩
theorem Xn {r : CGs} {n : Nat} (hr : GGs Kn k r) : GG Kn k (gT r n) := by
 intro X W cb b e h
 dsimp only [gT] at h
 split at h
 ·simp only [and_eq_true, decide_eq_true_eq] at h
  obtain ⟨h1, h2, h3⟩ := h
  obtain ⟨l1, l2⟩ := Ri (env := X.env) h2
  refine PG.imp (pg_tup (n := n) b.calm (hr X W cb b _ h3) (l1.trans h1) l2) ?_
  rintro v σ H Q ⟨α, Y, Z, d, Y', Z', g, w, run, q⟩
  cases d with
  | tup ds =>
   dsimp only [gT] at run
   split at run
   ·rename_i hl
    obtain ⟨p, vs, e, t, w2⟩ := w
    exact ⟨p, vs, e, t, w2.len.trans hl, α, Y, Z, ds, Y', Z', g, w2, run, q⟩
   ·cases run
  | _ => cases run
 ·cases h
def XC (d : D) (o i : D) (Z : List O) : Option (List O) := match o, i with
 | .ref l, .int j => match Z[l]? with
  | some (.lst ds) => match ixN ds.length j with
   | some n => some (Z.set l (.lst (ds.set n d)))
   | none => none
  | _ => none
 | .ref l, .str x => match Z[l]? with
  | some (.dct kvs) => if kvs.length < sizeLine then some (Z.set l (.dct (G7 kvs (.inr x) d))) else none
  | _ => none
 | _, _ => none
theorem PSet.or {X : Cx} {t t' : TSet} (h : PSet X t) (h' : PSet X t') : PSet X (fun o i v H Q => t o i v H Q \/ t' o i v H Q) := by
 intro pins s σ H o i v ov iv u Q I ro ri rv q
 rcases q with q | q
 ·exact h pins s σ H o i v ov iv u Q I ro ri rv q
 ·exact h' pins s σ H o i v ov iv u Q I ro ri rv q
def rSetDK : TSet := fun o i v H Q => ∃ a H', o = .ref a /\ DPut H a i v H' /\ Q H'
theorem Yq {X : Cx} (hu : X.A.units + 1 < cLine) : PSet X rSetDK := by
 intro pins s σ H o i v ov iv u Q I ro ri rv h
 obtain ⟨a, H', eo, g, q⟩ := h
 subst eo
 cases (show ov = Value.ref a from ro)
 exact d_setItem hu I g ri rv fun s' I' => ⟨H', I', q⟩
def gS (a b : CE) : CG := ⟨fun d Y Z => match M.bnd (a.run Y) (fun o => M.bnd (b.run Y) fun i => M.ret (o, i)) Z with
 | some (.ok (o, i), Z1) => (XC d o i Z1).map fun Z2 => (Y, Z2)
 | _ => none, fun I e => match e with
 | .Subscript o i _ => Qz i && (a.chk I o && b.chk I i)
 | _ => false⟩
theorem asg_sub {o i : Expr} {pos : Pos} {env : PySem.Env} (h : Qz i = true) : ∀ v, assign (.Subscript o i pos) env v = (do
   let ov <- holding [v] (eval o env)
   let iv <- holding [v, ov] (eval i env)
   standAt pos
   holding [v, ov, iv] (setItem ov iv v)
   release [v, ov, iv] []) := by
 intro v
 cases i <;> first | rfl | cases h
theorem g_gS {a b : CE} (ha : GE Kn k a) (hb : GE Kn k b) : GG Kn k (gS a b) := by
 intro X W cb bs e h
 dsimp only [gS] at h
 split at h
 ·simp only [and_eq_true] at h
  obtain ⟨h1, h2, h3⟩ := h
  have tk0 : Bas Kn k cb X fun _ _ _ _ => False := ⟨bs.kn, bs.calm, bs.nd, bs.room, bs.grd, takes0, bs.sys, bs.top, bs.cells, bs.lam⟩
  refine PG.imp (pg_sub (ha X _ cb tk0 _ h2) (hb X _ cb tk0 _ h3) (PSet.or set_list (Yq (hu0 bs.here))) (asg_sub h1)) ?_
  rintro v σ H Q ⟨α, Y, Z, d, Y', Z', g, w, run, q⟩
  dsimp only [gS] at run
  cases e1 : M.bnd (a.run Y) (fun o => M.bnd (b.run Y) fun i => M.ret (o, i)) Z with
  | none => rw [e1] at run; cases run
  | some p =>
   obtain ⟨r1, Z1⟩ := p
   rw [e1] at run
   cases r1 with
   | error x => cases run
   | ok oi =>
    obtain ⟨o, i⟩ := oi
    dsimp only at run
    show rd (Rep X.K) X.K X.mg (fun _ _ _ _ => False) a.run σ H fun o H1 => rd (Rep X.K) X.K X.mg (fun _ _ _ _ => False) b.run σ H1 fun i H2 => (rSetL o i v H2 fun H3 => Q σ H3) \/ rSetDK o i v H2 fun H3 => Q σ H3
    refine Bp (R := fun _ _ (x : D × D) (y : Unit) => True) (r := .ok (o, i)) (Z' := Z1) (Q := fun _ _ => True) g e1 (fun _ _ _ _ _ _ => True.intro) fun o1 ov α1 H1 Z2 g1 k1 w1 run1 _ => ?_
    refine Bp (R := fun _ _ (x : D × D) (y : Unit) => True) (r := .ok (o, i)) (Z' := Z1) (Q := fun _ _ => True) g1 run1 (fun _ _ _ _ _ _ => True.intro) fun i1 iv α2 H2 Z3 g2 k2 w2 run2 _ => ?_
    cases run2
    have w1' := w1.up k2
    cases o with
    | ref l =>
     cases i with
     | int j =>
      dsimp only [XC] at run
      cases e2 : Z1[l]? with
      | none => rw [e2] at run; cases run
      | some ob =>
       rw [e2] at run
       cases ob with
       | dct _ => cases run
       | ins _ _ => cases run
       | fzd _ => cases run
       | lst ds =>
        dsimp only at run
        cases e3 : ixN ds.length j with
        | none => rw [e3] at run; cases run
        | some n =>
         rw [e3] at run
         cases run
         obtain ⟨p, vs, ep, ea, eh, er⟩ := Dm g2.s w1' e2
         refine .inl ⟨p, vs, j, n, ep, w2, eh, by rw [er.len]; exact e3, ?_⟩
         have x3 : Ext α2 H2 α2 (upd H2 p (.lst (vs.set n v))) := Ext.put ea eh fun z => z
         have wv := w.up (k1.trans k2)
         exact q α2 σ _ ((k1.trans k2).trans x3) (g2.s.put ea ⟨_, upd_same, (er.set n wv).up x3⟩ x3) (g2.e.up x3)
     | str z =>
      dsimp only [XC] at run
      cases e2 : Z1[l]? with
      | none => rw [e2] at run; cases run
      | some ob =>
       rw [e2] at run
       cases ob with
       | lst _ => cases run
       | ins _ _ => cases run
       | fzd _ => cases run
       | dct kvs =>
        dsimp only at run
        by_cases hz : kvs.length < sizeLine
        ·rw [if_pos hz] at run
         cases run
         obtain ⟨p, ws, ep, ea, eh, er⟩ := Zq0 g2.s w1' e2
         have wv := w.up (k1.trans k2)
         refine .inr ⟨p, upd H2 p (.dK (putK ws (.inr z) v)), ep, .inl ⟨ws, .inr z, eh, w2, by rw [er.len]; exact hz, rfl⟩, ?_⟩
         have x3 : Ext α2 H2 α2 (upd H2 p (.dK (putK ws (.inr z) v))) := Ext.put ea eh fun z => z
         exact q α2 σ _ ((k1.trans k2).trans x3) (g2.s.put ea ⟨_, upd_same, (er.put (.inr z) wv).up x3⟩ x3) (g2.e.up x3)
        ·rw [if_neg hz] at run
         cases run
     | _ => cases run
    | _ => cases run
 ·cases h
def bNil : CB := ⟨fun Y Z => some (.nx Y, Z), fun _ st => match st with
 | [] => true
 | _ => false⟩
def Af (s : CS) (r : CB) : CB := ⟨fun Y Z => match s.run Y Z with
 | some (.nx Y1, Z1) => r.run Y1 Z1
 | x => x, fun I st => match st with
 | s1 :: sr => s.chk I s1 && r.chk I sr
 | [] => false⟩
theorem Aq : GB Kn k bNil := by
 intro X W cb bs po e h
 dsimp only [bNil] at h
 split at h
 ·refine PSs.imp pss_nil ?_
  rintro σ H D ⟨α, Y, Z, r, Z', g, run, aft⟩
  exact Vb g.s run aft g.e
 ·cases h
theorem Ag {s : CS} {r : CB} (hs : GS Kn k s) (hr : GB Kn k r) : GB Kn k (Af s r) := by
 intro X W cb bs po e h
 dsimp only [Af] at h
 split at h
 ·rw [and_eq_true] at h
  refine PSs.imp (pss_cons (hs X W cb bs po _ h.1) (hr X W cb bs po _ h.2)) ?_
  rintro σ H D ⟨α, Y, Z, q, Z', g, run, aft⟩
  dsimp only [Af] at run
  cases e1 : s.run Y Z with
  | none => rw [e1] at run; cases run
  | some p =>
   obtain ⟨r1, Z1⟩ := p
   rw [e1] at run
   cases r1 with
   | nx Y1 => exact ⟨α, Y, Z, .nx Y1, Z1, g, e1, fun α' σ' H' k' s' e' => ⟨α', Y1, Z1, q, Z', ⟨s', e'⟩, run, aft.up k'⟩⟩
   | rt d => cases run; exact ⟨α, Y, Z, _, _, g, e1, aft⟩
   | bk Y1 => cases run; exact ⟨α, Y, Z, _, _, g, e1, aft⟩
   | ct Y1 => cases run; exact ⟨α, Y, Z, _, _, g, e1, aft⟩
   | er x Y1 => cases run; exact ⟨α, Y, Z, _, _, g, e1, aft⟩
 ·cases h
def Vd : Expr -> Bool
 | .ListComp _ _ _ _ => false
 | .SetComp _ _ _ _ => false
 | .DictComp _ _ _ _ _ => false
 | _ => true
theorem Sh {e : Expr} {t : Option Expr} {l : Nat} {env : PySem.Env} (h : Vd e = true) : swapsWith e t l env = pure false := by
 cases e <;> first | rfl | cases h
def CP (a : CE) : CS := ⟨fun Y => Ms.of (a.run Y) Y fun _ Z => some (.nx Y, Z), fun I st => match st with
 | .Expr e _ => Vd e && a.chk I e
 | _ => false⟩
theorem Do {a : CE} (ha : GE Kn k a) : GS Kn k (CP a) := by
 intro X W cb bs po e h
 dsimp only [CP] at h
 split at h
 ·rw [and_eq_true] at h
  refine PS.imp (ps_expr (ha X W cb bs _ h.2) (Sh h.1)) ?_
  rintro σ H D ⟨α, Y, Z, q, Z', g, run, aft⟩
  exact rd_of g run aft fun d v α1 H1 Z1 g1 k1 r1 run1 aft1 => Vb g1.s run1 aft1 g1.e
 ·cases h
def Cr (a : CE) : CS := ⟨fun Y => Ms.of (a.run Y) Y fun d Z => some (.rt d, Z), fun I st => match st with
 | .Return (some e) _ => a.chk I e
 | _ => false⟩
theorem Bj {a : CE} (ha : GE Kn k a) : GS Kn k (Cr a) := by
 intro X W cb bs po e h
 dsimp only [Cr] at h
 split at h
 ·refine PS.imp (ps_ret (ha X W cb bs _ h)) ?_
  rintro σ H D ⟨α, Y, Z, q, Z', g, run, aft⟩
  refine rd_of g run aft fun d v α1 H1 Z1 g1 k1 r1 run1 aft1 => ?_
  cases run1
  exact aft1 α1 v H1 (Ext.refl _ _) g1.s r1
 ·cases h
def sIf (t : CT) (a b : CB) : CS := ⟨fun Y => Ms.of (t.run Y) Y fun c => if c = true then a.run Y else b.run Y, fun I st => match st with
 | .If e x y _ => t.chk I e && (a.chk I x && b.chk I y)
 | _ => false⟩
theorem Je {t : CT} {a b : CB} (ht : GT Kn k t) (ha : GB Kn k a) (hb : GB Kn k b) : GS Kn k (sIf t a b) := by
 intro X W cb bs po e h
 dsimp only [sIf] at h
 split at h
 ·simp only [and_eq_true] at h
  refine PS.imp (ps_if (ht X W cb bs _ h.1) (ha X W cb bs po _ h.2.1) (hb X W cb bs po _ h.2.2)) ?_
  rintro σ H D ⟨α, Y, Z, q, Z', g, run, aft⟩
  refine rd_of g run aft fun d v α1 H1 Z1 g1 k1 r1 run1 aft1 => ?_
  subst r1
  cases d with
  | true =>
   rw [if_pos rfl]
   exact ⟨α1, Y, Z1, q, Z', g1, run1, aft1⟩
  | false =>
   rw [if_neg Bool.false_ne_true]
   exact ⟨α1, Y, Z1, q, Z', g1, run1, aft1⟩
 ·cases h
def noTup : Expr -> Bool
 | .Tuple _ _ _ => false
 | .List _ _ => false
 | _ => true
def Ku (t e : Expr) : Bool := Vd e && (noStar t && (noTup t || noTup e))
theorem T8 {t e : Expr} {env : PySem.Env} (h : Ku t e = true) : swappedStores [t] e env = pure none := by
 unfold Ku at h
 simp only [and_eq_true, or_eq_true] at h
 obtain ⟨_, _, z⟩ := h
 rcases z with z | z
 ·cases t <;> first | rfl | cases z
 ·cases t <;> cases e <;> first | rfl | cases z
def V3 (g : CG) (a : CE) : Env -> Ms := fun Y => Ms.of (a.run Y) Y fun d Z => match g.run d Y Z with
 | some (Y1, Z1) => some (.nx Y1, Z1)
 | none => none
def Bv (g : CG) (a : CE) : CS := ⟨V3 g a, fun I st => match st with
 | .Assign [t] e _ => Ku t e && (g.chk I t && a.chk I e)
 | _ => false⟩
theorem Us {g : CG} {a : CE} {X : Cx} {W : WX} : ∀ σ H Dn, rdS X.K X.mg W (V3 g a) Dn σ H -> tAsg (rdE X.K X.mg W a.run) (rdG X.K g.run) Dn σ H := by
 rintro σ H Dn ⟨α, Y, Z, q, Z', g0, run, aft⟩
 refine rd_of g0 run aft fun d v α1 H1 Z1 g1 k1 r1 run1 aft1 => ?_
 cases e1 : g.run d Y Z1 with
 | none => rw [e1] at run1; cases run1
 | some p =>
  obtain ⟨Y1, Z2⟩ := p
  rw [e1] at run1
  cases run1
  exact ⟨α1, Y, Z1, d, Y1, _, g1, r1, e1, fun α' σ' H' k' s' e' => aft1 α' σ' H' k' s' e'⟩
theorem Bc {g : CG} {a : CE} (hg : GG Kn k g) (ha : GE Kn k a) : GS Kn k (Bv g a) := by
 intro X W cb bs po e h
 dsimp only [Bv] at h
 split at h
 ·rename_i t e pos
  simp only [and_eq_true] at h
  obtain ⟨h1, h2, h3⟩ := h
  have hp : Vd e = true /\ noStar t = true := by
   unfold Ku at h1
   simp only [and_eq_true] at h1
   exact ⟨h1.1, h1.2.1⟩
  exact PS.imp (ps_asg (ha X W cb bs _ h3) (hg X W cb bs _ h2) (Sh hp.1) (T8 h1) (by rw [Jl hp.2]; rfl)) (Us)
 ·cases h
def names2 (I : Inf) (i j : Nat) (x y : Expr) : Bool := match x, y with
 | .Name a p, .Name b q => decide (I.N[i]? = some a) && (decide (I.N[j]? = some b) && (decide (I.sc.names.lookup a = some .local) && (decide (I.sc.names.lookup b = some .local) && (p.line == q.line && !(a == b)))))
 | _, _ => false
def Fe (es : List Expr) : Bool := es.all noStar && (!es.all (foldedForSure 8) && !es.all (constantsAlone 8))
theorem Xf {es : List Expr} (h : es.all noStar = true) : (es.any fun | .Starred .. => true | _ => false) = false := by
 rw [List.any_eq_false]
 intro e he
 have := all_eq_true.mp h e he
 cases e <;> first | exact Bool.false_ne_true | cases this
theorem YX {e : Expr} : (match e with | .Starred .. => true | _ => false) = true -> noStar e = true -> False := by
 cases e <;> first | exact fun z _ => absurd z Bool.false_ne_true | exact fun _ z => absurd z Bool.false_ne_true
theorem Ra {env : PySem.Env} (h : env.scope.kind = .function) : env.blockKind = .function := by
 unfold PySem.Env.blockKind
 rw [h]
 rfl
def Jy (i j : Nat) (a b : CE) : CS := ⟨fun Y => Ms.of (M.bnd (a.run Y) fun x => M.bnd (b.run Y) fun y => M.ret (x, y)) Y fun (p : D × D) Z => some (.nx ((Y.set i (some p.1)).set j (some p.2)), Z), fun I st => match st with
 | .Assign [.Tuple [t1, t2] _ _] (.Tuple [e1, e2] _ _) _ => decide (I.sc.kind = .function) && (!decide (i = j) && (names2 I i j t1 t2 && (Fe [e1, e2] && (a.chk I e1 && b.chk I e2))))
 | _ => false⟩
theorem swap2 {x y : Str} {px py pt pt2 : Pos} {kt k2 : Nat} {e1 e2 : Expr} {env : PySem.Env} (hk : env.scope.kind = .function) (hx : env.scope.names.lookup x = some .local) (hy : env.scope.names.lookup y = some .local)
  (hl : (px.line == py.line) = true) (hne : (x == y) = false) (hf : Fe [e1, e2] = true) :
  swappedStores [.Tuple [.Name x px, .Name y py] kt pt] (.Tuple [e1, e2] k2 pt2) env = pure (some [x, y]) := by
 unfold Fe at hf
 simp only [and_eq_true, not_eq_true'] at hf
 have q1 := Xf hf.1
 have kx : env.kindOf x = some .local := hx
 have ky : env.kindOf y = some .local := hy
 have hl' : px.line = py.line := by simpa using hl
 have hne' : ¬ y = x := fun z => by rw [z] at hne; simp at hne
 have v1 : noStar e1 = true /\ noStar e2 = true := by simpa using hf.1
 unfold swappedStores
 simp [Ra hk, kx, ky, hf.2.1, hf.2.2, hl', hne', List.eraseDups_cons, Expr.pos]
 intro z
 rcases z with z | z
 ·exact (YX z v1.1).elim
 ·exact (YX z v1.2).elim
theorem Jd {i j : Nat} {a b : CE} (ha : GE Kn k a) (hb : GE Kn k b) : GS Kn k (Jy i j a b) := by
 intro X W cb bs po e h
 dsimp only [Jy] at h
 split at h
 ·rename_i t1 t2 k1 p1 e1 e2 k2 p2 pos
  simp only [and_eq_true, decide_eq_true_eq, not_eq_true', decide_eq_false_iff_not] at h
  obtain ⟨hk, hij, hn, hf, h1, h2⟩ := h
  unfold names2 at hn
  split at hn
  ·rename_i x px y py
   simp only [and_eq_true, decide_eq_true_eq, not_eq_true'] at hn
   obtain ⟨n1, n2, n3, n4, n5, n6⟩ := hn
   have hs : [e1, e2].all noStar = true := by
    unfold Fe at hf
    rw [and_eq_true] at hf
    exact hf.1
   simp only [all_cons, List.all_nil, Bool.and_true, and_eq_true] at hs
   refine PS.imp (ps_par bs.calm bs.nd n1 n2 hij n3 n4 (pa_cons (ha X W cb bs _ h1) (pa_cons (hb X W cb bs _ h2) pa_nil (Bq hs.2)) (Bq hs.1)) (swap2 hk n3 n4 n5 n6 hf)) ?_
   rintro σ H Dn ⟨α, Y, Z, q, Z', g, run, aft⟩
   -- the pair's run, part by part
   dsimp only [Jy, Ms.of] at run
   cases e0 : M.bnd (a.run Y) (fun x => M.bnd (b.run Y) fun y => M.ret (x, y)) Z with
   | none => rw [e0] at run; cases run
   | some pr =>
    obtain ⟨r0, Z0⟩ := pr
    rw [e0] at run
    refine Bp (R := fun _ _ (x : D × D) (y : V × V) => True) (Q := fun _ _ => True) (r := r0) (Z' := Z0) g e0 ?_ fun x1 v1 α1 H1 Z1 g1 x1' w1 run1 aft1 => ?_
    ·cases r0 with
     | ok _ => exact fun _ _ _ _ _ _ => True.intro
     | error x =>
      cases run
      exact fun α' c dd H' k' s' x' => aft α' c dd σ H' k' s' (g.e.up k') x'
    ·refine Bp (R := fun _ _ (x : D × D) (y : V × V) => True) (Q := fun _ _ => True) (r := r0) (Z' := Z0) g1 run1 aft1 fun x2 v2 α2 H2 Z2 g2 x2' w2 run2 aft2 => ?_
     cases run2
     cases run
     refine ⟨v1, v2, rfl, ?_⟩
     exact aft α2 _ H2 (x1'.trans x2') g2.s ((g2.e.set i (w1.up x2')).set j w2)
  ·cases hn
 ·cases h
def whl (t : Env -> M Bool) (b : Env -> Ms) : Nat -> Env -> Ms
 | 0, _ => fun _ => none
 | n + 1, Y => Ms.of (t Y) Y fun c => if c = true then (fun Z => match b Y Z with
   | some (.nx Y1, Z1) => whl t b n Y1 Z1
   | some (.ct Y1, Z1) => whl t b n Y1 Z1
   | some (.bk Y1, Z1) => some (.nx Y1, Z1)
   | x => x) else fun Z => some (.nx Y, Z)
def FJ (m : Env -> Nat) (t : CT) (b : CB) : CS := ⟨fun Y Z => whl t.run b.run (m Y) Y Z, fun I st => match st with
 | .While e x [] _ => t.chk I e && b.chk I x
 | _ => false⟩
theorem QW {m : Env -> Nat} {t : CT} {b : CB} (ht : GT Kn k t) (hb : GB Kn k b) : GS Kn k (FJ m t b) := by
 intro X W cb bs po e h
 dsimp only [FJ] at h
 split at h
 ·rw [and_eq_true] at h
  refine PS.imp (ps_while po.po (ht X W cb bs _ h.1) (hb X W cb bs po _ h.2)) ?_
  rintro σ H D ⟨α, Y, Z, q, Z', g, run, aft⟩
  refine ⟨fun n σ' H' => ∃ α' Y' Z1, Cfg X.K α' H' Y' σ' Z1 /\ Ext α H α' H' /\ whl t.run b.run n Y' Z1 = some (q, Z'), ⟨m Y, α, Y, Z, g, Ext.refl _ _, run⟩, ?_⟩
  rintro n σ1 H1 ⟨α1, Y1, Z1, g1, x1, run1⟩
  cases n with
  | zero => cases run1
  | succ n =>
   refine rd_of g1 run1 (aft.up x1) fun d v α2 H2 Z2 g2 x2 r2 run2 aft2 => ?_
   subst r2
   cases d with
   | false =>
    rw [if_neg Bool.false_ne_true]
    exact Vb g2.s run2 aft2 g2.e
   | true =>
    rw [if_pos rfl] at run2 ⊢
    refine ⟨fun σ' H' => ∃ α' Y' Z1, Cfg X.K α' H' Y' σ' Z1 /\ Ext α H α' H' /\ whl t.run b.run n Y' Z1 = some (q, Z'), fun σ' H' z => ⟨n, Nat.lt_succ_self n, z⟩, ?_⟩
    cases e1 : b.run Y1 Z2 with
    | none => rw [e1] at run2; cases run2
    | some p =>
     obtain ⟨r3, Z3⟩ := p
     rw [e1] at run2
     cases r3 with
     | nx Y3 => exact ⟨α2, Y1, Z2, _, _, g2, e1, fun α' σ' H' k' s' e' => ⟨α', Y3, Z3, ⟨s', e'⟩, (x1.trans x2).trans k', run2⟩⟩
     | ct Y3 => exact ⟨α2, Y1, Z2, _, _, g2, e1, fun α' σ' H' k' s' e' => ⟨α', Y3, Z3, ⟨s', e'⟩, (x1.trans x2).trans k', run2⟩⟩
     | bk Y3 => cases run2; exact ⟨α2, Y1, Z2, _, _, g2, e1, aft2⟩
     | rt d => cases run2; exact ⟨α2, Y1, Z2, _, _, g2, e1, aft2⟩
     | er x Y3 => cases run2; exact ⟨α2, Y1, Z2, _, _, g2, e1, aft2⟩
 ·cases h
structure Wk where
 get : Nat -> List O -> Option (Option D)
 fuel : Nat
def JOk (K : PySem.W.Frag) (α0 : List Addr) (H0 : Hp) (w : Wk) (J : It) : Prop := ∀ α H Z i, Ext α0 H0 α H -> RepS K α H Z -> match w.get i Z with
 | some none => J.stop i H
 | some (some d) => J.go i H /\ ∀ x H', J.yld i H x H' -> Ext α H α H' /\ RepS K α H' Z /\ Rep K α H' d x
 | none => True
structure CI where
 run : Env -> M Wk
 chk : Inf -> Expr -> Expr -> Bool
def GI (Kn : Kno) (k : Nat) (c : CI) : Prop := ∀ X W b, Bas Kn k b X W -> ∀ tg e, c.chk ⟨X.N, X.env.scope, b⟩ tg e = true -> PI X tg e (rd (fun α H w J => JOk X.K α H w J) X.K X.mg W c.run)
theorem PI.imp {X : Cx} {tg e : Expr} {t t' : TI} (h : PI X tg e t) (i : ∀ σ H Q, t' σ H Q -> t σ H Q) : PI X tg e t' := ⟨fun pins s σ H Q I q => h.run pins s σ H Q I (i σ H Q q)⟩
def Bw (w : Wk) (g : CG) (b : CB) : Nat -> Nat -> Env -> Ms
 | 0, i, Y => fun Z => match w.get i Z with
  | some none => some (.nx Y, Z)
  | _ => none
 | n + 1, i, Y => fun Z => match w.get i Z with
  | some none => some (.nx Y, Z)
  | some (some d) => match g.run d Y Z with
   | some (Y1, Z1) => match b.run Y1 Z1 with
    | some (.nx Y2, Z2) => Bw w g b n (i + 1) Y2 Z2
    | some (.ct Y2, Z2) => Bw w g b n (i + 1) Y2 Z2
    | some (.bk Y2, Z2) => some (.nx Y2, Z2)
    | x => x
   | none => none
  | none => none
def YZ : Expr -> Bool
 | .Set _ _ _ => false
 | _ => true
theorem Ma {e : Expr} {env : PySem.Env} (h : YZ e = true) : ∀ x, foldedSetIterable e env x = pure x := by
 intro x
 cases e <;> first | rfl | cases h
def Qs (g : CG) (it : CI) (b : CB) : CS := ⟨fun Y => Ms.of (it.run Y) Y fun w => Bw w g b w.fuel 0 Y, fun I st => match st with
 | .For t e x [] _ => YZ e && (it.chk I t e && (g.chk I t && b.chk I x))
 | _ => false⟩
theorem Pq {tc : CG} {it : CI} {b : CB} (hg : GG Kn k tc) (hi : GI Kn k it) (hb : GB Kn k b) : GS Kn k (Qs tc it b) := by
 intro X W cb bs po e h
 dsimp only [Qs] at h
 split at h
 ·simp only [and_eq_true] at h
  obtain ⟨h0, h1, h2, h3⟩ := h
  refine PS.imp (ps_for po.po bs.calm (hi X W cb bs _ _ h1) (hg X W cb bs _ h2) (hb X W cb bs po _ h3) (Ma h0)) ?_
  rintro σ H D ⟨α, Y, Z, q, Z', g, run, aft⟩
  refine rd_of g run aft fun w J α0 H0 Z0 g0 x0 jok run0 aft0 => ?_
  refine ⟨fun i n σ' H' => ∃ α' Y' Z1, Cfg X.K α' H' Y' σ' Z1 /\ Ext α0 H0 α' H' /\ Bw w tc b n i Y' Z1 = some (q, Z'), ⟨w.fuel, α0, Y, Z0, g0, Ext.refl _ _, run0⟩, ?_⟩
  rintro i n σ1 H1 ⟨α1, Y1, Z1, g1, x1, run1⟩
  have j1 := jok α1 H1 Z1 i x1 g1.s
  have stop : w.get i Z1 = some none -> some (SR.nx Y1, Z1) = some (q, Z') -> J.stop i H1 /\ D.nx σ1 H1 := fun e1 z => by
   rw [e1] at j1
   exact ⟨j1, Vb g1.s z (aft0.up x1) g1.e⟩
  cases n with
  | zero =>
   dsimp only [Bw] at run1
   cases e1 : w.get i Z1 with
   | none => rw [e1] at run1; cases run1
   | some o =>
    cases o with
    | none => rw [e1] at run1; exact .inl (stop e1 run1)
    | some d => rw [e1] at run1; cases run1
  | succ n =>
   dsimp only [Bw] at run1
   cases e1 : w.get i Z1 with
   | none => rw [e1] at run1; cases run1
   | some o =>
    cases o with
    | none => rw [e1] at run1; exact .inl (stop e1 run1)
    | some d =>
     rw [e1] at run1 j1
     obtain ⟨jg, jy⟩ := j1
     refine .inr ⟨jg, fun σ' H' => ∃ α' Y' Z1, Cfg X.K α' H' Y' σ' Z1 /\ Ext α0 H0 α' H' /\ Bw w tc b n (i + 1) Y' Z1 = some (q, Z'), fun σ' H' z => ⟨n, Nat.lt_succ_self n, z⟩, fun x H' y => ?_⟩
     obtain ⟨y1, y2, y3⟩ := jy x H' y
     dsimp only at run1
     cases e2 : tc.run d Y1 Z1 with
     | none => rw [e2] at run1; cases run1
     | some p =>
      obtain ⟨Y2, Z2⟩ := p
      rw [e2] at run1
      dsimp only at run1
      refine ⟨α1, Y1, Z1, d, Y2, Z2, ⟨y2, g1.e.up y1⟩, y3, e2, fun α2 σ2 H2 x2 s2 r2 => ?_⟩
      have x02 : Ext α0 H0 α2 H2 := (x1.trans y1).trans x2
      cases e3 : b.run Y2 Z2 with
      | none => rw [e3] at run1; cases run1
      | some p =>
       obtain ⟨r3, Z3⟩ := p
       rw [e3] at run1
       cases r3 with
       | nx Y3 => exact ⟨α2, Y2, Z2, _, _, ⟨s2, r2⟩, e3, fun α' σ' H' k' s' e' => ⟨α', Y3, Z3, ⟨s', e'⟩, x02.trans k', run1⟩⟩
       | ct Y3 => exact ⟨α2, Y2, Z2, _, _, ⟨s2, r2⟩, e3, fun α' σ' H' k' s' e' => ⟨α', Y3, Z3, ⟨s', e'⟩, x02.trans k', run1⟩⟩
       | bk Y3 => cases run1; exact ⟨α2, Y2, Z2, _, _, ⟨s2, r2⟩, e3, aft0.up x02⟩
       | rt d => cases run1; exact ⟨α2, Y2, Z2, _, _, ⟨s2, r2⟩, e3, aft0.up x02⟩
       | er x Y3 => cases run1; exact ⟨α2, Y2, Z2, _, _, ⟨s2, r2⟩, e3, aft0.up x02⟩
 ·cases h
def JQ (ds : List D) : Wk := ⟨fun i _ => some ds[i]?, ds.length⟩
def wkL (l n : Nat) : Wk := ⟨fun i Z => match Z[l]? with
 | some (.lst ds) => some ds[i]?
 | _ => none, n⟩
theorem jok_tup {K : PySem.W.Frag} {α : List Addr} {H : Hp} {ds : List D} {vs : List V} {p : Addr} (t : SqT K H p vs) (r : Bh K α H ds vs) : JOk K α H (JQ ds) (Itt K p) := by
 intro α1 H1 Z i x s
 have t1 := x.sqT t
 have r1 := r.up x
 dsimp only [JQ]
 cases e : ds[i]? with
 | none => exact ⟨vs, t1, by rw [r1.len]; exact List.getElem?_eq_none_iff.mp e⟩
 | some d =>
  obtain ⟨v, h1, h2⟩ := r1.get e
  refine ⟨⟨vs, v, t1, h1⟩, fun y H' hy => ?_⟩
  obtain ⟨eh, q⟩ := hy
  subst eh
  have q1 := q vs t1
  rw [h1] at q1
  cases q1
  exact ⟨Ext.refl _ _, s, h2⟩
theorem jok_fro {K : PySem.W.Frag} {α : List Addr} {H : Hp} {ds : List D} {vs : List V} {p : Addr} (t : FqL K H p vs) (r : Bh K α H ds vs) : JOk K α H (JQ ds) (Itl K p) := by
 intro α1 H1 Z i x s
 have t1 := (x.fqL t).sq
 have r1 := r.up x
 dsimp only [JQ]
 cases e : ds[i]? with
 | none => exact ⟨vs, t1, by rw [r1.len]; exact List.getElem?_eq_none_iff.mp e⟩
 | some d =>
  obtain ⟨v, h1, h2⟩ := r1.get e
  refine ⟨⟨vs, v, t1, h1⟩, fun y H' hy => ?_⟩
  obtain ⟨eh, q⟩ := hy
  subst eh
  have q1 := q vs t1
  rw [h1] at q1
  cases q1
  exact ⟨Ext.refl _ _, s, h2⟩
theorem jok_lst {K : PySem.W.Frag} {α : List Addr} {H : Hp} {l n : Nat} {p : Addr} (a : α[l]? = some p) : JOk K α H (wkL l n) (Itl K p) := by
 intro α1 H1 Z i x s
 have a1 := x.pre l p a
 dsimp only [wkL]
 cases e0 : Z[l]? with
 | none => trivial
 | some o =>
  cases o with
  | dct _ => trivial
  | ins _ _ => trivial
  | fzd _ => trivial
  | lst ds =>
   obtain ⟨vs, hp, r1⟩ := s.at_ l _ p e0 a1
   dsimp only
   cases e : ds[i]? with
   | none => exact ⟨vs, SqL.of hp, by rw [r1.len]; exact List.getElem?_eq_none_iff.mp e⟩
   | some d =>
    obtain ⟨v, h1, h2⟩ := r1.get e
    refine ⟨⟨vs, v, SqL.of hp, h1⟩, fun y H' hy => ?_⟩
    obtain ⟨eh, q⟩ := hy
    subst eh
    have q1 := q vs (SqL.of hp)
    rw [h1] at q1
    cases q1
    exact ⟨Ext.refl _ _, s, h2⟩
def wkR (lo : Int) (n : Nat) : Wk := ⟨fun i _ => if i < n then some (some (.int (lo + i))) else some none, n⟩
def ok62 (i : Int) : Prop := -(2 ^ 62) <= i /\ i < 2 ^ 62
instance (i : Int) : Decidable (ok62 i) := by unfold ok62; infer_instance
def rngW1 : D -> M Wk
 | .int n => if ok62 n then M.ret (wkR 0 n.toNat) else M.stop
 | _ => M.stop
theorem jok_rng {K : PySem.W.Frag} {α : List Addr} {H : Hp} {lo : Int} {n : Nat} : JOk K α H (wkR lo n) (Itr lo n) := by
 intro α1 H1 Z i x s
 dsimp only [wkR]
 by_cases h : i < n
 ·rw [if_pos h]
  refine ⟨h, fun y H' hy => ?_⟩
  obtain ⟨eh, q⟩ := hy
  subst eh
  exact ⟨Ext.refl _ _, s, q⟩
 ·rw [if_neg h]
  exact Nat.le_of_not_lt h
def iR1 (a : CE) : CI := ⟨fun Y => M.bnd (a.run Y) rngW1, fun I _ e => match e with
 | .Call (.Name y _) [x] [] _ => decide (y = ("range" : Str)) && (glo I.sc y && (noStar x && a.chk I x))
 | _ => false⟩
theorem Xl {a : CE} (hb : Bare Kn "range") (ha : GE Kn k a) : GI Kn k (iR1 a) := by
 intro X W cb bs tg e h
 dsimp only [iR1] at h
 split at h
 ·simp only [and_eq_true, decide_eq_true_eq, glo] at h
  obtain ⟨h1, h2, h3, h4⟩ := h
  subst h1
  refine PI.imp (pi_range1 h2 (hb _ _ _ _ _ bs.kn) (pa_cons (ha X W cb bs _ h4) pa_nil (Bq h3)) (Bq h3)) ?_
  rintro σ H R ⟨α, Y, Z, q, Z', g, run, aft⟩
  refine Bp g run aft fun d v α1 H1 Z1 g1 k1 r1 run1 aft1 => ?_
  cases d with
  | int n =>
   dsimp only [rngW1] at run1
   split at run1
   ·rename_i hn
    exact ⟨n, by rw [show v = .int n from r1], hn.1, hn.2, Av (R := fun α H w J => JOk X.K α H w J) g1.s run1 aft1 jok_rng⟩
   ·cases run1
  | _ => cases run1
 ·cases h
end
end Mi
namespace Mi
open PySem L2 PyProof.Rows
variable [Tb]
def mir (N np : Nat) (run : Env -> Ms) : List D -> M D := fun ds Z =>
 if ds.length = np then match run (ds.map some ++ replicate (N - np) none) Z with
  | some (.nx _, Z') => some (.ok .non, Z')
  | some (.rt d, Z') => some (.ok d, Z')
  | some (.er x _, Z') => some (.error x, Z')
  | _ => none
 else none
theorem TY {N np : Nat} {run : Env -> Ms} {ds : List D} {Z : List O} {p : Except Ex D × List O} (h : mir N np run ds Z = some p) : ds.length = np := by
 unfold mir at h
 split at h
 ·assumption
 ·cases h
section
variable {P : Program} {w : World} {K : PySem.W.Frag} {mg : Str -> Option Value} {base : Heap}
theorem fnGL {Kn : Kno} {x qual : Str} {st : Stmt} {f : Addr} {fd : FuncData} {N ps : List Str} {k : Nat} {c : CB} {cb : Str -> Bool} (hcb : cb Str.empty = true -> LamC base mg fd.code (qual ++ ".<locals>.")) (F : Fun K x qual st f fd) (S : FnScope N ps (defScope st)) (hk : Kn P w K mg base) (sys : SysOk P base) (hg : GB Kn k c)
  (hc : c.chk ⟨N, defScope st, cb⟩ (defBody st) = true) : FnG P w K mg base (k + 1) f fd ps (Tv K mg (mir N.length ps.length c.run)) := by
 obtain ⟨oc, od, kV, doc, pm, an, cdv, ct, osl, rfl, lk, hcd⟩ := F.ex
 have len : ∀ vs H Q E, Tv K mg (mir N.length ps.length c.run) vs H Q E -> vs.length = ps.length := by
  rintro vs H Q E ⟨α, Z, ds, r, Z', s, w, run, _⟩
  rw [w.len]
  exact TY run
 refine ⟨len, fun A outer s H args us vs Q E hr hgd e0 hb r hsp => ?_⟩
 have hl := len _ _ _ _ hsp
 have lim : s.heap.NoLimit := e0.mod.nolimit.keeps fun b o e => (e0.bs b o e).1
 have KX : K.In s.heap := e0.mod.kin.keeps fun b o e => (e0.bs b o e).1
 have kinds : ∀ y ∈ ps.zip us, (defScope st).names.lookup y.1 = some .local \/ ((defScope st).names.lookup y.1 = some .cell /\ ((cellsFrom (s.heap.objs.size + 1) (defScope st).names []).lookup y.1).isSome = true) := fun y hy => by
  rcases S.par y.1 (List.of_mem_zip (a := y.1) (b := y.2) hy).1 with q | q
  ·exact .inl q
  ·exact .inr ⟨q, PySem.W.cellsFrom_some _ _ _ (.inl q)⟩
 obtain ⟨α, Z, ds, r0, Z', sS, w0, run, aft⟩ := hsp
 have hdl := TY run
 unfold mir at run
 rw [if_pos hdl] at run
 refine codeAny_call_function hr.r.depth (KX _ _ lk) rfl S.co S.gen rfl (PySem.W.codeRec_of KX hcd) (hb _ _ _ _ (wpAny_newFunctionEnv_cells S.kind kinds fun env he s1 x => ?_))
 subst he
 refine ⟨lim.keeps x.toInCall.keep, codeAny_func ?_⟩
 have I : Inv (cxOf (CXr P w) P w K mg base N qual (defScope st) f cdv A outer s H E) [] (L2.start N vs) H s1 := inv_start S hr.r.hd e0 hl r x
 have bas : Bas Kn k cb (cxOf (CXr P w) P w K mg base N qual (defScope st) f cdv A outer s H E) (fun c d _ H' => E c d H') :=
  ⟨hk, rfl, S.nd, hr.deeper _, hgd, takes_of rfl rfl rfl rfl, sys, ⟨_, _, rfl, S.gen, S.co, rfl, rfl⟩, fun _ _ => rfl, hcb⟩
 have body := hg _ _ _ bas ⟨passes_of rfl, rfl, rfl⟩ (defBody st) hc
 have e1 : RepE K α H (ds.map some ++ replicate (N.length - ps.length) none) (L2.start N vs) := by
  have := RepE.start (N := N) w0
  rwa [hdl] at this
 cases hrun : c.run (ds.map some ++ replicate (N.length - ps.length) none) Z with
 | none => rw [hrun] at run; cases run
 | some p =>
  obtain ⟨sr, Z1⟩ := p
  rw [hrun] at run
  have q : rdS K mg (fun c d _ H' => E c d H') c.run { nx := fun _ H' => Q .non H', rt := Q } (L2.start N vs) H := by
   refine ⟨α, _, Z, sr, Z1, ⟨sS, e1⟩, hrun, ?_⟩
   cases sr with
   | nx Y => cases run; exact fun α' σ' H' k' s' _ => aft α' .non H' k' s' rfl
   | rt d => cases run; exact fun α' v H' k' s' r' => aft α' v H' k' s' r'
   | er x Y => cases run; exact fun α' cc dd σ' H' k' s' _ x' => aft α' cc dd H' k' s' x'
   | bk Y => cases run
   | ct Y => cases run
  refine wpAny_mono (body.run [] s1 _ H _ I q) (fun fl s' hs => ?_) fun e s' z => z
  have done : ∀ {σ' : L2.St} {H' : Hp} {v : V} {u : Value}, Inv (cxOf (CXr P w) P w K mg base N qual (defScope st) f cdv A outer s H E) [] σ' H' s' -> RelV v u -> Q v H' -> L2.CE outer P w H s Q u s' :=
   fun {σ' H' v u} J rv z => ⟨v, H', J.os, J.bare, J.base, J.hok, rv, z⟩
  cases fl with
  | ret u =>
   obtain ⟨v, σ', H', J, rv, z⟩ := hs
   exact done J rv z
  | next =>
   obtain ⟨σ', H', J, z⟩ := hs
   exact done (v := V.non) (u := Value.none) J rfl z
  | brk =>
   obtain ⟨_, _, _, z⟩ := hs
   exact z.elim
  | cont =>
   obtain ⟨_, _, _, z⟩ := hs
   exact z.elim
theorem fnG {Kn : Kno} {x qual : Str} {st : Stmt} {f : Addr} {fd : FuncData} {N ps : List Str} {k : Nat} {c : CB} (F : Fun K x qual st f fd) (S : FnScope N ps (defScope st)) (hk : Kn P w K mg base) (sys : SysOk P base) (hg : GB Kn k c)
  (hc : c.chk ⟨N, defScope st, nlam⟩ (defBody st) = true) : FnG P w K mg base (k + 1) f fd ps (Tv K mg (mir N.length ps.length c.run)) :=
 fnGL (cb := nlam) (fun z => by cases (show false = true from z)) F S hk sys hg hc
end
def scr (ns : List Int) : D := .fro (ns.map .int)
theorem RM {K : PySem.W.Frag} {α : List Addr} {H : Hp} : ∀ ns : List Int, Bh K α H (ns.map D.int) (ns.map V.int)
 | [] => rfl
 | n :: ns => ⟨.int n, ns.map V.int, rfl, rfl, RM ns⟩
theorem lawGT {P : Program} {w : World} {K : PySem.W.Frag} {mg mb : Str -> Option Value} {k : Nat} {fa a : Addr} {cs : List (Addr × Addr)} {fd : FuncData} {x : Str} {m : List D -> M D} {s₁ : Shared} {vs : List Value} {ns : List Int}
  (KX : K.In s₁.heap) (hns : s₁.heap.Ns mainGlobals mg) (hb : s₁.heap.Ns builtinsNs mb) (hbb : ∀ x : Str, x ≠ "__name__" -> mb x = bootBuiltins x) (hlim : s₁.heap.NoLimit) (hseer : s₁.heap.NoSeer) (hg : s₁.gens = #[])
  (hT : ∀ p ∈ cs, s₁.heap.get? p.2 = some { cls := .none, data := .fields #[] }) (nT : ∀ p ∈ cs, K.lookup p.2 = none) (C : ∀ p ∈ cs, PySem.W.CodeHd s₁.heap p.1 p.2)
  (hbm : ∃ (bm : Addr) (ob : Obj), mg "__builtins__" = some (.ref bm) /\ bm ≠ builtinsNs /\ s₁.heap.get? bm = some ob /\ ob.cls = .type "module" /\ ob.dict = some builtinsNs /\ ob.data = .plain) (htb : ∀ p ∈ Tb.T, p.1 ∈ cs.map (·.2))
  (ha : s₁.heap.get? a = some { cls := .type "list", data := .seq vs.toArray }) (hi : IntsAre vs ns) (hl : ns.length <= sizeLine) (hr : RoomB k callerA) (htree : P.given.tree = none)
  (F : ∀ base : Heap, K.In base -> base.Ns mainGlobals mg -> SysOk P base -> (∀ p ∈ cs, LamX.TabB base mg p.1 p.2) -> FnG P w K mg base k fa fd [x] (Tv K mg m)) (hbind : ∀ (s : Shared) (u : Value), BindsTo s fd ⟨[u], []⟩ [(x, u)])
  (hm : ∃ Z', m [scr ns] [] = some (.ok (.bl true), Z')) :
  codeAny (model P w) callerA (.call (.ref fa) ⟨[.ref a], []⟩) (fun r s' => r = .ok (.ret (.bool true)) /\ OldK s₁.heap s'.heap /\ s'.os = s₁.os /\ AllBare s'.gens) s₁ := by
 have rv := vals_ints hi
 have lenV := hi.length
 obtain ⟨Z', hm⟩ := hm
 have isT : ∀ b : Addr, b ∈ cs.map (·.2) -> s₁.heap.get? b = some { cls := .none, data := .fields #[] } := fun b hb => by
  obtain ⟨p, hp, e⟩ := mem_map.mp hb
  rw [<- e]
  exact hT p hp
 have aT : a ∉ cs.map (·.2) := fun z => by
  have q := isT a z
  rw [ha] at q
  have z' : Data.seq vs.toArray _ = Data.fields #[] := congrArg Obj.data (Option.some.inj q)
  cases z'
 have memT : ∀ p ∈ cs, p.2 ∈ cs.map (·.2) := fun p hp => mem_map.mpr ⟨p, hp, rfl⟩
 have main : ∀ H : Hp, (∀ p ∈ cs, H p.2 = some (.tbl #[])) -> (∀ b, H b = none \/ b ∈ cs.map (·.2) \/ ∃ o xs, H b = some (.frz o (.lst xs))) -> FqL K H a (ns.map V.int) -> HOk P w H s₁.heap -> (∀ b, H b ≠ none -> b = a \/ b ∈ cs.map (·.2)) -> (H a ≠ none -> K.lookup a = none) ->
   codeAny (model P w) callerA (.call (.ref fa) ⟨[.ref a], []⟩) (fun r s' => r = .ok (.ret (.bool true)) /\ OldK s₁.heap s'.heap /\ s'.os = s₁.os /\ AllBare s'.gens) s₁ := by
  intro H hH hO hS hok hA hK
  have noD : ∀ {b : Addr} {o : Obj}, s₁.heap.get? b = some o -> (∀ vs n, o.data ≠ .seq vs n) -> o.data ≠ .fields #[] -> H b = none := fun {b o} e h1 h2 => by
   cases q : H b with
   | none => rfl
   | some u =>
    rcases hA b (by rw [q]; simp) with e' | e'
    ·rw [e', ha] at e
     cases e
     exact (h1 _ _ rfl).elim
    ·rw [isT b e'] at e
     cases e
     exact (h2 rfl).elim
  have notA : ∀ {b : Addr} {o : Obj} {es : Array DictEntry} {ep : Nat}, s₁.heap.get? b = some o -> o.data = .dict es ep -> H b = none := fun {b o es ep} e d => by
   refine noD e (fun vs n z => ?_) fun z => ?_
   ·rw [d] at z
    cases z
   ·rw [d] at z
    cases z
  have ns_at : ∀ {b : Addr} {m : Str -> Option Value}, s₁.heap.Ns b m -> (hidT s₁.heap H).Ns b m := fun {b m} z => by
   obtain ⟨o, es, ep, e, d, r⟩ := z
   exact ⟨o, es, ep, hidT_get e (notA e d), d, r⟩
  have kin : K.In (hidT s₁.heap H) := fun b o e => hidT_get (KX b o e) (by
   cases q : H b with
   | none => rfl
   | some u =>
    rcases hA b (by rw [q]; simp) with e' | e'
    ·subst e'
     rw [hK (by rw [q]; simp)] at e
     cases e
    ·obtain ⟨p, hp, ep⟩ := mem_map.mp e'
     rw [<- ep, nT p hp] at e
     cases e)
  have lim : (hidT s₁.heap H).NoLimit := by
   obtain ⟨mc, h1, h2⟩ := hlim
   exact ⟨mc, ns_at h1, h2⟩
  have seer_hid : (hidT s₁.heap H).NoSeer := by
   refine ⟨?_, ?_, ?_, ?_⟩
   ·obtain ⟨mc, h1, h2⟩ := hseer.statics
    exact ⟨mc, ns_at h1, h2⟩
   ·obtain ⟨mc, h1, h2⟩ := hseer.mods
    exact ⟨mc, ns_at h1, h2⟩
   ·obtain ⟨mc, h1, h2⟩ := hseer.imp
    exact ⟨mc, ns_at h1, h2⟩
   ·obtain ⟨mg, bm, ob, h1, h2, h3, h4, h5⟩ := hseer.main
    refine ⟨mg, bm, ob, ns_at h1, h2, hidT_get h3 ?_, h4, h5⟩
    cases q : H bm with
    | none => rfl
    | some u =>
     rcases hA bm (by rw [q]; simp) with e' | e'
     ·subst e'
      rw [ha] at h3
      cases h3
      simp at h4
     ·rw [isT bm e'] at h3
      cases h3
      simp at h4
  have sysT : ∃ o, (hidT s₁.heap H).get? sysModules = some o := by
   obtain ⟨mm, ⟨o, es, ep, e, d, _⟩, _⟩ := hseer.mods
   exact ⟨o, hidT_get e (notA e d)⟩
  have TBs : ∀ p ∈ cs, LamX.TabB (hidT s₁.heap H) mg p.1 p.2 := fun p hp => by
   have hTp := hT p hp
   refine ⟨?_, ?_, fun z => ?_⟩
   ·obtain ⟨o, us, file, tf, flags, tg, inF, text, tt, e1, r1, r2, r3, r4, r5, r6, r7, r8, hne⟩ := C p hp
    refine ⟨o, us, file, tf, flags, tg, inF, text, tt, hidT_get e1 (noD e1 (fun vs n z => ?_) fun z => ?_), r1, r2, r3, r4, r5, r6, r7, r8, hne⟩
    ·rw [r2] at z
     cases z
    ·rw [r2] at z
     cases z
     simp at r3
   ·obtain ⟨bm, ob, b1, b2, b3, b4, b5, b6⟩ := hbm
    have nG : bm ≠ mainGlobals := fun q => by
     obtain ⟨o, es, ep, e, hd, _⟩ := hns
     rw [q, e] at b3
     cases b3
     rw [hd] at b6
     cases b6
    have nP : bm ≠ p.2 := fun q => by
     rw [q, hTp] at b3
     cases b3
     cases b6
    refine ⟨bm, ob, b1, b2, nG, nP, hidT_get b3 (noD b3 (fun vs n z => ?_) fun z => ?_), b4, b5, b6⟩
    ·rw [b6] at z
     cases z
    ·rw [b6] at z
     cases z
   ·obtain ⟨o, es, ep, e, hd, _⟩ := hns
    rw [z, hTp] at e
    cases e
    cases hd
  have tabs : LamX.Tabs Tb.T H := fun p hp => by
   obtain ⟨c, hc, e⟩ := mem_map.mp (htb p hp)
   exact LamX.TabS.nil (by rw [<- e]; exact hH c hc)
  have mod : Mod K mg (hidT s₁.heap H) := ⟨kin, ns_at hns, ⟨mb, ns_at hb, hbb⟩, lim⟩
  have e0 : Env0 P w K mg (hidT s₁.heap H) callerA [] s₁ H := ⟨rfl, mod, fun b o e => of_hidT e, Nat.le_of_eq (hidT_size _ _), trivial, fun b z => (not_mem_nil z).elim, hok, .of_eq hg⟩
  have sp : Tv K mg m [.ref a] H (fun v _ => v = .bl true) (fun _ _ _ => False) := by
   refine ⟨[], [], [scr ns], .ok (.bl true), Z', ⟨rfl, nodup_nil, fun l o p h => by simp at h, tabs⟩, ⟨.ref a, [], rfl, ⟨a, ns.map V.int, rfl, hS, RM ns⟩, rfl⟩, hm, fun α' v H' _ _ r => r⟩
  refine codeAny_mono ((F _ kin (ns_at hns) ⟨sysT, seer_hid, htree⟩ TBs).run callerA [] s₁ H ⟨[.ref a], []⟩ [.ref a] [.ref a] _ _ hr rfl e0 (hbind s₁ (.ref a)) (.cons rfl .nil) sp) fun r s' h => ?_
  cases r with
  | error e =>
   obtain ⟨_, _, _, _, _, _, _, _, _, _, _, _, z⟩ := h
   exact z.elim
  | ok fl =>
   cases fl with
   | next => exact False.elim h
   | brk => exact False.elim h
   | cont => exact False.elim h
   | ret u =>
    obtain ⟨v, H', os, bare, un, hok', r', q⟩ := h
    subst q
    obtain rfl : u = Value.bool true := r'
    have key : ∀ b o, b ∉ cs.map (·.2) -> s₁.heap.get? b = some o -> s'.heap.get? b = some o := fun b o nb e => by
     cases q : H b with
     | none => exact un.keep b o e q (not_mem_nil) (not_mem_nil)
     | some u =>
      rcases hO b with z | z | ⟨ob, xs, z⟩
      ·rw [q] at z; cases z
      ·exact absurd z nb
      ·have z2 := un.frzs b ob _ z
       obtain ⟨e1, _⟩ := hok b _ z
       obtain ⟨e2, _⟩ := hok' b _ z2
       rw [e] at e1; cases e1
       exact e2
    have grown : ∀ p ∈ cs, ∃ more : Array Value, s'.heap.get? p.2 = some { cls := .none, data := .fields more } := fun p hp => by
     obtain ⟨more, z⟩ := un.tbls p.2 #[] (hH p hp)
     exact ⟨_, hok' p.2 _ z⟩
    refine ⟨rfl, ⟨fun b o e => ?_, fun b o e => ?_⟩, os, bare⟩
    ·by_cases hb : b ∈ cs.map (·.2)
     ·obtain ⟨p, hp, ep⟩ := mem_map.mp hb
      obtain ⟨more, hm⟩ := grown p hp
      rw [<- ep] at e ⊢
      rw [hT p hp] at e
      cases e
      exact .inr (.inl ⟨((C p hp).tab (hT p hp)).isCodeTable, rfl, #[], more, rfl, by rw [Array.empty_append]; exact hm⟩)
     ·exact .inl (key b o hb e)
    ·by_cases hb : b ∈ cs.map (·.2)
     ·obtain ⟨p, hp, ep⟩ := mem_map.mp hb
      obtain ⟨more, hm⟩ := grown p hp
      rw [<- ep]
      exact ⟨_, hm⟩
     ·exact ⟨o, key b o hb e⟩
 cases hk : K.lookup a with
 | some o =>
  have e := KX a o hk
  rw [ha] at e
  cases e
  refine main (fun b => if b ∈ cs.map (·.2) then some (.tbl #[]) else none) (fun p hp => if_pos (memT p hp)) (fun b => ?_) (.inr (.inr ⟨_, vs.toArray, _, hk, rfl, rfl, rfl, by rw [size_toArray, lenV]; exact hl, by simpa using rv⟩)) (fun b u z => ?_) (fun b z => ?_) fun z => absurd (show (if a ∈ cs.map (·.2) then some (HO.tbl #[]) else none) = none from if_neg aT) z
  ·by_cases hb : b ∈ cs.map (·.2)
   ·exact .inr (.inl hb)
   ·exact .inl (if_neg hb)
  ·by_cases hb : b ∈ cs.map (·.2)
   ·have z' := (if_pos hb).symm.trans z
    cases z'
    exact isT b hb
   ·have z' := (if_neg hb).symm.trans z
    cases z'
  ·by_cases hb : b ∈ cs.map (·.2)
   ·exact .inr hb
   ·exact absurd (if_neg hb) z
 | none =>
  refine main (fun b => if b = a then some (.frz { cls := .type "list", data := .seq vs.toArray } (.lst (ns.map V.int))) else if b ∈ cs.map (·.2) then some (.tbl #[]) else none) (fun p hp => (if_neg (show ¬ p.2 = a from fun z => aT (by rw [<- z]; exact memT p hp))).trans (if_pos (memT p hp))) (fun b => ?_)
   (.inl ⟨{ cls := .type "list", data := .seq vs.toArray }, if_pos rfl⟩) (fun b u z => ?_) (fun b z => ?_) fun _ => hk
  ·by_cases hb : b = a
   ·exact .inr (.inr ⟨_, _, if_pos hb⟩)
   ·by_cases hb2 : b ∈ cs.map (·.2)
    ·exact .inr (.inl hb2)
    ·exact .inl ((if_neg hb).trans (if_neg hb2))
  ·by_cases hb : b = a
   ·have z' := (if_pos hb).symm.trans z
    cases z'
    rw [hb]
    exact ⟨ha, by rw [length_map]; exact hl, vs, _, rv, ha⟩
   ·have z1 := (if_neg hb).symm.trans z
    by_cases hb2 : b ∈ cs.map (·.2)
    ·have z' := (if_pos hb2).symm.trans z1
     cases z'
     exact isT b hb2
    ·have z' := (if_neg hb2).symm.trans z1
     cases z'
  ·by_cases hb : b = a
   ·exact .inl hb
   ·by_cases hb2 : b ∈ cs.map (·.2)
    ·exact .inr hb2
    ·exact absurd ((if_neg hb).trans (if_neg hb2)) z
end Mi
namespace Mi
open PySem L2 PyProof.Rows
variable [Tb]
theorem Knw.up {Kn : Kno} {x : Str} {ps : List Str} {m : List D -> M D} {j k : Nat} (h : Knw Kn x ps m j) (l : j <= k) : Knw Kn x ps m k := fun P w K mg base q => by
 obtain ⟨f, fd, F, a, b, c⟩ := h P w K mg base q
 exact ⟨f, fd, F.up l, a, b, c⟩
def gas (i : Nat) (Y : Env) : Nat := match Y[i]? with
 | some (some (.int n)) => n.natAbs + 1
 | _ => 0
theorem len1 {a : Type} {P : List a -> Prop} (h : ∀ x, P [x]) : ∀ us : List a, us.length = 1 -> P us
 | [x], _ => h x
theorem OJ {a : Type} {P : List a -> Prop} (h : ∀ x y, P [x, y]) : ∀ us : List a, us.length = 2 -> P us
 | x :: us, e => len1 (P := fun us => P (x :: us)) (h x) us (Nat.succ.inj e)
theorem len3 {a : Type} {P : List a -> Prop} (h : ∀ x y z, P [x, y, z]) : ∀ us : List a, us.length = 3 -> P us
 | x :: us, e => OJ (P := fun us => P (x :: us)) (h x) us (Nat.succ.inj e)
theorem len4 {a : Type} {P : List a -> Prop} (h : ∀ x y z u, P [x, y, z, u]) : ∀ us : List a, us.length = 4 -> P us
 | x :: us, e => len3 (P := fun us => P (x :: us)) (h x) us (Nat.succ.inj e)
theorem len5 {a : Type} {P : List a -> Prop} (h : ∀ x y z u v, P [x, y, z, u, v]) : ∀ us : List a, us.length = 5 -> P us
 | x :: us, e => len4 (P := fun us => P (x :: us)) (h x) us (Nat.succ.inj e)
end Mi
namespace Mi
open PySem L2 PyProof.Rows
variable [Tb]
def Df (Y : Env) : List Nat -> Env
 | [] => Y
 | v :: vs => (Df Y vs).set v none
section
variable {K : PySem.W.Frag} {α : List Addr} {H : Hp} {Y : Env} {σ : L2.St}
theorem RepE.none (e : RepE K α H Y σ) (i : Nat) : RepE K α H (Y.set i none) (σ.set i none) :=
 ⟨by simp [e.len], fun j d h => by
  by_cases hj : j = i
  ·subst hj
   have hl := (XqB h).1
   rw [length_set] at hl
   rw [getElem?_set_self hl] at h
   cases h
  ·rw [getElem?_set_ne (Ne.symm hj)] at h
   obtain ⟨w, h1, h2⟩ := e.at_ j d h
   exact ⟨w, by rw [getElem?_set_ne (Ne.symm hj)]; exact h1, h2⟩⟩
theorem RepE.wipe (e : RepE K α H Y σ) : ∀ vs : List Nat, RepE K α H (Df Y vs) (L2.wipe σ vs)
 | [] => e
 | v :: vs => (e.wipe vs).none v
end
theorem Tq {σ : L2.St} {i : Nat} : ∀ {vs : List Nat}, i ∈ vs -> (wipe σ vs)[i]? = if i < σ.length then some none else none
 | [], h => by cases h
 | v :: vs, h => by
  unfold wipe
  by_cases hv : v = i
  ·subst hv
   by_cases hl : v < σ.length
   ·rw [getElem?_set_self (by rw [wipe_length]; exact hl), if_pos hl]
   ·rw [if_neg hl, getElem?_eq_none (by rw [length_set, wipe_length]; omega)]
  ·rw [getElem?_set_ne hv]
   rcases mem_cons.mp h with e | e
   ·exact (hv e.symm).elim
   ·exact Tq e
theorem Yb {σ τ : L2.St} {vs : List Nat} (hl : σ.length = τ.length) (h : ∀ i, i ∉ vs -> σ[i]? = τ[i]?) : wipe σ vs = wipe τ vs := by
 apply ext_getElem?
 intro i
 by_cases hi : i ∈ vs
 ·rw [Tq hi, Tq hi, hl]
 ·rw [wipe_out hi, wipe_out hi, h i hi]
theorem wipe_set {σ : L2.St} {vs : List Nat} {i : Nat} {a : Option V} (h : i ∈ vs) : wipe (σ.set i a) vs = wipe σ vs :=
 Yb (by rw [length_set]) fun j hj => getElem?_set_ne fun e => hj (by rw [<- e]; exact h)
theorem XX {σ : L2.St} {vs : List Nat} : wipe (wipe σ vs) vs = wipe σ vs := Yb (wipe_length σ vs) fun j hj => wipe_out hj
def rdGc (K : PySem.W.Frag) (m : D -> Env -> List O -> Option (Env × List O)) (vs : List Nat) : TG := fun v σ H Q => ∃ α Y Z d Y' Z', Cfg K α H Y σ Z /\ Rep K α H d v /\ m d Y Z = some (Y', Z') /\ ∀ α' σ' H', Ext α H α' H' -> RepS K α' H' Z' -> RepE K α' H' Y' σ' -> wipe σ' vs = wipe σ vs -> Q σ' H'
def GGc (Kn : Kno) (k : Nat) (vs : List Nat) (c : CG) : Prop := ∀ X W b, Bas Kn k b X W -> ∀ e, c.chk ⟨X.N, X.env.scope, b⟩ e = true -> PG X e (rdGc X.K c.run vs)
def rdGsc (K : PySem.W.Frag) (m : List D -> Env -> List O -> Option (Env × List O)) (vs : List Nat) : TGs := fun xs σ H Q => ∃ α Y Z ds Y' Z', Cfg K α H Y σ Z /\ Bh K α H ds xs /\ m ds Y Z = some (Y', Z') /\ ∀ α' σ' H', Ext α H α' H' -> RepS K α' H' Z' -> RepE K α' H' Y' σ' -> wipe σ' vs = wipe σ vs -> Q σ' H'
def GGsc (Kn : Kno) (k : Nat) (vs : List Nat) (c : CGs) : Prop := ∀ X W b, Bas Kn k b X W -> ∀ e, c.chk ⟨X.N, X.env.scope, b⟩ e = true -> PGs X e (rdGsc X.K c.run vs)
section
variable {Kn : Kno} {k : Nat} {vs : List Nat}
theorem M3 {i : Nat} (hi : i ∈ vs) : GGc Kn k vs (gN i) := by
 intro X W cb b e h
 dsimp only [gN] at h
 split at h
 ·rename_i x pos
  obtain ⟨h1, h2, h3⟩ := RP h
  have hf : X.fn x = true \/ X.env.scope.names.lookup x = some .local := h3.elim Or.inr fun z => Or.inl (b.cells x z)
  refine PG.imp (pg_name b.nd h1 h2 hf) ?_
  rintro v σ H Q ⟨α, Y, Z, d, Y', Z', g, r, run, q⟩
  cases run
  exact q α _ H (Ext.refl α H) g.s (g.e.set i r) (wipe_set hi)
 ·cases h
theorem Rh : GGsc Kn k vs gsNil := by
 intro X W cb b e h
 dsimp only [gsNil] at h
 split at h
 ·refine PGs.imp pgs_nil ?_
  rintro v σ H Q ⟨α, Y, Z, ds, Y', Z', g, r, run, q⟩
  cases ds with
  | nil =>
   cases run
   exact ⟨r, q α σ H (Ext.refl α H) g.s g.e rfl⟩
  | cons _ _ => cases run
 ·cases h
theorem De {a : CG} {r : CGs} (ha : GGc Kn k vs a) (hr : GGsc Kn k vs r) : GGsc Kn k vs (Ak a r) := by
 intro X W cb b e h
 dsimp only [Ak] at h
 split at h
 ·simp only [and_eq_true] at h
  obtain ⟨h1, h2, h3⟩ := h
  refine PGs.imp (pgs_cons (ha X W cb b _ h2) (hr X W cb b _ h3) (by rw [Jl h1]; rfl)) ?_
  rintro vs σ H Q ⟨α, Y, Z, ds, Y', Z', g, w, run, q⟩
  cases ds with
  | nil => cases run
  | cons d dr =>
   obtain ⟨v, vr, e, w1, w2⟩ := w
   subst e
   dsimp only [Ak] at run
   cases e1 : a.run d Y Z with
   | none => rw [e1] at run; cases run
   | some p =>
    obtain ⟨Y1, Z1⟩ := p
    rw [e1] at run
    refine ⟨v, vr, rfl, α, Y, Z, d, Y1, Z1, g, w1, e1, fun α1 σ1 H1 k1 s1 r1 z1 => ?_⟩
    exact ⟨α1, Y1, Z1, dr, Y', Z', ⟨s1, r1⟩, w2.up k1, run, fun α' σ' H' k' s' r' z' => q α' σ' H' (k1.trans k') s' r' (z'.trans z1)⟩
 ·cases h
theorem c_gT {r : CGs} {n : Nat} (hr : GGsc Kn k vs r) : GGc Kn k vs (gT r n) := by
 intro X W cb b e h
 dsimp only [gT] at h
 split at h
 ·simp only [and_eq_true, decide_eq_true_eq] at h
  obtain ⟨h1, h2, h3⟩ := h
  obtain ⟨l1, l2⟩ := Ri (env := X.env) h2
  refine PG.imp (pg_tup (n := n) b.calm (hr X W cb b _ h3) (l1.trans h1) l2) ?_
  rintro v σ H Q ⟨α, Y, Z, d, Y', Z', g, w, run, q⟩
  cases d with
  | tup ds =>
   dsimp only [gT] at run
   split at run
   ·rename_i hl
    obtain ⟨p, vs, e, t, w2⟩ := w
    exact ⟨p, vs, e, t, w2.len.trans hl, α, Y, Z, ds, Y', Z', g, w2, run, q⟩
   ·cases run
  | _ => cases run
 ·cases h
end
structure CF where
 run : Env -> M Bool
 chk : Inf -> List Expr -> Bool
def GF (Kn : Kno) (k : Nat) (c : CF) : Prop := ∀ X W b, Bas Kn k b X W -> ∀ e, c.chk ⟨X.N, X.env.scope, b⟩ e = true -> PTs X e (rdT X.K X.mg W c.run)
theorem PTs.imp {X : Cx} {e : List Expr} {t t' : TT} (h : PTs X e t) (i : ∀ σ H Q, t' σ H Q -> t σ H Q) : PTs X e t' := ⟨fun pins s σ H Q I q => h.run pins s σ H Q I (i σ H Q q)⟩
def fNil : CF := ⟨fun _ => M.ret true, fun _ es => match es with
 | [] => true
 | _ => false⟩
def Xy (t : CT) : CF := ⟨t.run, fun I es => match es with
 | [e] => t.chk I e
 | _ => false⟩
section
variable {Kn : Kno} {k : Nat}
theorem Pr : GF Kn k fNil := by
 intro X W cb b e h
 dsimp only [fNil] at h
 split at h
 ·refine PTs.imp pts_nil ?_
  rintro σ H Q ⟨α, Y, Z, r, Z', g, run, aft⟩
  exact Av g.s run aft rfl
 ·cases h
theorem Jf {t : CT} (ht : GT Kn k t) : GF Kn k (Xy t) := by
 intro X W cb b e h
 dsimp only [Xy] at h
 split at h
 ·exact pts_one (ht X W cb b _ h)
 ·cases h
end
def JH (w : Wk) (g : CG) (f : Env -> M Bool) (e : Env -> M D) (l : Nat) (Y : Env) : Nat -> Nat -> M D
 | 0, i => fun Z => match w.get i Z with
  | some none => some (.ok (.ref l), Z)
  | _ => none
 | n + 1, i => fun Z => match w.get i Z with
  | some none => some (.ok (.ref l), Z)
  | some (some d) => match g.run d Y Z with
   | some (Y1, Z1) => match f Y1 Z1 with
    | some (.ok true, Z2) => match e Y1 Z2 with
     | some (.ok y, Z3) => match Z3[l]? with
      | some (.lst acc) => if acc.length < sizeLine then JH w g f e l Y n (i + 1) (Z3.set l (.lst (acc ++ [y]))) else none
      | _ => none
     | _ => none
    | some (.ok false, Z2) => JH w g f e l Y n (i + 1) Z2
    | _ => none
   | none => none
  | none => none
def relS (sc scope : Scope) : Scope := { scope with names := scope.names.map fun (n, k) => if (k == NameKind.free && sc.kind == .function && sc.names.lookup n == some .cell) then (n, NameKind.cell) else (n, k) }
def cellB (scope : Scope) (x : Str) : Bool := nlam x && (scope.names.lookup x == some .cell)
def inB (I : Inf) (scope : Scope) : Inf := ⟨I.N, relS I.sc scope, cellB scope⟩
def cLc (it : CI) (g : CG) (f : CF) (e : CE) (vs : List (Str × Nat)) : CE :=
 ⟨fun Y => M.bnd (it.run Y) fun w Z => JH w g f.run e.run Z.length (Df Y (vs.map (·.2))) w.fuel 0 (Z ++ [.lst []]), fun I x => match x with
 | .ListComp elt [⟨tg, iter, ifs, 0⟩] scope _ => YZ iter && (it.chk I tg iter && (blkC I.N I.sc scope vs && (g.chk (inB I scope) tg && (f.chk (inB I scope) ifs && e.chk (inB I scope) elt))))
 | _ => false⟩
theorem S7 {K : PySem.W.Frag} {mg : Str -> Option Value} {W : WX} {it : CI} {g : CG} {f : CF} {e : CE} {vs : List (Str × Nat)} :
  ∀ σ H Q, rdE K mg W (cLc it g f e vs).run σ H Q -> tLc (rd (fun α H w J => JOk K α H w J) K mg W it.run) (rdGc K g.run (vs.map (·.2))) (rdT K mg (fun _ _ _ _ => False) f.run) (rdE K mg (fun _ _ _ _ => False) e.run) (vs.map (·.2)) σ H Q := by
 rintro σ H Q ⟨α, Y, Z, q, Z', g0, run, aft⟩
 refine Bp g0 run aft fun w J α1 H1 Z1 g1 k1 jok run1 aft1 => fun D0 hD => ?_
 have xD : Ext α1 H1 (α1 ++ [D0]) (upd H1 D0 (.lst [])) := Ext.push hD
 have sD : RepS K (α1 ++ [D0]) (upd H1 D0 (.lst [])) (Z1 ++ [.lst []]) := g1.s.push hD ⟨[], upd_same, Bh.nil⟩
 have aD : (α1 ++ [D0])[Z1.length]? = some D0 := by
  rw [<- g1.s.len, getElem?_append_right XqG]
  simp
 refine ⟨fun i n H' => ∃ α' Z2, RepS K α' H' Z2 /\ Ext (α1 ++ [D0]) (upd H1 D0 (.lst [])) α' H' /\ JH w g f.run e.run Z1.length (Df Y (vs.map (·.2))) n i Z2 = some (q, Z'), ⟨w.fuel, _, _, sD, Ext.refl _ _, run1⟩, ?_⟩
 rintro i n H2 ⟨α2, Z2, s2, x2, run2⟩
 have x12 := xD.trans x2
 have j2 := jok α2 H2 Z2 i x12 s2
 have a2 : α2[Z1.length]? = some D0 := x2.pre _ _ aD
 have fin : w.get i Z2 = some none -> (some (.ok (.ref Z1.length), Z2) : Option (Except Ex D × List O)) = some (q, Z') -> J.stop i H2 /\ Q (.ref D0) H2 := by
  intro e1 z
  rw [e1] at j2
  cases z
  exact ⟨j2, aft1 α2 _ H2 x12 s2 ⟨D0, rfl, a2⟩⟩
 cases n with
 | zero =>
  dsimp only [JH] at run2
  cases e1 : w.get i Z2 with
  | none => rw [e1] at run2; cases run2
  | some o =>
   cases o with
   | none => rw [e1] at run2; exact .inl (fin e1 run2)
   | some d => rw [e1] at run2; cases run2
 | succ n =>
  dsimp only [JH] at run2
  cases e1 : w.get i Z2 with
  | none => rw [e1] at run2; cases run2
  | some o =>
   cases o with
   | none => rw [e1] at run2; exact .inl (fin e1 run2)
   | some d =>
    rw [e1] at run2 j2
    obtain ⟨jg, jy⟩ := j2
    refine .inr ⟨jg, fun H' => ∃ α' Z2, RepS K α' H' Z2 /\ Ext (α1 ++ [D0]) (upd H1 D0 (.lst [])) α' H' /\ JH w g f.run e.run Z1.length (Df Y (vs.map (·.2))) n (i + 1) Z2 = some (q, Z'), fun H' z => ⟨n, Nat.lt_succ_self n, z⟩, fun x H' y => ?_⟩
    obtain ⟨y1, y2, y3⟩ := jy x H' y
    dsimp only at run2
    cases e2 : g.run d (Df Y (vs.map (·.2))) Z2 with
    | none => rw [e2] at run2; cases run2
    | some p =>
     obtain ⟨Y3, Z3⟩ := p
     rw [e2] at run2
     dsimp only at run2
     have ew : RepE K α2 H' (Df Y (vs.map (·.2))) (wipe σ (vs.map (·.2))) := ((g1.e.up (x12.trans y1))).wipe _
     refine ⟨α2, _, Z2, d, Y3, Z3, ⟨y2, ew⟩, y3, e2, fun α3 σ3 H3 k3 s3 r3 z3 => ⟨z3.trans XX, ?_⟩⟩
     have x3 := (x2.trans y1).trans k3
     cases e3 : f.run Y3 Z3 with
     | none => rw [e3] at run2; cases run2
     | some p =>
      obtain ⟨r4, Z4⟩ := p
      rw [e3] at run2
      cases r4 with
      | error _ => cases run2
      | ok b =>
       refine ⟨α3, Y3, Z3, .ok b, Z4, ⟨s3, r3⟩, e3, fun α4 b' H4 k4 s4 eb => ?_⟩
       subst eb
       have x4 := x3.trans k4
       cases b with
       | false =>
        rw [if_neg Bool.false_ne_true]
        exact ⟨α4, Z4, s4, x4, run2⟩
       | true =>
        rw [if_pos rfl]
        dsimp only at run2
        cases e4 : e.run Y3 Z4 with
        | none => rw [e4] at run2; cases run2
        | some p =>
         obtain ⟨r5, Z5⟩ := p
         rw [e4] at run2
         cases r5 with
         | error _ => cases run2
         | ok dy =>
          refine ⟨α4, Y3, Z4, .ok dy, Z5, ⟨s4, r3.up k4⟩, e4, fun α5 y' H5 k5 s5 ry => ?_⟩
          have x5 := x4.trans k5
          have a5 : α5[Z1.length]? = some D0 := x5.pre _ _ aD
          dsimp only at run2
          cases e5 : Z5[Z1.length]? with
          | none => rw [e5] at run2; cases run2
          | some ob =>
           rw [e5] at run2
           cases ob with
           | dct _ => cases run2
           | ins _ _ => cases run2
           | fzd _ => cases run2
           | lst acc =>
            dsimp only at run2
            split at run2
            ·rename_i hz
             obtain ⟨accv, hp, rp⟩ := s5.at_ _ _ _ e5 a5
             have x6 : Ext α5 H5 α5 (upd H5 D0 (.lst (accv ++ [y']))) := Ext.put a5 hp fun z => z
             refine ⟨accv, hp, by rw [rp.len]; exact hz, α5, _, s5.put (o := .lst (acc ++ [dy])) a5 ⟨_, upd_same, (rp.app (Bh.cons ry Bh.nil)).up x6⟩ x6, x5.trans x6, run2⟩
            ·cases run2
section
variable {Kn : Kno} {k : Nat}
theorem Bas.blk {cb : Str -> Bool} {X : Cx} {W : WX} (b : Bas Kn k cb X W) (s : Shared) (H : Hp) (scope : Scope) (C : Addr) (cl : List (Str × Addr)) (fp : List Addr) : Bas Kn k (cellB scope) (X.blk s H scope (compEnvC scope cl C X.env) fp) (fun _ _ _ _ => False) :=
 ⟨b.kn, b.calm, b.nd, b.room, b.grd, takes0, b.sys, b.top, fun x hx => ((and_eq_true _ _).mp hx).2, fun z => by cases (show false = true from z)⟩
theorem XH {it : CI} {g : CG} {f : CF} {e : CE} {vs : List (Str × Nat)} (hi : GI Kn k it) (hg : GGc Kn k (vs.map (·.2)) g) (hf : GF Kn k f) (he : GE Kn k e) : GE Kn k (cLc it g f e vs) := by
 intro X W cb b x h
 dsimp only [cLc] at h
 split at h
 ·rename_i elt tg iter ifs scope pos
  simp only [and_eq_true] at h
  obtain ⟨h1, h2, h3, h4, h5, h6⟩ := h
  refine PE.imp (pe_lc (g := rdGc X.K g.run (vs.map (·.2))) (tt := rdT X.K X.mg (fun _ _ _ _ => False) f.run) (te := rdE X.K X.mg (fun _ _ _ _ => False) e.run) b.calm b.nd (hi X W cb b _ _ h2) (blkOk_by h3) (fun s H C cl fp => hg _ _ _ (b.blk s H scope C cl fp) _ h4) (fun s H C cl fp => hf _ _ _ (b.blk s H scope C cl fp) _ h5)
   (fun s H C cl fp => he _ _ _ (b.blk s H scope C cl fp) _ h6) (Ma h1)) ?_
  exact S7
 ·cases h
end
def Mh : Expr -> Option Scope
 | .ListComp _ _ s _ => some s
 | .SetComp _ _ s _ => some s
 | .DictComp _ _ _ s _ => some s
 | _ => none
def Np (sc : Scope) (t e : Expr) : Bool := match t with
 | .Name y p => decide (sc.names.lookup y = some .local) && p.line == e.pos.line && (match Mh e with
  | some s => !(s.names.any fun (n, k) => n == y && (k == .local || k == .cell))
  | none => false)
 | _ => false
theorem V7 {sc : Scope} {t e : Expr} {l : Nat} {env : PySem.Env} (he : env.scope = sc) (hf : sc.kind = .function) (h : Np sc t e = true) : swapsWith e (some t) l env = pure true := by
 subst he
 unfold Np at h
 split at h
 ·rename_i y p
  simp only [and_eq_true, decide_eq_true_eq] at h
  obtain ⟨⟨h1, h2⟩, h3⟩ := h
  have ky : env.kindOf y = some .local := h1
  have hb := Ra hf
  cases e with
  | ListComp a b s q => dsimp only [Mh] at h3; unfold swapsWith; simp only [hb, ky, h2, h3]; rfl
  | SetComp a b s q => dsimp only [Mh] at h3; unfold swapsWith; simp only [hb, ky, h2, h3]; rfl
  | DictComp a b c s q => dsimp only [Mh] at h3; unfold swapsWith; simp only [hb, ky, h2, h3]; rfl
  | _ => cases h3
 ·cases h
theorem Yk {sc : Scope} {t e : Expr} {l : Nat} {env : PySem.Env} (he : env.scope = sc) (h : Np sc t e = false) : swapsWith e (some t) l env = pure false := by
 subst he
 cases hs : Mh e with
 | none => cases e <;> first | rfl | cases hs
 | some s =>
  cases t with
  | Name y p =>
   have ky : (env.kindOf y == some .local) = decide (env.scope.names.lookup y = some .local) := by
    show (env.scope.names.lookup y == some .local) = _
    by_cases z : env.scope.names.lookup y = some .local
    ·rw [z]; rfl
    ·rw [decide_eq_false z]
     simp [z]
   unfold Np at h
   dsimp only at h
   rw [hs] at h
   dsimp only at h
   have fin : ∀ b : Bool, (pure (b && (env.kindOf y == some .local) && p.line == e.pos.line && !(s.names.any fun (n, k) => n == y && (k == .local || k == .cell))) : Sem Bool) = pure false := by
    intro b
    rw [ky]
    cases b with
    | false => rfl
    | true => rw [Bool.true_and]; rw [h]
   cases e with
   | ListComp a b s q => cases hs; exact fin _
   | SetComp a b s q => cases hs; exact fin _
   | DictComp a b c s q => cases hs; exact fin _
   | _ => cases hs
  | _ =>
   cases e with
   | ListComp a b s q => rfl
   | SetComp a b s q => rfl
   | DictComp a b c s q => rfl
   | _ => cases hs
def parNo (sc : Scope) (t e : Expr) : Bool := match t with
 | .Tuple ts _ _ => (match e with
  | .Tuple vs _ _ => (!(ts.length == 2 || ts.length == 3) || vs.length != ts.length) || (decide ((ts.filterMap fun
   | .Name id pos => if sc.names.lookup id == some .local && pos.line == (ts.head?.map (·.pos.line)).getD 0 then some id else none
   | _ => none).length ≠ ts.length) || vs.all (foldedForSure 8))
  | _ => true)
 | .List _ _ => false
 | _ => true
theorem parNo_sw {sc : Scope} {t e : Expr} {env : PySem.Env} (he : env.scope = sc) (h : parNo sc t e = true) : swappedStores [t] e env = pure none := by
 subst he
 cases t with
 | Tuple ts k1 p1 =>
  cases e with
  | Tuple vs k2 p2 =>
   dsimp only [parNo] at h
   unfold swappedStores
   dsimp only
   by_cases h1 : (!(ts.length == 2 || ts.length == 3) || vs.length != ts.length || env.blockKind != .function) = true
   ·simp only [h1, if_true]
   ·have h1' := Bool.eq_false_iff.mpr h1
    simp only [h1', false_eq_true, if_false]
    simp only [Bool.or_eq_false_iff] at h1'
    rw [h1'.1.1, h1'.1.2] at h
    simp only [Bool.or_false, Bool.false_or, or_eq_true, decide_eq_true_eq] at h
    split
    ·rfl
    ·rcases h with h | h
     ·rw [if_pos]
      rw [or_eq_true]
      left
      rw [bne_iff_ne]
      intro e
      refine h (Eq.trans ?_ e)
      congr 2
     ·split
      ·rfl
      ·simp only [h, if_true]
  | _ => rfl
 | List _ _ => cases h
 | _ => rfl
section
variable {Kn : Kno} {k : Nat}
def Yv (g : CG) (a : CE) : CS := ⟨V3 g a, fun I st => match st with
 | .Assign [t] e _ => !Np I.sc t e && (noStar t && (parNo I.sc t e && (g.chk I t && a.chk I e)))
 | _ => false⟩
theorem g_sAsg2 {g : CG} {a : CE} (hg : GG Kn k g) (ha : GE Kn k a) : GS Kn k (Yv g a) := by
 intro X W cb bs po e h
 dsimp only [Yv] at h
 split at h
 ·simp only [and_eq_true, not_eq_true'] at h
  obtain ⟨h0, h1, h2, h3, h4⟩ := h
  exact PS.imp (ps_asg (ha X W cb bs _ h4) (hg X W cb bs _ h3) (Yk rfl h0) (parNo_sw rfl h2) (by rw [Jl h1]; rfl)) (Us)
 ·cases h
def N5 (i : Nat) (it : CI) (g : CG) (f : CF) (e : CE) (vs : List (Str × Nat)) : CS := ⟨V3 (gN i) (cLc it g f e vs), fun I st => match st with
 | .Assign [.Name y p] (.ListComp elt [⟨tg, iter, ifs, 0⟩] scope q) _ => decide (I.sc.kind = .function) && (decide (I.N[i]? = some y) && (decide (I.sc.names.lookup y = some .local) && (Np I.sc (.Name y p) (.ListComp elt [⟨tg, iter, ifs, 0⟩] scope q) && (cLc it g f e vs).chk I (.ListComp elt [⟨tg, iter, ifs, 0⟩] scope q))))
 | _ => false⟩
theorem QX {i : Nat} {it : CI} {g : CG} {f : CF} {e : CE} {vs : List (Str × Nat)} (hi : GI Kn k it) (hg : GGc Kn k (vs.map (·.2)) g) (hf : GF Kn k f) (he : GE Kn k e) : GS Kn k (N5 i it g f e vs) := by
 intro X W cb b po x h
 dsimp only [N5] at h
 split at h
 ·rename_i y p elt tg iter ifs scope q spos
  simp only [and_eq_true, decide_eq_true_eq] at h
  obtain ⟨z1, z2, z3, z4, h⟩ := h
  dsimp only [cLc] at h
  simp only [and_eq_true] at h
  obtain ⟨h1, h2, h3, h4, h5, h6⟩ := h
  refine PS.imp (ps_setLc (g := rdGc X.K g.run (vs.map (·.2))) (tt := rdT X.K X.mg (fun _ _ _ _ => False) f.run) (te := rdE X.K X.mg (fun _ _ _ _ => False) e.run) b.calm b.nd z2 z3 (V7 rfl z1 z4) (hi X W cb b _ _ h2) (blkOk_by h3) (fun s H C cl fp => hg _ _ _ (b.blk s H scope C cl fp) _ h4)
   (fun s H C cl fp => hf _ _ _ (b.blk s H scope C cl fp) _ h5) (fun s H C cl fp => he _ _ _ (b.blk s H scope C cl fp) _ h6) (Ma h1)) ?_
  rintro σ H Dn ⟨α, Y, Z, q, Z', g0, run, aft⟩
  have z := Us (g := gN i) (a := cLc it g f e vs) (X := X) (W := W) σ H Dn ⟨α, Y, Z, q, Z', g0, run, aft⟩
  refine S7 σ H _ ?_
  obtain ⟨α, Y, Z, r, Z1, c1, c2, c3⟩ := z
  refine ⟨α, Y, Z, r, Z1, c1, c2, ?_⟩
  cases r with
  | error x => exact c3
  | ok d =>
   intro α' v H' k' s' r'
   obtain ⟨α4, Y4, Z4, d4, Y5, Z5, g4, r4, e4, q4⟩ := c3 α' v H' k' s' r'
   cases e4
   exact q4 α4 _ H' (Ext.refl _ _) g4.s (g4.e.set i r4)
 ·cases h
end
end Mi
namespace Mi
open PySem L2 PyProof.Rows
variable [Tb]
theorem Zy (t : Addr) (items : Array Value) (n : Nat) (dct : Option Addr) (sl : Array (Option Value)) :
  Meets (Builtin.«enumerate.__new__» ⟨[.type "enumerate", .ref t], []⟩) (fun _ R s => s.heap.get? t = some { cls := .type "tuple", dict := dct, data := .seq items n, slots := sl } /\
   R (.ok (.ret (.ref (s.heap.push { cls := .type "tuple_iterator", data := .fields #[.ref t, .int 0 0] }).objs.size)))
    { s with heap := (s.heap.push { cls := .type "tuple_iterator", data := .fields #[.ref t, .int 0 0] }).push { cls := .type "enumerate", data := .fields #[.none, .bool false, .ref s.heap.objs.size, rawInt 0, .none, .none] } }) :=
 .of_wp fun prog w A R s hh => by
  obtain ⟨hp, g, d, tk, os⟩ := s
  obtain ⟨ht, hh⟩ := hh
  have hs1 := sub_enumerate
  have hT : Heap.IsTuple (Shared.heap ⟨hp, g, d, tk, os⟩) t items := ⟨_, ht, rfl, n, rfl⟩
  wp_walk using AutoSeq1.wpAny_loadPart' ht
  refine wpAny_stack_any fun st => wpAny_pure ?_
  split
  ·rename_i c _ _ _ _ _
   cases (c == Value.type "enumerate")
   ·wp_walk using AutoSeq1.wpAny_loadPart' ht, wpAny_pyIter_tuple hT
    exact ⟨_, rfl, hh⟩
   ·wp_walk using AutoSeq1.wpAny_loadPart' ht, wpAny_pyIter_tuple hT
    exact ⟨_, rfl, hh⟩
  ·wp_walk using AutoSeq1.wpAny_loadPart' ht, wpAny_pyIter_tuple hT
   exact ⟨_, rfl, hh⟩
section
variable {prog : Program} {w : World} {A : Around} {E : Value -> Shared -> Prop} {s : Shared}
theorem X3 {t : Addr} {items : Array Value} {Q : Value -> Shared -> Prop} (hT : s.heap.IsTuple t items)
  (h : ∀ h', IsEnum h' (s.heap.objs.size + 1) s.heap.objs.size 0 .none -> h'.IsTupleIter s.heap.objs.size t 0 -> h'.objs.size = s.heap.objs.size + 2 ->
   (∀ b o, s.heap.get? b = some o -> h'.get? b = some o) -> Q (.ref (s.heap.objs.size + 1)) { s with heap := h' }) :
  wpAny (model prog w) A (call (.type "enumerate") [.ref t]) Q E s := by
 obtain ⟨⟨c, dct, dt, sl⟩, ht, hc, n, hd⟩ := hT
 replace hc : c = .type "tuple" := hc
 replace hd : dt = .seq items n := hd
 subst hc hd
 refine callType_new F.called_enumerate ∅ (F.typeCall_enumerate_1 _) (F.newCall_enumerate_1 _) (fun obj => F.args_object_init_2 obj _) F.entry_enumerate_new (Zy t items n dct sl) ⟨ht, ?_⟩
 have hz : (s.heap.push { cls := .type "tuple_iterator", data := .fields #[.ref t, .int 0 0] }).objs.size = s.heap.objs.size + 1 := Heap.size_push ..
 show _ /\ _
 rw [hz]
 have he : IsEnum ((s.heap.push { cls := .type "tuple_iterator", data := .fields #[.ref t, .int 0 0] }).push
   { cls := .type "enumerate", data := .fields #[.none, .bool false, .ref s.heap.objs.size, rawInt 0, .none, .none] }) (s.heap.objs.size + 1) s.heap.objs.size 0 .none := by
  have := Heap.get?_push_size (s.heap.push { cls := .type "tuple_iterator", data := .fields #[.ref t, .int 0 0] })
   (o := { cls := .type "enumerate", data := .fields #[.none, .bool false, .ref s.heap.objs.size, rawInt 0, .none, .none] }) rfl
  rw [hz] at this; exact this
 refine ⟨⟨_, he, rfl⟩, h _ he ⟨_, Heap.get?_push_of_some _ (Heap.get?_push_size _ rfl), rfl, rfl⟩ (by rw [Heap.size_push, hz]) fun b o x => Heap.get?_push_of_some _ (Heap.get?_push_of_some _ x)⟩
end
def ItT (K : PySem.W.Frag) (a : Addr) (n : Nat) : It :=
 ⟨fun i H => ∃ (xs : List V) (x : V), SqT K H a xs /\ xs.length = n /\ xs[i]? = some x, fun i H v H' => ∃ T x, v = .ref T /\ H T = none /\ H' = upd H T (.tup [.int (i : Nat), x]) /\ ∀ xs, SqT K H a xs -> xs[i]? = some x, fun i H => ∃ xs : List V, SqT K H a xs /\ xs.length = n /\ xs.length <= i⟩
theorem turn_enT {P : Program} {w : World} {K : PySem.W.Frag} {elts : List Expr} {kk : Nat} {tpos : Pos} (a e it : Addr) (n : Nat) (hai : a ≠ it) (hae : a ≠ e) (hne : e ≠ it) :
  Turn P w K (.Tuple elts kk tpos) (ItT K a n) [e, it] e (fun i h => i <= n /\ (∃ old, IsEnum h e it ((i : Nat) : Int) old) /\ h.IsTupleIter it a i) where
 mem := by simp
 obj := fun i h st b hb => by
  obtain ⟨_, ⟨old, he⟩, ⟨o, ho, hc, hd⟩⟩ := st
  have e' : b = e \/ b = it := by simpa using hb
  rcases e' with z | z
  ·rw [z]; exact ⟨_, he, fun v q => nomatch q⟩
  ·rw [z]; exact ⟨o, ho, fun v q => by rw [hd] at q; cases q⟩
 keep := fun i h h' st k => let ⟨hi, ⟨old, he⟩, ht⟩ := st; ⟨hi, ⟨old, k e (by simp) _ he⟩, ht.at fun o q => k it (by simp) o q⟩
 item := by
  intro X hP hw hK hc i pins s σ H E I hf st hg
  subst hP hw hK
  obtain ⟨hi, ⟨old, he⟩, hit⟩ := st
  obtain ⟨xs, x, hq, hn, hx⟩ := hg
  obtain ⟨its, rv, p, hz⟩ := I.tuple hq
  obtain ⟨u, hu, ru⟩ := rv.get hx
  have hel : e < s.heap.objs.size := Heap.lt_size he
  have hil : it < s.heap.objs.size := by obtain ⟨_, q, _⟩ := hit; exact Heap.lt_size q
  have D := Draws.tuple (prog := X.prog) (w := X.w) (A := X.A.in1) (I.ok.hd hc) it a hai its.toArray
  have hlt : i < its.toArray.size := by
   have := (XqB hu).1
   simpa using this
  refine wpAny_pyNext_enum_itemD D he ⟨hit, p⟩ hlt hne (by simp [hne, Ne.symm hae]) fun y h' tk hy ho hit' hT hsz hk => ?_
  have eu : y = u := by
   have h1 : its[i]? = some y := by simpa using hy
   rw [h1] at hu
   exact Option.some.inj hu
  subst eu
  refine ⟨_, rfl, wpAny_letOwnedTupleGo_enum (s := { s with heap := h', toks := tk + 1 }) ho fun h'' he' sb => ?_⟩
  have hT2 : h''.get? s.heap.objs.size = some { cls := .type "tuple", data := .seq #[.int i tk, y] } := (sb.2 _ (Nat.ne_of_gt hel)).trans hT
  have new : ObjOk X.prog X.w (upd H s.heap.objs.size (.tup [.int (i : Nat), x])) h'' s.heap.objs.size (.tup [.int (i : Nat), x]) :=
   ⟨by show 2 <= sizeLine; decide, [.int i tk, y], .cons ⟨_, rfl⟩ (.cons ru .nil), ⟨_, hT2, rfl, _, rfl⟩⟩
  have I1 : Inv X pins σ (upd H s.heap.objs.size (.tup [.int (i : Nat), x])) { s with heap := h'', toks := tk + 1 } :=
   I.turnedNew (ch := [e, it]) (fun b ob hb q => (sb.2 b (fun z => hb (by simp [z]))).trans (hk b ob (fun z => hb (by simp [z])) (fun z => hb (by simp [z])) q)) hf XqG new
  have hit2 : h''.IsTupleIter it a (i + 1) := hit'.1.at fun o q => (sb.2 it (Ne.symm hne)).trans q
  refine ⟨.ref s.heap.objs.size, _, I1, rfl, ⟨_, x, rfl, I.hok.fresh XqG, rfl, fun ys hy => by rw [I.tuple_inj hy hq]; exact hx⟩, ⟨?_, ⟨y, ?_⟩, hit2⟩, fun b hb => ?_⟩
  ·have := (XqB hx).1
   omega
  ·have e1 : ((i + 1 : Nat) : Int) = (i : Int) + 1 := by omega
   rw [e1]; exact he'
  ·have hb' : b < s.heap.objs.size := by
    have e' : b = e \/ b = it := by simpa using hb
    rcases e' with z | z
    ·rw [z]; exact hel
    ·rw [z]; exact hil
   rw [upd_ne (Nat.ne_of_lt hb')]
   exact (hf b hb).1
 done := by
  intro X hP hw hK hc i pins s σ H E I hf st hg
  subst hP hw hK
  obtain ⟨hi, ⟨old, he⟩, hit⟩ := st
  obtain ⟨xs, hq, hn, hx⟩ := hg
  obtain ⟨its, rv, p, hz⟩ := I.tuple hq
  obtain ⟨f0, f1, f2, f3, f4, f5⟩ := hf it (by simp)
  have hl := rv.length
  have D := Draws.tuple (prog := X.prog) (w := X.w) (A := X.A.in1) (I.ok.hd hc) it a hai its.toArray
  have hz2 : its.toArray.size = i := by
   show its.length = i
   omega
  refine wpAny_pyNext_enum_endD D he ⟨by rw [hz2]; exact hit, p⟩ fun h' eb => ⟨rfl, I.turned (t' := s.toks) (fun b o hb q => eb b o hb q) f0 f1 f3 f4 f5⟩
 self := fun A i s Q E st h => let ⟨_, ⟨_, he⟩, _⟩ := st; wpAny_pyIter_enum he h
def iEnT (K : PySem.W.Frag) (ta : TA) : TI := fun σ H R => ta σ H fun vs H1 => ∃ a xs, vs = [.ref a] /\ ((SqL K H1 a xs /\ R (Ite K a) H1) \/ (SqT K H1 a xs /\ R (ItT K a xs.length) H1))
theorem pi_enT {X : Cx} {e : Expr} {ta : TA} {p pos tpos : Pos} {elts : List Expr} {kk : Nat} (hg : Gl X "enumerate") (hm : X.mg "enumerate" = none) (ha : PA X [e] ta) (hs : starEach [e] X.env = [(false, eval e X.env)] := by rfl) :
  PI X (.Tuple elts kk tpos) (.Call (.Name "enumerate" p) [e] [] pos) (iEnT X.K ta) := by
 refine ⟨fun pins s σ H R I h => ?_⟩
 refine Call_ (ld_blt I hg hm boot_enumerate (PyProof.Rows.callWith_type1 (thn (ha.run pos pins s σ H _ I h) fun us s1 ⟨vs, H1, I1, r1, q1⟩ => ?_) hs rfl))
 obtain ⟨a, xs, ex, q1⟩ := q1
 subst ex
 have fr : ∀ b ∈ [s1.heap.objs.size + 1, s1.heap.objs.size], FpOk X pins H1 b := fun b hb => by
  have e' : b = s1.heap.objs.size + 1 \/ b = s1.heap.objs.size := by simpa using hb
  have hle : s1.heap.objs.size <= b := by
   rcases e' with z | z
   ·rw [z]; exact Nat.le_add_right _ _
   ·rw [z]; exact XqG
  exact I1.fpOk hle (I1.hok.fresh hle)
 cases r1 with
 | cons r rr =>
  cases rr
  cases r
  rcases q1 with ⟨hq, q⟩ | ⟨hq, q⟩
  ·obtain ⟨its, rv, p', hz⟩ := I1.list hq
   refine call_enumerate_list p'.isList fun h' he hit hsz hk => wpAny_pyIter_enum he ?_
   have I2 : Inv X pins σ H1 { s1 with heap := h' } := I1.kept (t' := s1.toks) hk
   exact ⟨s1.heap.objs.size + 1, [s1.heap.objs.size + 1, s1.heap.objs.size], _, _, H1, rfl, I2, turn_enum a (s1.heap.objs.size + 1) s1.heap.objs.size, ⟨⟨.none, he⟩, hit, Nat.succ_ne_self _⟩, fr, q⟩
  ·obtain ⟨its, rv, p', hz⟩ := I1.tuple hq
   obtain ⟨o1, ho1, _⟩ := id p'
   have hlt := Heap.lt_size ho1
   refine X3 p' fun h' he hit hsz hk => wpAny_pyIter_enum he ?_
   have I2 : Inv X pins σ H1 { s1 with heap := h' } := I1.kept (t' := s1.toks) hk
   exact ⟨s1.heap.objs.size + 1, [s1.heap.objs.size + 1, s1.heap.objs.size], _, _, H1, rfl, I2, turn_enT a (s1.heap.objs.size + 1) s1.heap.objs.size xs.length (Nat.ne_of_lt hlt) (Nat.ne_of_lt (Nat.lt_succ_of_lt hlt)) (Nat.succ_ne_self _), ⟨Nat.zero_le _, ⟨.none, he⟩, hit⟩, fr, q⟩
def wkE (w : Wk) : Wk := ⟨fun i Z => match w.get i Z with
 | some (some d) => some (some (.tup [.int i, d]))
 | some none => some none
 | none => none, w.fuel⟩
def enW : D -> M Wk
 | .tup ds => M.ret (wkE (JQ ds))
 | .fro ds => M.ret (wkE (JQ ds))
 | .ref l => M.bnd (M.lst l) fun ds => M.ret (wkE (wkL l ds.length))
 | _ => M.stop
theorem YG {K : PySem.W.Frag} {α : List Addr} {H : Hp} {Z : List O} {T : Addr} {x y : V} {d e : D} (s : RepS K α H Z) (hT : H T = none) (r1 : Rep K α H d x) (r2 : Rep K α H e y) :
  Ext α H α (upd H T (.tup [x, y])) /\ RepS K α (upd H T (.tup [x, y])) Z /\ Rep K α (upd H T (.tup [x, y])) (.tup [d, e]) (.ref T) :=
 ⟨Ext.lay hT, s.lay hT, T, [x, y], rfl, SqT.of upd_same, (Bh.cons r1 (Bh.cons r2 Bh.nil)).up (Ext.lay hT)⟩
def SOk (K : PySem.W.Frag) (α0 : List Addr) (H0 : Hp) (w : Wk) (Sq : Hp -> List V -> Prop) : Prop := ∀ α H Z i, Ext α0 H0 α H -> RepS K α H Z -> match w.get i Z with
 | some none => ∃ xs, Sq H xs /\ xs.length <= i
 | some (some d) => ∃ xs x, Sq H xs /\ xs[i]? = some x /\ Rep K α H d x
 | none => True
section
variable {K : PySem.W.Frag} {α : List Addr} {H : Hp} {w u : Wk} {p q : Addr} {ds : List D} {vs : List V} {n m : Nat}
theorem SOk.up {α' : List Addr} {H' : Hp} {Sq : Hp -> List V -> Prop} (h : SOk K α H w Sq) (x : Ext α H α' H') : SOk K α' H' w Sq := fun α1 H1 Z i x1 => h α1 H1 Z i (x.trans x1)
theorem s_tup (t : SqT K H p vs) (r : Bh K α H ds vs) : SOk K α H (JQ ds) fun H xs => SqT K H p xs /\ xs.length = vs.length := by
 intro α1 H1 Z i x s
 have t1 := x.sqT t
 have r1 := r.up x
 dsimp only [JQ]
 cases e : ds[i]? with
 | none => exact ⟨vs, ⟨t1, rfl⟩, by rw [r1.len]; exact List.getElem?_eq_none_iff.mp e⟩
 | some d =>
  obtain ⟨v, h1, h2⟩ := r1.get e
  exact ⟨vs, v, ⟨t1, rfl⟩, h1, h2⟩
theorem s_fro (t : FqL K H p vs) (r : Bh K α H ds vs) : SOk K α H (JQ ds) fun H xs => SqL K H p xs := by
 intro α1 H1 Z i x s
 have t1 := (x.fqL t).sq
 have r1 := r.up x
 dsimp only [JQ]
 cases e : ds[i]? with
 | none => exact ⟨vs, t1, by rw [r1.len]; exact List.getElem?_eq_none_iff.mp e⟩
 | some d =>
  obtain ⟨v, h1, h2⟩ := r1.get e
  exact ⟨vs, v, t1, h1, h2⟩
theorem s_lst {l : Nat} (a : α[l]? = some p) : SOk K α H (wkL l n) fun H xs => SqL K H p xs := by
 intro α1 H1 Z i x s
 have a1 := x.pre l p a
 dsimp only [wkL]
 cases e0 : Z[l]? with
 | none => trivial
 | some o =>
  cases o with
  | dct _ => trivial
  | ins _ _ => trivial
  | fzd _ => trivial
  | lst ds =>
   obtain ⟨vs, hp, r1⟩ := s.at_ l _ p e0 a1
   dsimp only
   cases e : ds[i]? with
   | none => exact ⟨vs, SqL.of hp, by rw [r1.len]; exact List.getElem?_eq_none_iff.mp e⟩
   | some d =>
    obtain ⟨v, h1, h2⟩ := r1.get e
    exact ⟨vs, v, SqL.of hp, h1, h2⟩
theorem Zj (j : SOk K α H w fun H xs => SqL K H p xs) : JOk K α H (wkE w) (Ite K p) := by
 intro α1 H1 Z i x s
 have j1 := j α1 H1 Z i x s
 dsimp only [wkE]
 cases e : w.get i Z with
 | none => trivial
 | some o =>
  rw [e] at j1
  cases o with
  | none => exact j1
  | some d =>
   obtain ⟨xs, v, t1, h1, r1⟩ := j1
   refine ⟨⟨xs, v, t1, h1⟩, ?_⟩
   rintro y H' ⟨T, x0, rfl, hT, rfl, hx⟩
   have e0 := hx xs t1
   rw [h1] at e0
   cases e0
   exact YG s hT rfl r1
theorem jok_enT (j : SOk K α H w fun H xs => SqT K H p xs /\ xs.length = n) : JOk K α H (wkE w) (ItT K p n) := by
 intro α1 H1 Z i x s
 have j1 := j α1 H1 Z i x s
 dsimp only [wkE]
 cases e : w.get i Z with
 | none => trivial
 | some o =>
  rw [e] at j1
  cases o with
  | none =>
   obtain ⟨xs, ⟨t1, t2⟩, h⟩ := j1
   exact ⟨xs, t1, t2, h⟩
  | some d =>
   obtain ⟨xs, v, ⟨t1, t2⟩, h1, r1⟩ := j1
   refine ⟨⟨xs, v, t1, t2, h1⟩, ?_⟩
   rintro y H' ⟨T, x0, rfl, hT, rfl, hx⟩
   have e0 := hx xs t1
   rw [h1] at e0
   cases e0
   exact YG s hT rfl r1
end
section
variable {Kn : Kno} {k : Nat}
def iEn (a : CE) : CI := ⟨fun Y => M.bnd (a.run Y) enW, fun I tg e => match tg, e with
 | .Tuple _ _ _, .Call (.Name y _) [x] [] _ => decide (y = ("enumerate" : Str)) && (glo I.sc y && (noStar x && a.chk I x))
 | _, _ => false⟩
theorem g_iEn {a : CE} (hb : Bare Kn "enumerate") (ha : GE Kn k a) : GI Kn k (iEn a) := by
 intro X W cb bs tg e h
 dsimp only [iEn] at h
 split at h
 ·simp only [and_eq_true, decide_eq_true_eq, glo] at h
  obtain ⟨h1, h2, h3, h4⟩ := h
  subst h1
  refine PI.imp (pi_enT h2 (hb _ _ _ _ _ bs.kn) (pa_cons (ha X W cb bs _ h4) pa_nil (Bq h3)) (Bq h3)) ?_
  rintro σ H R ⟨α, Y, Z, q, Z', g, run, aft⟩
  refine Bp g run aft fun d v α1 H1 Z1 g1 k1 r1 run1 aft1 => ?_
  cases d with
  | tup ds =>
   obtain ⟨p, vs, e, t, w⟩ := r1
   subst e
   exact ⟨p, vs, rfl, .inr ⟨t, Av (R := fun α H w J => JOk X.K α H w J) g1.s run1 aft1 (jok_enT (s_tup t w))⟩⟩
  | fro ds =>
   obtain ⟨p, vs, e, t, w⟩ := r1
   subst e
   exact ⟨p, vs, rfl, .inl ⟨t.sq, Av (R := fun α H w J => JOk X.K α H w J) g1.s run1 aft1 (Zj (s_fro t w))⟩⟩
  | ref l =>
   obtain ⟨ds, h1, run1⟩ := Ec run1
   obtain ⟨p1, v1, e1, a1, b1, c1⟩ := Dm g1.s r1 h1
   subst e1
   exact ⟨p1, v1, rfl, .inl ⟨SqL.of b1, Av (R := fun α H w J => JOk X.K α H w J) g1.s run1 aft1 (Zj (s_lst a1))⟩⟩
  | _ => cases run1
 ·cases h
end
end Mi
namespace Mi
open PySem L2 PyProof.Rows
variable [Tb]
def permL {a : Type} (perm : List Nat) (xs : List a) : List a := perm.filterMap (xs[·]?)
def KwB (K : PySem.W.Frag) (fd : FuncData) (ps ks : List Str) (np : Nat) (perm : List Nat) : Prop := ∀ (s : Shared) (us ws : List Value), us.length = np -> ws.length = ks.length -> BindsTo s fd ⟨us, ks.zip ws⟩ (ps.zip (permL perm (us ++ ws)))
def Knk (Kn : Kno) (x : Str) (ps ks : List Str) (np : Nat) (perm : List Nat) (m : List D -> M D) (k : Nat) : Prop := ∀ P w K mg base, Kn P w K mg base ->
 ∃ f fd, FnG P w K mg base k f fd ps (Tv K mg m) /\ mg x = some (.ref f) /\ PySem.W.keepIn K (.ref f) = true /\ KwB K fd ps ks np perm
theorem Knk.up {Kn : Kno} {x : Str} {ps ks : List Str} {np : Nat} {perm : List Nat} {m : List D -> M D} {j k : Nat} (h : Knk Kn x ps ks np perm m j) (hj : j <= k) : Knk Kn x ps ks np perm m k := fun P w K mg base q => by
 obtain ⟨f, fd, F, r⟩ := h P w K mg base q
 exact ⟨f, fd, F.up hj, r⟩
structure CK where
 run : Env -> M (List D)
 chk : Inf -> List Keyword -> Bool
section
variable {Kn : Kno} {k : Nat}
end
def RN : Expr -> Bool
 | .Call (.Name _ _) [] [] _ => false
 | _ => true
theorem YB {o : Expr} {attr : Str} {env : PySem.Env} (h : RN o = true) : attributeBase o attr env (eval o env) = eval o env := by
 cases o with
 | Call f a k p =>
  cases f with
  | Name x q =>
   cases a with
   | cons _ _ => rfl
   | nil =>
    cases k with
    | cons _ _ => rfl
    | nil => cases h
  | _ => rfl
 | _ => rfl
def isT (T : String) : D -> M Unit
 | .str _ => if T = "str" then M.ret () else M.stop
 | .ref l => fun Z => match Z[l]? with
  | some (.lst _) => if T = "list" then some (.ok (), Z) else none
  | some (.dct _) => if T = "dict" then some (.ok (), Z) else none
  | _ => none
 | .fro _ => if T = "list" then M.ret () else M.stop
 | _ => M.stop
theorem isT_ty {T : String} {K : PySem.W.Frag} {α : List Addr} {H : Hp} {Z : List O} {d : D} {v : V} {p : Except Ex Unit × List O} (s : RepS K α H Z) (r : Rep K α H d v) (run : isT T d Z = some p) : tyV K T v H /\ p = (.ok (), Z) := by
 cases d with
 | str x =>
  dsimp only [isT] at run
  split at run
  ·rename_i ht
   cases (show v = .str _ from r)
   cases run
   exact ⟨ht, rfl⟩
  ·cases run
 | fro ds =>
  dsimp only [isT] at run
  split at run
  ·rename_i ht
   obtain ⟨a, vs, e, t, w⟩ := r
   subst e
   cases run
   exact ⟨.inl ⟨ht, vs, t.sq⟩, rfl⟩
  ·cases run
 | ref l =>
  dsimp only [isT] at run
  cases h : Z[l]? with
  | none => rw [h] at run; cases run
  | some o =>
   rw [h] at run
   obtain ⟨a, e, ha⟩ := r
   subst e
   have ho := s.at_ l o a h ha
   cases o with
   | ins _ _ => cases run
   | fzd _ => cases run
   | lst ds =>
    dsimp only at run
    split at run
    ·rename_i ht
     obtain ⟨vs, hp, _⟩ := ho
     cases run
     exact ⟨.inl ⟨ht, vs, SqL.of hp⟩, rfl⟩
    ·cases run
   | dct ds =>
    dsimp only at run
    split at run
    ·rename_i ht
     obtain ⟨ws, hp, _⟩ := ho
     cases run
     exact ⟨.inr (.inr (.inl ⟨ht, .inl ⟨ws, hp⟩⟩)), rfl⟩
    ·cases run
 | _ => cases run
def MtD (K : PySem.W.Frag) (r : V -> List V -> Hp -> VK -> Prop) (f : D -> List D -> M D) : Prop := ∀ (mg : Str -> Option Value) (E : XK) (α : List Addr) (H : Hp) (Z Z' : List O) (d : D) (x : V) (ds : List D) (xs : List V) (q : Except Ex D) (Q : VK),
 RepS K α H Z -> Rep K α H d x -> Bh K α H ds xs -> f d ds Z = some (q, Z') -> Aft (Rep K) K mg E α H q Z' Q -> r x xs H Q
def OkMt (id : String) (f : D -> List D -> M D) : Prop := ∀ X : Cx, Here X -> ∃ r, MtR X id r /\ MtD X.K r f
structure MtK (T name id : String) : Prop where
 pa : PlainAttrs T
 slot : Slot T name id
 ty : typeOf (.builtin id) = pure (.type "method_descriptor")
section
variable {Kn : Kno} {k : Nat}
def cM0 (T name : String) (f : D -> List D -> M D) (o : CE) : CE := ⟨fun Y => M.bnd (o.run Y) fun x => M.bnd (isT T x) fun _ => f x [], fun I e => match e with
 | .Call (.Attribute o1 n apos) [] [] cpos => decide (n = (name : Str)) && (RN o1 && (apos.endLine == cpos.line && o.chk I o1))
 | _ => false⟩
def cM (T name : String) (f : D -> List D -> M D) (o : CE) (a : CA) : CE := ⟨fun Y => M.bnd (o.run Y) fun x => M.bnd (isT T x) fun _ => M.bnd (a.run Y) fun ds => f x ds, fun I e => match e with
 | .Call (.Attribute o1 n apos) (e1 :: es) [] cpos => decide (n = (name : Str)) && (RN o1 && (apos.endLine == cpos.line && (decide ((e1 :: es).length < 30) && ((e1 :: es).all noStar && (o.chk I o1 && a.chk I (e1 :: es))))))
 | _ => false⟩
theorem U0 {pos : Pos} {env : PySem.Env} : ∀ {es : List Expr}, es.all noStar = true -> (backTo pos (starEach es env)).all (fun x => !x.1) = true
 | [], _ => rfl
 | e :: es, h => by
  rw [all_cons, and_eq_true] at h
  rw [Bq h.1]
  show (true && (backTo pos (starEach es env)).all (fun x => !x.1)) = true
  rw [U0 h.2]; rfl
theorem g_m {T name id : String} {f : D -> List D -> M D} {o : CE} {a : CA} (hk : MtK T name id) (hf : OkMt id f) (ho : GE Kn k o) (ha : GA Kn k a) : GE Kn k (cM T name f o a) := by
 intro X W cb bs e h
 dsimp only [cM] at h
 split at h
 ·rename_i o1 n apos e1 es cpos
  simp only [and_eq_true, decide_eq_true_eq] at h
  obtain ⟨h1, h2, h3, h6, h7, h4, h5⟩ := h
  subst h1
  obtain ⟨r, c1, c2⟩ := hf X bs.here
  have h7' := h7
  rw [all_cons, and_eq_true] at h7'
  refine PE.imp (pe_bm hk.pa hk.slot hk.ty c1 (ho X W cb bs _ h4) (ha X W cb bs _ h5) (YB h2) (by rw [U0 h7]; exact decide_eq_true h6) h3 (Bq h7'.1) (star_any h7'.2)) ?_
  rintro σ H Q ⟨α, Y, Z, q, Z', g, run, aft⟩
  refine Bp g run aft fun d v α1 H1 Z1 g1 k1 r1 run1 aft1 => ?_
  unfold M.bnd at run1
  cases e1 : isT T d Z1 with
  | none => rw [e1] at run1; cases run1
  | some p =>
   obtain ⟨ty, rfl⟩ := isT_ty g1.s r1 e1
   rw [e1] at run1
   refine ⟨ty, ?_⟩
   refine Bp (f := fun ds => f d ds) g1 run1 aft1 fun ds vs α2 H2 Z2 g2 k2 r2 run2 aft2 => ?_
   exact c2 _ _ _ _ _ _ _ _ _ _ _ _ g2.s (r1.up k2) r2 run2 aft2
 ·cases h
end
def appD : D -> List D -> M D := fun x ds Z => match x, ds with
 | .ref l, [y] => match Z[l]? with
  | some (.lst xs) => if xs.length < sizeLine then some (.ok .non, Z.set l (.lst (xs ++ [y]))) else none
  | _ => none
 | _, _ => none
theorem FP : OkMt "list.append" appD := by
 intro X _
 refine ⟨rAppend, mt_append, ?_⟩
 intro mg E α H Z Z' d x ds xs q Q s rx r run aft
 unfold appD at run
 split at run
 ·rename_i l y
  cases h : Z[l]? with
  | none => rw [h] at run; cases run
  | some o =>
   rw [h] at run
   cases o with
   | dct _ => cases run
   | ins _ _ => cases run
   | fzd _ => cases run
   | lst ys =>
    dsimp only at run
    split at run
    ·rename_i hz
     obtain ⟨v, vr, e, r1, r2⟩ := r
     cases (show vr = [] from r2)
     obtain ⟨p1, v1, e1, a1, b1, c1⟩ := Dm s rx h
     subst e e1
     refine ⟨p1, v1, v, rfl, rfl, b1, by rw [c1.len]; exact hz, ?_⟩
     cases run
     have x3 : Ext α H α (upd H p1 (.lst (v1 ++ [v]))) := Ext.put a1 b1 fun z => z
     exact aft α _ _ x3 (s.put (o := .lst (ys ++ [y])) a1 ⟨_, upd_same, (c1.app (Bh.cons r1 Bh.nil)).up x3⟩ x3) rfl
    ·cases run
 ·cases run
def popD : D -> List D -> M D := fun x ds Z => match x, ds with
 | .ref l, [] => match Z[l]? with
  | some (.lst xs) => match xs[xs.length - 1]? with
   | some y => some (.ok y, Z.set l (.lst xs.dropLast))
   | none => none
  | _ => none
 | _, _ => none
theorem Bh.dropLast {K : PySem.W.Frag} {α : List Addr} {H : Hp} : ∀ {ds : List D} {vs : List V}, Bh K α H ds vs -> Bh K α H ds.dropLast vs.dropLast
 | [], _, r => by cases (show _ = [] from r); rfl
 | [d], _, r => by
  obtain ⟨v, vr, e, r1, r2⟩ := r
  cases (show vr = [] from r2)
  subst e
  rfl
 | d :: e :: r, _, h => by
  obtain ⟨v, vr, e1, r1, r2⟩ := h
  subst e1
  obtain ⟨v2, vr2, e2, r3, r4⟩ := r2
  subst e2
  exact Bh.cons r1 (Bh.dropLast (ds := e :: r) (Bh.cons r3 r4))
theorem Cz : MtK "list" "append" "list.append" := ⟨F.plainAttrs_list, F.slot_list_append, F.type_list_append⟩
theorem k_pop : MtK "list" "pop" "list.pop" := ⟨F.plainAttrs_list, F.slot_list_pop, F.type_list_pop⟩
end Mi
namespace Mi
open PySem L2 PyProof.Rows
variable [Tb]
section
variable {prog : Program} {w : World} {A : Around} {E : Value -> Shared -> Prop} {s : Shared}
end
section
variable {Kn : Kno} {k : Nat}
def revD : D -> M D
 | .tup ds => M.ret (.tup ds.reverse)
 | .fro ds => M.new (.lst ds.reverse)
 | .ref l => M.bnd (M.lst l) fun ds => M.new (.lst ds.reverse)
 | _ => M.stop
theorem Bh.reverse {K : PySem.W.Frag} {α : List Addr} {H : Hp} : ∀ {ds : List D} {vs : List V}, Bh K α H ds vs -> Bh K α H ds.reverse vs.reverse
 | [], _, r => by cases (show _ = [] from r); rfl
 | d :: ds, _, r => by
  obtain ⟨v, vr, e, r1, r2⟩ := r
  subst e
  rw [List.reverse_cons, List.reverse_cons]
  exact (Bh.reverse r2).app (Bh.cons r1 Bh.nil)
def cRev (a : CE) : CE := ⟨fun Y => M.bnd (a.run Y) revD, fun I e => match e with
 | .Subscript x (.Slice none none (some (.UnaryOp .USub (.Constant (.int 1) _ _) _)) _) _ => a.chk I x
 | _ => false⟩
end
def maxD : List D -> M D
 | [.int i, .int j] => M.ret (.int (if j > i then j else i))
 | _ => M.stop
def minD : List D -> M D
 | [.int i, .int j] => M.ret (.int (if j < i then j else i))
 | _ => M.stop
theorem ok_min : GZ (.builtin "min") minD := by
 intro X hx
 refine ⟨_, call_min2 hx.calm, ?_⟩
 intro mg E α H Z Z' ds xs q Q s r run aft
 unfold minD at run
 split at run
 ·obtain ⟨v, vr, e, r1, r2⟩ := r
  obtain ⟨v2, vr2, e2, r3, r4⟩ := r2
  cases (show vr2 = [] from r4)
  cases (show v = .int _ from r1)
  cases (show v2 = .int _ from r3)
  subst e2
  exact ⟨_, _, e, Av s run aft rfl⟩
 ·cases run
def Zq7 : List D -> Option (List Bool)
 | [] => some []
 | .bl b :: r => (Zq7 r).map (b :: ·)
 | _ => none
def Zw : D -> Option V
 | .non => some .non
 | .bl b => some (.bl b)
 | .int i => some (.int i)
 | .str x => some (.str x)
 | _ => none
theorem Kz {K : PySem.W.Frag} {α : List Addr} {H : Hp} {d : D} {v u : V} (h : Zw d = some u) (r : Rep K α H d v) : v = u /\ flatV u = true := by
 cases d with
 | non => cases h; exact ⟨r, rfl⟩
 | bl b => cases h; exact ⟨r, rfl⟩
 | int i => cases h; exact ⟨r, rfl⟩
 | str x => cases h; exact ⟨r, rfl⟩
 | _ => cases h
def Kc : List D -> Option (List V)
 | [] => some []
 | d :: r => match Zw d, Kc r with
  | some a, some b => some (a :: b)
  | _, _ => none
theorem Td {K : PySem.W.Frag} {α : List Addr} {H : Hp} : ∀ {ds : List D} {vs us : List V}, Kc ds = some us -> Bh K α H ds vs -> vs = us /\ us.all flatV = true
 | [], _, _, h, r => by cases h; exact ⟨r, rfl⟩
 | d :: ds, _, _, h, r => by
  unfold Kc at h
  cases e1 : Zw d with
  | none => rw [e1] at h; cases h
  | some a =>
   cases e2 : Kc ds with
   | none => rw [e1, e2] at h; cases h
   | some b =>
    rw [e1, e2] at h
    cases h
    obtain ⟨v, vr, e, r1, r2⟩ := r
    subst e
    obtain ⟨rfl, f1⟩ := Kz e1 r1
    obtain ⟨rfl, f2⟩ := Td e2 r2
    exact ⟨rfl, by rw [all_cons, f1, f2]; rfl⟩
def Zo (neg : Bool) (d : D) (es : List D) : M D := match Zw d, Kc es with
 | some x, some xs => M.ret (.bl (if neg then !inV x xs else inV x xs))
 | _, _ => M.stop
def inD (neg : Bool) : D -> D -> M D := fun d e => match d, e with
 | .str x, .str z => match x.cps.toList with
  | [c] => M.ret (.bl (if neg then !decide (c ∈ z.cps.toList) else decide (c ∈ z.cps.toList)))
  | _ => M.stop
 | d, .tup es => Zo neg d es
 | d, .fro es => Zo neg d es
 | d, .ref l => fun Z => match Z[l]? with
  | some (.lst es) => Zo neg d es Z
  | some (.dct kvs) => match keyD d with
   | some k => M.ret (.bl (if neg then !(valD kvs k).isSome else (valD kvs k).isSome)) Z
   | none => none
  | some (.fzd kvs) => match keyD d with
   | some k => M.ret (.bl (if neg then !(valD kvs k).isSome else (valD kvs k).isSome)) Z
   | none => none
  | _ => none
 | _, _ => M.stop
def rInDK (neg : Bool) : R2 := fun x y H Q => ∃ a o, y = .ref a /\ DGet H a x o /\ Q (.bl (if neg then !o.isSome else o.isSome)) H
theorem op_inDK {X : Cx} (hu : X.A.units + 1 < cLine) : OpR X (compareOp .In) (rInDK false) := by
 intro pins s σ H x y v u Q I rx ry h
 obtain ⟨a, o, rfl, g, q⟩ := h
 obtain rfl : u = Value.ref a := ry
 exact d_in hu I g rx fun s' I' => ⟨.bl o.isSome, H, I', rfl, q⟩
theorem Wr {X : Cx} (hu : X.A.units + 1 < cLine) : OpR X (compareOp .NotIn) (rInDK true) := by
 intro pins s σ H x y v u Q I rx ry h
 obtain ⟨a, o, rfl, g, q⟩ := h
 obtain rfl : u = Value.ref a := ry
 exact d_notIn hu I g rx fun s' I' => ⟨.bl (!o.isSome), H, I', rfl, q⟩
theorem Zm {K : PySem.W.Frag} {neg : Bool} : OpD K (fun x y H Q => (rIn K neg x y H Q \/ rInDK neg x y H Q) \/ ∃ (c : Nat) (z : Str), x = .str ⟨#[c]⟩ /\ y = .str z /\ Q (.bl (if neg then !decide (c ∈ z.cps.toList) else decide (c ∈ z.cps.toList))) H) (inD neg) := by
 intro mg E α H Z Z' d1 d2 x y q Q s r1 r2 run aft
 have sq : ∀ {es : List D} {p : Addr} {vs : List V}, y = .ref p -> (SqL K H p vs \/ SqT K H p vs) -> Bh K α H es vs -> Zo neg d1 es Z = some (q, Z') -> rIn K neg x y H Q := by
  intro es p vs e t w run
  unfold Zo at run
  cases e1 : Zw d1 with
  | none => rw [e1] at run; cases run
  | some a =>
   cases e2 : Kc es with
   | none => rw [e1, e2] at run; cases run
   | some b =>
    rw [e1, e2] at run
    obtain ⟨rfl, f1⟩ := Kz e1 r1
    obtain ⟨rfl, f2⟩ := Td e2 w
    exact ⟨p, vs, e, t, f1, f2, Av s run aft rfl⟩
 cases d2 with
 | tup es =>
  obtain ⟨p, vs, e, t, w⟩ := r2
  exact .inl (.inl (sq e (.inr t) w (by cases d1 <;> exact run)))
 | fro es =>
  obtain ⟨p, vs, e, t, w⟩ := r2
  exact .inl (.inl (sq e (.inl t.sq) w (by cases d1 <;> exact run)))
 | ref l =>
  have run : (match Z[l]? with
    | some (.lst es) => Zo neg d1 es Z
    | some (.dct kvs) => match keyD d1 with
     | some k => M.ret (.bl (if neg then !(valD kvs k).isSome else (valD kvs k).isSome)) Z
     | none => none
    | some (.fzd kvs) => match keyD d1 with
     | some k => M.ret (.bl (if neg then !(valD kvs k).isSome else (valD kvs k).isSome)) Z
     | none => none
    | _ => none) = some (q, Z') := by cases d1 <;> exact run
  cases h1 : Z[l]? with
  | none => rw [h1] at run; cases run
  | some o =>
   rw [h1] at run
   cases o with
   | ins _ _ => cases run
   | fzd kvs =>
    dsimp only at run
    obtain ⟨p1, e1, a1⟩ := r2
    obtain ⟨ob, ws, b1, c1⟩ := s.at_ l _ p1 h1 a1
    cases hk : keyD d1 with
    | none => rw [hk] at run; cases run
    | some k =>
     rw [hk] at run
     have ev := Ud r1 hk
     have hs : (valV ws k).isSome = (valD kvs k).isSome := by
      cases hv : valD kvs k with
      | none => rw [c1.none_ hv]; rfl
      | some d => obtain ⟨v, h2, _⟩ := c1.some_ hv; rw [h2]; rfl
     refine .inl (.inr ⟨p1, valV ws k, e1, .inl ⟨ws, k, .inr ⟨ob, b1⟩, ev, rfl⟩, ?_⟩)
     rw [hs]
     exact Av s run aft rfl
   | lst es =>
    obtain ⟨p1, v1, e1, a1, b1, c1⟩ := Dm s r2 h1
    exact .inl (.inl (sq e1 (.inl (SqL.of b1)) c1 run))
   | dct kvs =>
    dsimp only at run
    obtain ⟨p1, ws, e1, a1, b1, c1⟩ := Zq0 s r2 h1
    cases hk : keyD d1 with
    | none => rw [hk] at run; cases run
    | some k =>
     rw [hk] at run
     have ev := Ud r1 hk
     have hs : (valV ws k).isSome = (valD kvs k).isSome := by
      cases hv : valD kvs k with
      | none => rw [c1.none_ hv]; rfl
      | some d => obtain ⟨v, h2, _⟩ := c1.some_ hv; rw [h2]; rfl
     refine .inl (.inr ⟨p1, valV ws k, e1, .inl ⟨ws, k, .inl b1, ev, rfl⟩, ?_⟩)
     rw [hs]
     exact Av s run aft rfl
 | str z =>
  cases d1 with
  | str x1 =>
   dsimp only [inD] at run
   generalize hc : x1.cps.toList = l at run
   cases l with
   | nil => cases run
   | cons c r =>
    cases r with
    | cons _ _ => cases run
    | nil =>
     refine .inr ⟨c, z, ?_, r2, Av s run aft rfl⟩
     rw [show x = .str x1 from r1]
     obtain ⟨⟨cs⟩⟩ := x1
     have : cs = [c] := by simpa using hc
     rw [this]
  | _ => cases run
 | _ => cases d1 <;> cases run
theorem YT : Kh .In (inD false) := fun X h => ⟨_, OpR.or (OpR.or op_in_seq (op_inDK (hu0 h))) op_in_sign, Zm⟩
theorem ok_notin : Kh .NotIn (inD true) := fun X h => ⟨_, OpR.or (OpR.or op_notIn_seq (Wr (hu0 h))) op_notIn_sign, Zm⟩
end Mi
namespace Mi
open PySem L2 PyProof.Rows
variable [Tb]
def iAny (K : PySem.W.Frag) (tl : TE) : TI := fun σ H R => tl σ H fun x H1 => (∃ a, x = .ref a /\ (((∃ xs, SqL K H1 a xs) /\ R (Itl K a) H1) \/ ((∃ xs, SqT K H1 a xs) /\ R (Itt K a) H1))) \/ ∃ z, x = .str z /\ R (Its z) H1
theorem pi_any {X : Cx} {tg l : Expr} {tl : TE} (hl : PE X l tl) : PI X tg l (iAny X.K tl) := by
 refine ⟨fun pins s σ H R I h => ?_⟩
 refine thn (hl.run pins s σ H _ I h) fun v s1 ⟨x, H1, I1, r1, q1⟩ => ?_
 rcases q1 with ⟨a, e, q1⟩ | ⟨z, e, q⟩
 ·subst e
  cases r1
  have fr : ∀ b ∈ [s1.heap.objs.size], FpOk X pins H1 b := fun b hb => by
   have e : b = s1.heap.objs.size := by simpa using hb
   subst e
   exact I1.fpOk XqG (I1.hok.fresh XqG)
  rcases q1 with ⟨⟨xs, hq⟩, q⟩ | ⟨⟨xs, hq⟩, q⟩
  ·obtain ⟨its, rv, p, hz⟩ := I1.list hq
   refine wpAny_pyIter_list p.isList ?_
   exact ⟨s1.heap.objs.size, [s1.heap.objs.size], _, _, H1, rfl, I1.kept (t' := s1.toks) fun b o e => Heap.get?_push_of_some _ e, turn_list a _, ⟨_, Heap.get?_push_size _ rfl, rfl, rfl⟩, fr, q⟩
  ·obtain ⟨its, rv, p, hz⟩ := I1.tuple hq
   refine wpAny_pyIter_tuple (show s1.heap.IsTuple a its.toArray from p) ?_
   exact ⟨s1.heap.objs.size, [s1.heap.objs.size], _, _, H1, rfl, I1.kept (t' := s1.toks) fun b o e => Heap.get?_push_of_some _ e, turn_tuple a _, ⟨_, Heap.get?_push_size _ rfl, rfl, rfl⟩, fr, q⟩
 ·subst e
  obtain ⟨t, rfl⟩ := r1
  cases ha : z.cps.all (· < 128)
  ·exact wpAny_pyIter_wide ha (pi_one (tk := s1.toks) I1 _ (turn_str _ z t "str_iterator" (.inr rfl)) ⟨_, Heap.get?_push_size _ rfl, rfl, rfl⟩ q)
  ·exact wpAny_pyIter_ascii ha (pi_one (tk := s1.toks) I1 _ (turn_str _ z t "str_ascii_iterator" (.inl rfl)) ⟨_, Heap.get?_push_size _ rfl, rfl, rfl⟩ q)
def wkS (z : Str) : Wk := ⟨fun i _ => some (z.cps[i]?.map fun c => .str ⟨#[c]⟩), z.cps.size⟩
def anyW : D -> M Wk
 | .tup ds => M.ret (JQ ds)
 | .fro ds => M.ret (JQ ds)
 | .ref l => M.bnd (M.lst l) fun ds => M.ret (wkL l ds.length)
 | .str z => M.ret (wkS z)
 | _ => M.stop
theorem jok_str {K : PySem.W.Frag} {α : List Addr} {H : Hp} {z : Str} : JOk K α H (wkS z) (Its z) := by
 intro α1 H1 Z i x s
 dsimp only [wkS]
 cases e : z.cps[i]? with
 | none => exact Array.getElem?_eq_none_iff.mp e
 | some c =>
  refine ⟨(Array.getElem?_eq_some_iff.mp e).1, ?_⟩
  rintro v H' ⟨rfl, c', hc, rfl⟩
  rw [e] at hc
  cases hc
  exact ⟨Ext.refl _ _, s, rfl⟩
section
variable {Kn : Kno} {k : Nat}
def iA (a : CE) : CI := ⟨fun Y => M.bnd (a.run Y) anyW, fun I _ e => a.chk I e⟩
theorem Vm {a : CE} (ha : GE Kn k a) : GI Kn k (iA a) := by
 intro X W cb bs tg e h
 refine PI.imp (pi_any (ha X W cb bs e h)) ?_
 rintro σ H R ⟨α, Y, Z, q, Z', g, run, aft⟩
 refine Bp g run aft fun d v α1 H1 Z1 g1 k1 r1 run1 aft1 => ?_
 cases d with
 | tup ds =>
  obtain ⟨p, vs, e, t, w⟩ := r1
  exact .inl ⟨p, e, .inr ⟨⟨vs, t⟩, Av (R := fun α H w J => JOk X.K α H w J) g1.s run1 aft1 (jok_tup t w)⟩⟩
 | fro ds =>
  obtain ⟨p, vs, e, t, w⟩ := r1
  exact .inl ⟨p, e, .inl ⟨⟨vs, t.sq⟩, Av (R := fun α H w J => JOk X.K α H w J) g1.s run1 aft1 (jok_fro t w)⟩⟩
 | ref l =>
  obtain ⟨ds, h1, run1⟩ := Ec run1
  obtain ⟨p1, v1, e1, a1, b1, c1⟩ := Dm g1.s r1 h1
  exact .inl ⟨p1, e1, .inl ⟨⟨v1, SqL.of b1⟩, Av (R := fun α H w J => JOk X.K α H w J) g1.s run1 aft1 (jok_lst a1)⟩⟩
 | str z => exact .inr ⟨z, r1, Av (R := fun α H w J => JOk X.K α H w J) g1.s run1 aft1 jok_str⟩
 | _ => cases run1
end
def CR (K : PySem.W.Frag) (d : D) (u : Value) : Prop := ∃ v : V, RelV v u /\ ∀ α H, Rep K α H d v
def CRs (K : PySem.W.Frag) (ds : List D) (us : List Value) : Prop := ∃ vs : List V, Vals vs us /\ ∀ α H, Bh K α H ds vs
section
variable {K : PySem.W.Frag}
theorem cr_int {i : Int} {t : Tok} : CR K (.int i) (.int i t) := ⟨.int i, ⟨t, rfl⟩, fun _ _ => rfl⟩
theorem cr_str {x : Str} {t : Tok} : CR K (.str x) (.str x t) := ⟨.str x, ⟨t, rfl⟩, fun _ _ => rfl⟩
theorem cr_bl {b : Bool} : CR K (.bl b) (.bool b) := ⟨.bl b, rfl, fun _ _ => rfl⟩
theorem cr_non : CR K .non .none := ⟨.non, rfl, fun _ _ => rfl⟩
theorem crs_nil : CRs K [] [] := ⟨[], .nil, fun _ _ => rfl⟩
theorem crs_cons {d : D} {u : Value} {ds : List D} {us : List Value} (h : CR K d u) (hs : CRs K ds us) : CRs K (d :: ds) (u :: us) := by
 obtain ⟨v, r, q⟩ := h
 obtain ⟨vs, rs, qs⟩ := hs
 exact ⟨v :: vs, .cons r rs, fun α H => Bh.cons (q α H) (qs α H)⟩
theorem cr_tup {p : Addr} {od : Option Addr} {its : Array Value} {n : Nat} {sl : Array (Option Value)} {ds : List D} (l : K.lookup p = some ⟨.type "tuple", od, .seq its n, sl⟩) (hz : its.size <= 1000) (h : CRs K ds its.toList) : CR K (.tup ds) (.ref p) := by
 obtain ⟨vs, r, q⟩ := h
 exact ⟨.ref p, rfl, fun α H => ⟨p, vs, rfl, .inr ⟨_, its, n, l, rfl, rfl, Nat.le_trans hz ∅, r⟩, q α H⟩⟩
end
theorem Zk {Kn : Kno} {x : Str} {d : D} (h : ∀ P w K mg base, Kn P w K mg base -> ∃ u, mg x = some u /\ CR K d u) : Uu Kn x d := fun P w K mg base hk => by
 obtain ⟨u, hm, v, r, q⟩ := h P w K mg base hk
 exact ⟨v, u, hm, r, q⟩
end Mi
namespace Mi
open PySem L2 PyProof.Rows
variable [Tb]
def sNever : CS := ⟨fun _ _ => none, fun _ _ => true⟩
theorem g_sNever {Kn : Kno} {k : Nat} : GS Kn k sNever := by
 intro X W cb bs po e h
 refine ⟨fun pins s σ H Q I h => ?_⟩
 obtain ⟨α, Y, Z, r, Z', g, run, aft⟩ := h
 cases run
def intTx : List D -> M D
 | [.int i] => M.ret (.int i)
 | [.bl b] => M.ret (.int (if b then 1 else 0))
 | [.str z] => match PySem.intText? z with
  | some n => if z.length <= 640 then M.ret (.int n) else M.stop
  | none => M.stop
 | _ => M.stop
structure CJ where
 run : Env -> Str -> M Str
 chk : Inf -> List Expr -> Bool
section
variable {Kn : Kno} {k : Nat}
end
def names3 (I : Inf) (i j l : Nat) (x y z : Expr) : Bool := match x, y, z with
 | .Name a p, .Name b q, .Name c r => decide (I.N[i]? = some a) && (decide (I.N[j]? = some b) && (decide (I.N[l]? = some c) && (decide (I.sc.names.lookup a = some .local) && (decide (I.sc.names.lookup b = some .local) && (decide (I.sc.names.lookup c = some .local) && (p.line == q.line && (p.line == r.line && (!(a == b) && (!(a == c) && !(b == c)))))))))) 
 | _, _, _ => false
def Yu (i j l : Nat) (a b c : CE) : CS := ⟨fun Y => Ms.of (M.bnd (a.run Y) fun x => M.bnd (b.run Y) fun y => M.bnd (c.run Y) fun z => M.ret (x, y, z)) Y fun (p : D × D × D) Z => some (.nx (((Y.set i (some p.1)).set j (some p.2.1)).set l (some p.2.2)), Z), fun I st => match st with
 | .Assign [.Tuple [t1, t2, t3] _ _] (.Tuple [e1, e2, e3] _ _) _ => decide (I.sc.kind = .function) && (!decide (i = j) && (!decide (i = l) && (!decide (j = l) && (names3 I i j l t1 t2 t3 && (Fe [e1, e2, e3] && (a.chk I e1 && (b.chk I e2 && c.chk I e3)))))))
 | _ => false⟩
theorem swap3 {x y z : Str} {px py pz pt pt2 : Pos} {kt k2 : Nat} {e1 e2 e3 : Expr} {env : PySem.Env} (hk : env.scope.kind = .function) (hx : env.scope.names.lookup x = some .local) (hy : env.scope.names.lookup y = some .local) (hzl : env.scope.names.lookup z = some .local)
  (hl : (px.line == py.line) = true) (hl2 : (px.line == pz.line) = true) (h1 : (x == y) = false) (h2 : (x == z) = false) (h3 : (y == z) = false) (hf : Fe [e1, e2, e3] = true) :
  swappedStores [.Tuple [.Name x px, .Name y py, .Name z pz] kt pt] (.Tuple [e1, e2, e3] k2 pt2) env = pure (some [x, y, z]) := by
 unfold Fe at hf
 simp only [and_eq_true, not_eq_true'] at hf
 have kx : env.kindOf x = some .local := hx
 have ky : env.kindOf y = some .local := hy
 have kz : env.kindOf z = some .local := hzl
 have hl' : px.line = py.line := by simpa using hl
 have hl2' : px.line = pz.line := by simpa using hl2
 have n1 : ¬ y = x := fun z => by rw [z] at h1; simp at h1
 have n2 : ¬ z = x := fun z => by rw [z] at h2; simp at h2
 have n3 : ¬ z = y := fun z => by rw [z] at h3; simp at h3
 have v1 : noStar e1 = true /\ noStar e2 = true /\ noStar e3 = true := by simpa using hf.1
 unfold swappedStores
 have hl3 : pz.line = py.line := hl2'.symm.trans hl'
 have m1 : ¬ x = y := fun e => n1 e.symm
 have m2 : ¬ x = z := fun e => n2 e.symm
 have m3 : ¬ y = z := fun e => n3 e.symm
 simp [Ra hk, kx, ky, kz, hf.2.1, hf.2.2, hl', hl3, n1, n2, n3, m1, m2, m3, List.eraseDups_cons, Expr.pos]
 intro q
 rcases q with q | q | q
 ·exact (YX q v1.1).elim
 ·exact (YX q v1.2.1).elim
 ·exact (YX q v1.2.2).elim
theorem g_sPar3 {Kn : Kno} {k : Nat} {i j l : Nat} {a b c : CE} (ha : GE Kn k a) (hb : GE Kn k b) (hc : GE Kn k c) : GS Kn k (Yu i j l a b c) := by
 intro X W cb bs po e h
 dsimp only [Yu] at h
 split at h
 ·rename_i t1 t2 t3 k1 p1 e1 e2 e3 k2 p2 pos
  simp only [and_eq_true, decide_eq_true_eq, not_eq_true', decide_eq_false_iff_not] at h
  obtain ⟨hk, hij, hil, hjl, hn, hf, c1, c2, c3⟩ := h
  unfold names3 at hn
  split at hn
  ·simp only [and_eq_true, decide_eq_true_eq, not_eq_true'] at hn
   obtain ⟨n1, n2, n3, n4, n5, n6, n7, n8, n9, n10, n11⟩ := hn
   have hs : [e1, e2, e3].all noStar = true := by
    unfold Fe at hf
    rw [and_eq_true] at hf
    exact hf.1
   simp only [all_cons, List.all_nil, Bool.and_true, and_eq_true] at hs
   refine PS.imp (ps_par3 bs.calm bs.nd n1 n2 n3 hij hil hjl n4 n5 n6 (pa_cons (ha X W cb bs _ c1) (pa_cons (hb X W cb bs _ c2) (pa_cons (hc X W cb bs _ c3) pa_nil (Bq hs.2.2)) (Bq hs.2.1)) (Bq hs.1)) (swap3 hk n4 n5 n6 n7 n8 n9 n10 n11 hf)) ?_
   rintro σ H Dn ⟨α, Y, Z, q, Z', g, run, aft⟩
   dsimp only [Yu, Ms.of] at run
   cases e0 : M.bnd (a.run Y) (fun x => M.bnd (b.run Y) fun y => M.bnd (c.run Y) fun z => M.ret (x, y, z)) Z with
   | none => rw [e0] at run; cases run
   | some pr =>
    obtain ⟨r0, Z0⟩ := pr
    rw [e0] at run
    refine Bp (R := fun _ _ (x : D × D × D) (y : V × V × V) => True) (Q := fun _ _ => True) (r := r0) (Z' := Z0) g e0 ?_ fun x1 v1 α1 H1 Z1 g1 x1' w1 run1 aft1 => ?_
    ·cases r0 with
     | ok _ => exact fun _ _ _ _ _ _ => True.intro
     | error x =>
      cases run
      exact fun α' c dd H' k' s' x' => aft α' c dd σ H' k' s' (g.e.up k') x'
    ·refine Bp (R := fun _ _ (x : D × D × D) (y : V × V × V) => True) (Q := fun _ _ => True) (r := r0) (Z' := Z0) g1 run1 aft1 fun x2 v2 α2 H2 Z2 g2 x2' w2 run2 aft2 => ?_
     refine Bp (R := fun _ _ (x : D × D × D) (y : V × V × V) => True) (Q := fun _ _ => True) (r := r0) (Z' := Z0) g2 run2 aft2 fun x3 v3 α3 H3 Z3 g3 x3' w3 run3 aft3 => ?_
     cases run3
     cases run
     refine ⟨v1, v2, v3, rfl, ?_⟩
     exact aft α3 _ H3 ((x1'.trans x2').trans x3') g3.s (((g3.e.set i ((w1.up x2').up x3')).set j (w2.up x3')).set l w3)
  ·cases hn
 ·cases h
end Mi
namespace Mi
open PySem L2 PyProof.Rows
variable [Tb]
structure CPs where
 run : Env -> M (List (D × D))
 chk : Inf -> List (Option Expr) -> List Expr -> Bool
section
variable {Kn : Kno} {k : Nat}
def JX (kvs more : List (Key × D)) : List (Key × D) := more.foldl (fun acc kv => G7 acc kv.1 kv.2) kvs
theorem Bo.merge {K : PySem.W.Frag} {α : List Addr} {H : Hp} : ∀ {more kvs : List (Key × D)} {ms ws : List (Key × V)}, Bo K α H more ms -> Bo K α H kvs ws -> Bo K α H (JX kvs more) (mergeK ws ms)
 | [], _, _, _, h, h2 => by
  have e : _ = ([] : List (Key × V)) := h
  rw [e]; exact h2
 | (j, d) :: more, kvs, _, ws, ⟨v, r, e, a, b⟩, h2 => by
  subst e
  show Bo K α H (JX (G7 kvs j d) more) (mergeK (putK ws j v) r)
  exact Bo.merge b (h2.put j a)
end
theorem Bo.getD {K : PySem.W.Frag} {α : List Addr} {H : Hp} {kvs : List (Key × D)} {ws : List (Key × V)} {k : Key} {d : D} {v : V} (h : Bo K α H kvs ws) (r : Rep K α H d v) : Rep K α H ((valD kvs k).getD d) ((valV ws k).getD v) := by
 cases e : valD kvs k with
 | none => rw [h.none_ e]; exact r
 | some d' => obtain ⟨v', h1, h2⟩ := h.some_ e; rw [h1]; exact h2
theorem MtR.or {X : Cx} {id : String} {r r' : V -> List V -> Hp -> VK -> Prop} (h : MtR X id r) (h' : MtR X id r') : MtR X id (fun x xs H Q => r x xs H Q \/ r' x xs H Q) := by
 intro pins s σ H x xs v us Q I rx rs q
 rcases q with q | q
 ·exact h pins s σ H x xs v us Q I rx rs q
 ·exact h' pins s σ H x xs v us Q I rx rs q
def popAD : D -> List D -> M D := fun x ds Z => match x, ds with
 | .ref l, [] => popD (.ref l) [] Z
 | .ref l, [.int i] => match Z[l]? with
  | some (.lst xs) => if -(2 ^ 63) <= i /\ i < 2 ^ 63 then match seqIndex? i xs.length with
    | some k => match xs[k]? with
     | some y => some (.ok y, Z.set l (.lst (xs.eraseIdx k)))
     | none => none
    | none => none
   else none
  | _ => none
 | _, _ => none
theorem Bh.erase {K : PySem.W.Frag} {α : List Addr} {H : Hp} : ∀ {ds : List D} {vs : List V} (i : Nat), Bh K α H ds vs -> Bh K α H (ds.eraseIdx i) (vs.eraseIdx i)
 | [], _, i, r => by
  cases (show _ = [] from r)
  exact rfl
 | d :: ds, _, 0, ⟨v, r, e, a, b⟩ => by subst e; exact b
 | d :: ds, _, i + 1, ⟨v, r, e, a, b⟩ => by
  subst e
  exact ⟨v, _, rfl, a, Bh.erase i b⟩
theorem TQ : OkMt "list.pop" popAD := by
 intro X hx
 refine ⟨_, MtR.or (show MtR X "list.pop" rPop from mt_pop) (show MtR X "list.pop" rPopAt from mt_popAt), ?_⟩
 intro mg E α H Z Z' d x ds xs q Q s rx r run aft
 unfold popAD at run
 split at run
 ·rename_i l
  left
  unfold popD at run
  dsimp only at run
  cases h : Z[l]? with
  | none => rw [h] at run; cases run
  | some o =>
   rw [h] at run
   cases o with
   | dct _ => cases run
   | ins _ _ => cases run
   | fzd _ => cases run
   | lst ys =>
    dsimp only at run
    cases hy : ys[ys.length - 1]? with
    | none => rw [hy] at run; cases run
    | some y =>
     rw [hy] at run
     cases (show xs = [] from r)
     obtain ⟨p1, v1, e1, a1, b1, c1⟩ := Dm s rx h
     subst e1
     obtain ⟨v, h1, h2⟩ := c1.get hy
     refine ⟨p1, v1, v, rfl, rfl, b1, by rw [c1.len]; exact h1, ?_⟩
     cases run
     have x3 : Ext α H α (upd H p1 (.lst v1.dropLast)) := Ext.put a1 b1 fun z => z
     exact aft α _ _ x3 (s.put (o := .lst ys.dropLast) a1 ⟨_, upd_same, (Bh.dropLast c1).up x3⟩ x3) (h2.up x3)
 ·rename_i l i
  right
  cases h : Z[l]? with
  | none => rw [h] at run; cases run
  | some o =>
   rw [h] at run
   cases o with
   | dct _ => cases run
   | ins _ _ => cases run
   | fzd _ => cases run
   | lst ys =>
    dsimp only at run
    by_cases hi : -(2 ^ 63) <= i /\ i < 2 ^ 63
    ·rw [if_pos hi] at run
     obtain ⟨v, vr, e, r1, r2⟩ := r
     cases (show vr = [] from r2)
     cases (show v = .int i from r1)
     obtain ⟨p1, v1, e1, a1, b1, c1⟩ := Dm s rx h
     subst e1
     cases hk : seqIndex? i ys.length with
     | none => rw [hk] at run; cases run
     | some kk =>
      rw [hk] at run
      dsimp only at run
      cases hy : ys[kk]? with
      | none => rw [hy] at run; cases run
      | some y =>
       rw [hy] at run
       obtain ⟨v, h1, h2⟩ := c1.get hy
       refine ⟨p1, v1, i, kk, v, rfl, e, b1, hi.1, hi.2, by rw [c1.len]; exact hk, h1, ?_⟩
       cases run
       have x3 : Ext α H α (upd H p1 (.lst (v1.eraseIdx kk))) := Ext.put a1 b1 fun z => z
       exact aft α _ _ x3 (s.put (o := .lst (ys.eraseIdx kk)) a1 ⟨_, upd_same, (c1.erase kk).up x3⟩ x3) (h2.up x3)
    ·rw [if_neg hi] at run
     cases run
 ·cases run
def strsOf : List D -> Option (List Str)
 | [] => some []
 | .str x :: r => (strsOf r).map (x :: ·)
 | _ => none
theorem Ko {K : PySem.W.Frag} {α : List Addr} {H : Hp} : ∀ {ds : List D} {vs : List V} {xs : List Str}, strsOf ds = some xs -> Bh K α H ds vs -> vs = xs.map V.str
 | [], _, _, h, r => by cases h; exact r
 | .str x :: ds, _, _, h, r => by
  unfold strsOf at h
  cases e : strsOf ds with
  | none => rw [e] at h; cases h
  | some cs =>
   rw [e] at h
   cases h
   obtain ⟨v, vr, e1, r1, r2⟩ := r
   subst e1
   cases (show v = .str x from r1)
   rw [Ko e r2]
   rfl
theorem RL {K : PySem.W.Frag} {α : List Addr} {H : Hp} : ∀ xs : List Str, Bh K α H (xs.map D.str) (xs.map V.str)
 | [] => rfl
 | x :: xs => ⟨.str x, xs.map V.str, rfl, rfl, RL xs⟩
def leS (x y : Str) : Bool := decide (x.cps.toList <= y.cps.toList)
def sortS (xs : List Str) : List Str := xs.mergeSort leS
def HS (Z : List O) : D -> Option (List Str)
 | .tup ds => strsOf ds
 | .fro ds => strsOf ds
 | .ref l => match Z[l]? with
  | some (.lst ds) => strsOf ds
  | _ => none
 | _ => none
theorem Tz {K : PySem.W.Frag} {α : List Addr} {H : Hp} {Z : List O} {d : D} {v : V} {xs : List Str} (s : RepS K α H Z) (r : Rep K α H d v) (h : HS Z d = some xs) : ∃ p, v = .ref p /\ (SqL K H p (xs.map V.str) \/ SqT K H p (xs.map V.str)) := by
 cases d with
 | tup ds =>
  obtain ⟨p, vs, e, t, w⟩ := r
  rw [Ko (show strsOf ds = some xs from h) w] at t
  exact ⟨p, e, .inr t⟩
 | fro ds =>
  obtain ⟨p, vs, e, t, w⟩ := r
  rw [Ko (show strsOf ds = some xs from h) w] at t
  exact ⟨p, e, .inl t.sq⟩
 | ref l =>
  dsimp only [HS] at h
  cases e0 : Z[l]? with
  | none => rw [e0] at h; cases h
  | some o =>
   rw [e0] at h
   cases o with
   | dct _ => cases h
   | ins _ _ => cases h
   | fzd _ => cases h
   | lst ds =>
    obtain ⟨p1, v1, e1, a1, b1, c1⟩ := Dm s r e0
    rw [Ko (show strsOf ds = some xs from h) c1] at b1
    exact ⟨p1, e1, .inl (SqL.of b1)⟩
 | _ => cases h
def joinD : D -> List D -> M D := fun x ds Z => match x, ds with
 | .str a, [d] => match HS Z d with
  | some ys => if (ys.map (·.length)).sum + ys.length * a.length <= 16777216 then some (.ok (.str (Txt.join a ys)), Z) else none
  | none => none
 | _, _ => none
theorem ok_join : OkMt "str.join" joinD := by
 intro X hx
 refine ⟨_, mt_join, ?_⟩
 intro mg E α H Z Z' d x ds xs q Q s rx r run aft
 unfold joinD at run
 split at run
 ·rename_i a y
  obtain ⟨v, vr, e, r1, r2⟩ := r
  cases (show vr = [] from r2)
  cases h : HS Z y with
  | none => rw [h] at run; cases run
  | some ys =>
   rw [h] at run
   dsimp only at run
   by_cases hz : (ys.map (·.length)).sum + ys.length * a.length <= 16777216
   ·rw [if_pos hz] at run
    obtain ⟨p, e2, hp⟩ := Tz s r1 h
    subst e2
    exact ⟨a, p, ys, rx, e, hp, hz, Av s run aft rfl⟩
   ·rw [if_neg hz] at run; cases run
 ·cases run
theorem k_join : MtK "str" "join" "str.join" := ⟨F.plainAttrs_str, F.slot_str_join, F.type_str_join⟩
end Mi
namespace Mi
open PySem PySem.Spec PyProof.Rows L2
variable [Tb]
def ItK (k : Bool) (h : Heap) (it a : Addr) (i : Nat) : Prop := match k with
 | true => h.IsListIter it a i
 | false => h.IsTupleIter it a i
def obK (k : Bool) (a : Addr) : Obj := match k with
 | true => { cls := .type "list_iterator", data := .fields #[.ref a, .int 0 0] }
 | false => { cls := .type "tuple_iterator", data := .fields #[.ref a, .int 0 0] }
theorem ItK.at {k : Bool} {h h' : Heap} {it a : Addr} {i : Nat} (st : ItK k h it a i) (q : ∀ o, h.get? it = some o -> h'.get? it = some o) : ItK k h' it a i := by
 cases k
 ·exact Heap.IsTupleIter.at st q
 ·exact Heap.IsListIter.at st q
theorem ItK.ob {k : Bool} {h : Heap} {it a : Addr} (e : h.get? it = some (obK k a)) : ItK k h it a 0 := by
 cases k
 ·exact ⟨_, e, rfl, rfl⟩
 ·exact ⟨_, e, rfl, rfl⟩
def U3 : D -> List O -> Option (List D)
 | .tup ds, _ => some ds
 | .fro ds, _ => some ds
 | .ref l, Z => match Z[l]? with
  | some (.lst ds) => some ds
  | _ => none
 | _, _ => none
def wkZ3 (x y z : D) (n : Nat) : Wk := ⟨fun i Z => match U3 x Z, U3 y Z, U3 z Z with
 | some xs, some ys, some zs => if i <= xs.length /\ i <= ys.length /\ i <= zs.length then match xs[i]?, ys[i]?, zs[i]? with
   | some a, some b, some c => some (some (.tup [a, b, c]))
   | _, _, _ => some none
  else none
 | _, _, _ => none, n⟩
def XQ (x y z : D) : M Wk := fun Z => match U3 x Z, U3 y Z, U3 z Z with
 | some xs, some _, some _ => some (.ok (wkZ3 x y z xs.length), Z)
 | _, _, _ => none
section
variable {Kn : Kno} {k : Nat}
def iZp3 (a b c : CE) : CI := ⟨fun Y => M.bnd (a.run Y) fun x => M.bnd (b.run Y) fun y => M.bnd (c.run Y) fun z => XQ x y z, fun I tg e => match tg, e with
 | .Tuple _ _ _, .Call (.Name n _) [x, y, z] [] _ => decide (n = ("zip" : Str)) && (glo I.sc n && (noStar x && (noStar y && (noStar z && (a.chk I x && (b.chk I y && c.chk I z))))))
 | _, _ => false⟩
end
section
variable {Kn : Kno} {k : Nat}
def stepD : D -> D -> M D
 | .ref l, .int i => if i = 1 \/ i = -1 then M.bnd (M.lst l) fun ds => M.new (.lst (if i = 1 then ds else ds.reverse)) else M.stop
 | _, _ => M.stop
end
end Mi
namespace Mi
open PySem L2 PyProof.Rows
variable [Tb]
section
variable {K : PySem.W.Frag} {mg : Str -> Option Value}
end
section
variable {Kn : Kno} {k : Nat}
end
def rEqN (neg : Bool) : R2 := fun x y H Q => ∃ p q vs, x = .ref p /\ y = .ref q /\ H p = some (.lst vs) /\ H q = some (.lst []) /\ Q (.bl (if neg then !vs.isEmpty else vs.isEmpty)) H
theorem Ss {its : List Value} (r : Vals [] its) : its = [] := eq_nil_of_length_eq_zero r.length.symm
theorem op_neN {X : Cx} (h : Here X) : OpR X (compareOp .NotEq) (rEqN true) := by
 intro pins s σ H x y v u Q I rx ry ⟨p, q, vs, ex, ey, hp, hq, z⟩
 subst ex ey
 cases rx
 cases ry
 obtain ⟨its, r, P, _⟩ := I.list (SqL.of hp)
 obtain ⟨its2, r2, P2, _⟩ := I.list (SqL.of hq)
 have e2 := Ss r2
 subst e2
 have hu : X.A.units < cLine := by have := h.room.units; omega
 cases vs with
 | nil =>
  have e1 := Ss r
  subst e1
  exact SeqAt.RcNeAt.lists (e := fun _ => true) P.isList P2.isList rfl hu (fun j h1 h2 => absurd h1 (by simp)) X.prog X.w X.xe _ ⟨.bl _, H, I, rfl, z⟩
 | cons a b =>
  have l1 := r.length
  exact SeqAt.RcNeAt.lists_lengths P.isList P2.isList (by rw [bne_iff_ne, size_toArray, size_toArray, <- l1]; simp) hu X.prog X.w X.xe _ ⟨.bl _, H, I, rfl, z⟩
def eqnD (neg : Bool) : D -> D -> M D
 | .ref l, .ref m => fun Z => match Z[l]?, Z[m]? with
  | some (.lst xs), some (.lst []) => some (.ok (.bl (if neg then !xs.isEmpty else xs.isEmpty)), Z)
  | _, _ => none
 | _, _ => M.stop
theorem eqn_run {X : Cx} {neg : Bool} {mg : Str -> Option Value} {E : XK} {α : List Addr} {H : Hp} {Z Z' : List O} {d1 d2 : D} {x y : V} {q : Except Ex D} {Q : VK} (s : RepS X.K α H Z) (r1 : Rep X.K α H d1 x) (r2 : Rep X.K α H d2 y)
  (run : eqnD neg d1 d2 Z = some (q, Z')) (aft : Aft (Rep X.K) X.K mg E α H q Z' Q) : rEqN neg x y H Q := by
 cases d1 with
 | ref l => cases d2 with
  | ref m =>
  dsimp only [eqnD] at run
  split at run
  ·rename_i xs h1 h2
   obtain ⟨p, e, a⟩ := r1
   obtain ⟨p2, e2, a2⟩ := r2
   obtain ⟨vs, b1, b2⟩ := s.at_ _ _ _ h1 a
   obtain ⟨ws, c1, c2⟩ := s.at_ _ _ _ h2 a2
   have c3 : ws = [] := c2
   subst c3
   have hl := b2.len
   refine ⟨p, p2, vs, e, e2, b1, c1, ?_⟩
   have e3 : vs.isEmpty = xs.isEmpty := by
    cases vs <;> cases xs <;> simp at hl <;> rfl
   rw [e3]
   exact Av s run aft rfl
  ·cases run
  | _ => cases run
 | _ => cases run
theorem ok_nen : Kh .NotEq (eqnD true) := fun X hx => ⟨_, op_neN hx, fun mg E α H Z Z' d1 d2 x y q Q s r1 r2 run aft => eqn_run s r1 r2 run aft⟩
end Mi
namespace Mi
open PySem L2 PyProof.Rows
variable [Tb]
open LamX
section
variable {X : Cx} {pins : List (Addr × Obj)} {σ : L2.St} {H HZ : Hp} {s s1 : Shared}
end
section
variable {X : Cx}
end
def toldOf (st : Stmt) : Option (Str × Str × Str × Str) := match defBody st with
 | [.Assign [.Name t1 _] (.Constant .none _ _) _, .Try [.Assign [.Name t2 _] (.Call (.Name a _) [] [] _) _] [.ExceptHandler (some (.Name e _)) none [.Assign [.Name t3 _] (.Constant (.str ret) _ _) _] _] [] [] _, .Return (some (.Name t4 _)) _] =>
  if t2 = t1 /\ t3 = t1 /\ t4 = t1 then some (a, t1, e, ret) else none
 | _ => none
structure ToldSt (st : Stmt) (x a t e ret : Str) : Prop where
 body : toldOf st = some (a, t, e, ret)
 sc : FnScope [a, t] [a] (defScope st)
 vis : seen (defScope st) a = true
 loc : (defScope st).names.lookup t = some .local
 glo : (defScope st).names.lookup e = some .globalImplicit
 ne : a ≠ t
 ua : unmarked a = true
 ut : unmarked t = true
 ue : unmarked e = true
 ux : unmarked x = true
theorem Ext.lam {α : List Addr} {H H1 : Hp} (hx : ExtN H H1) : Ext α H α H1 := ⟨fun _ _ h => h, fun p o h _ => by
 by_cases ht : IsT o
 ·exact .inr ht
 ·exact .inl (hx p o h fun ps e => ht ⟨ps, e⟩), fun _ h => .inl h⟩
theorem RepS.lam {K : PySem.W.Frag} {α : List Addr} {H H1 : Hp} {Z : List O} (s : RepS K α H Z) (hx : ExtN H H1) (ht : Tabs Tb.T H1) : RepS K α H1 Z :=
 ⟨s.len, s.nd, fun l o q h1 h2 => by
  have r := s.at_ l o q h1 h2
  obtain ⟨u, hu, nt, _⟩ := N6 r
  exact r.up (Ext.lam hx) (by rw [hu]; exact hx _ _ hu nt), ht⟩
section
variable {Kn : Kno} {k : Nat}
end
end Mi
namespace Mi
open PySem L2 PyProof.Rows
variable [Tb]
section
variable {X : Cx} {pins : List (Addr × Obj)} {σ : L2.St} {H : Hp} {s : Shared}
end
def initOf (st : Stmt) : Option (Str × Str) := match defBody st with
 | [.Expr (.Call (.Attribute (.Name bn _) m p2) [.Name sf _, .Constant (.str _) _ _] [] p5) _] => if m = "__init__" /\ (p2.endLine == p5.line) = true then some (bn, sf) else none
 | _ => none
structure InitSt (st : Stmt) (bn sf : Str) : Prop where
 body : initOf st = some (bn, sf)
 sc : FnScope [sf] [sf] (defScope st)
 vis : seen (defScope st) sf = true
 glo : (defScope st).names.lookup bn = some .globalImplicit
 us : unmarked sf = true
 ub : unmarked bn = true
section
variable {X : Cx}
end
structure ExcK (K : PySem.W.Frag) (mg : Str -> Option Value) (e : Str) (st : Stmt) (bn sf : Str) : Prop where
 ex : ∃ (C fI B : Addr) (fd : FuncData) (q : Str), mg e = some (.ref C) /\ OexC K C /\ PySem.W.findIn K (.ref C) "__init__" = some (some (.ref fI)) /\ PySem.W.typeIn K (.ref fI) = some (.type "function") /\ Fun K "__init__" q st fI fd /\ Binds K fd [sf] [] /\
  mg bn = some (.ref B) /\ PySem.W.readsIn K B (.type "type") = true /\ PySem.W.specialIn K (.ref B) "__getattribute__" = some (some (.builtin "type.__getattribute__")) /\
  PySem.W.findCls K (.ref B) (.type "type") "__init__" = some (.val (.builtin "ValueError.__init__"))
def Yt (x : Str) : CS := ⟨fun Y Z => some (.er ⟨x, none⟩ Y, Z), fun I st => match st with
 | .Raise (some (.Call (.Name y _) [] [] _)) none _ => decide (y = x) && (glo I.sc y && unmarked y)
 | _ => false⟩
end Mi
namespace Mi
open PySem L2 PyProof.Rows
variable [Tb]
section
variable {K : PySem.W.Frag} {α : List Addr} {H : Hp}
def Y7 (f : Str) (d : D) : List (Str × D) -> List (Str × D)
 | [] => [(f, d)]
 | (g, x) :: r => if g = f then (g, d) :: r else (g, x) :: Y7 f d r
theorem Rm.put {f : Str} {d : D} {v : V} (hd : Rep K α H d v) : ∀ {fs : List (Str × D)} {ws : List (Str × V)}, Rm K α H fs ws -> Rm K α H (Y7 f d fs) (putF f v ws)
 | [], _, h => by
  cases (show _ = ([] : List (Str × V)) from h)
  exact ⟨v, [], rfl, hd, rfl⟩
 | (g, x) :: r, _, ⟨w, s, e, a, b⟩ => by
  subst e
  unfold Y7 putF
  by_cases hg : g = f
  ·rw [if_pos hg, if_pos hg]
   exact ⟨v, s, rfl, hd, b⟩
  ·rw [if_neg hg, if_neg hg]
   exact ⟨w, _, rfl, a, Rm.put hd b⟩
theorem Rm.len : ∀ {fs : List (Str × D)} {ws : List (Str × V)}, Rm K α H fs ws -> ws.length = fs.length
 | [], _, h => by
  cases (show _ = ([] : List (Str × V)) from h)
  rfl
 | _ :: _, _, ⟨v, s, e, _, b⟩ => by rw [e, length_cons, length_cons, Rm.len b]
end
def M.obj (c : Str) : D -> M (Nat × List (Str × D)) := fun d Z => match d with
 | .ref l => match Z[l]? with
  | some (.ins c' fs) => if c' = c then some (.ok (l, fs), Z) else none
  | _ => none
 | _ => none
theorem obj_some {c : Str} {d : D} {Z : List O} {p : Except Ex (Nat × List (Str × D)) × List O} (h : M.obj c d Z = some p) : ∃ l fs, d = .ref l /\ Z[l]? = some (.ins c fs) /\ p = (.ok (l, fs), Z) := by
 unfold M.obj at h
 split at h
 ·rename_i l
  split at h
  ·rename_i c' fs e
   split at h
   ·rename_i hc
    subst hc
    exact ⟨l, fs, rfl, e, (Option.some.inj h).symm⟩
   ·cases h
  ·cases h
 ·cases h
def fldD (c f : Str) (d : D) : M D := M.bnd (M.obj c d) fun p => match p.2.lookup f with
 | some v => M.ret v
 | none => M.stop
def KMet (Kn : Kno) (c m : Str) (ps : List Str) (mr : List D -> M D) (k : Nat) : Prop := ∀ P w K mg base, Kn P w K mg base ->
 ∃ f fd, FnG P w K mg base k f fd ps (Tv K mg mr) /\ Cls K (Tb.C c) /\ Meth K (Tb.C c) m f /\ Binds K fd ps []
def KMak (Kn : Kno) (c : Str) (ps : List Str) (mr : List D -> M D) (k : Nat) : Prop := ∀ P w K mg base, Kn P w K mg base ->
 ∃ f fd, FnG P w K mg base k f fd ps (Tv K mg mr) /\ mg c = some (.ref (Tb.C c)) /\ Mk K (Tb.C c) f /\ Binds K fd ps []
section
variable {Kn : Kno} {k : Nat}
def cFld (c f : Str) (o : CE) : CE := ⟨fun Y => M.bnd (o.run Y) (fldD c f), fun I e => match e with
 | .Attribute o1 n _ => decide (n = f) && (RN o1 && o.chk I o1)
 | _ => false⟩
def cMeth (c m : Str) (mr : List D -> M D) (o : CE) (a : CA) : CE := ⟨fun Y => M.bnd (o.run Y) fun x => M.bnd (M.obj c x) fun p => if (p.2.lookup m).isNone then M.bnd (a.run Y) fun ds => mr (x :: ds) else M.stop, fun I e => match e with
 | .Call (.Attribute o1 n apos) (e1 :: es) [] cpos => decide (n = m) && (RN o1 && (apos.endLine == cpos.line && (decide ((e1 :: es).length < 30) && ((e1 :: es).all noStar && (o.chk I o1 && a.chk I (e1 :: es))))))
 | _ => false⟩
end
theorem KMet.up {Kn : Kno} {c m : Str} {ps : List Str} {mr : List D -> M D} {j k : Nat} (h : KMet Kn c m ps mr j) (l : j <= k) : KMet Kn c m ps mr k := fun P w K mg base q => by
 obtain ⟨f, fd, F, a, b, d⟩ := h P w K mg base q
 exact ⟨f, fd, F.up l, a, b, d⟩
theorem KMak.up {Kn : Kno} {c : Str} {ps : List Str} {mr : List D -> M D} {j k : Nat} (h : KMak Kn c ps mr j) (l : j <= k) : KMak Kn c ps mr k := fun P w K mg base q => by
 obtain ⟨f, fd, F, a, b, d⟩ := h P w K mg base q
 exact ⟨f, fd, F.up l, a, b, d⟩
end Mi
namespace Mi
open PySem L2 PyProof.Rows
def Wp {a : Type} (m : M a) (Z : List O) (P : a -> List O -> Prop) (E : Ex -> List O -> Prop) : Prop := ∃ r Z', m Z = some (r, Z') /\ match r with
 | .ok d => P d Z'
 | .error x => E x Z'
def Ws (m : Ms) (Z : List O) (P : SR -> List O -> Prop) : Prop := ∃ r Z', m Z = some (r, Z') /\ P r Z'
section
variable {a b : Type} {Z : List O} {P : a -> List O -> Prop} {Q : b -> List O -> Prop} {E : Ex -> List O -> Prop} {S : SR -> List O -> Prop} {Y : Env}
theorem Wp.mono {m : M a} {P' : a -> List O -> Prop} {E' : Ex -> List O -> Prop} (h : Wp m Z P E) (hp : ∀ d Z', P d Z' -> P' d Z') (he : ∀ x Z', E x Z' -> E' x Z') : Wp m Z P' E' := by
 obtain ⟨r, Z', e, q⟩ := h
 refine ⟨r, Z', e, ?_⟩
 cases r with
 | ok d => exact hp d Z' q
 | error x => exact he x Z' q
theorem Wp.go {m : M a} {P' : a -> List O -> Prop} (h : Wp m Z P' fun _ _ => False) (hp : ∀ d Z', P' d Z' -> P d Z') : Wp m Z P E := h.mono hp fun _ _ z => z.elim
theorem Ws.mono {m : Ms} {S' : SR -> List O -> Prop} (h : Ws m Z S) (hp : ∀ d Z', S d Z' -> S' d Z') : Ws m Z S' := by
 obtain ⟨r, Z', e, q⟩ := h
 exact ⟨r, Z', e, hp r Z' q⟩
theorem Aj {d : a} : Wp (M.ret d) Z P E ↔ P d Z := ⟨fun ⟨r, Z', e, q⟩ => by cases e; exact q, fun q => ⟨.ok d, Z, rfl, q⟩⟩
theorem Gz : Wp (M.stop : M a) Z P E ↔ False := ⟨fun ⟨_, _, e, _⟩ => (nomatch e), fun z => False.elim z⟩
theorem bnd_ok {m : M b} {f : b -> M a} {d : b} {Z1 : List O} (h : m Z = some (.ok d, Z1)) : M.bnd m f Z = f d Z1 := by
 unfold M.bnd
 rw [h]
theorem bnd_er {m : M b} {f : b -> M a} {x : Ex} {Z1 : List O} (h : m Z = some (.error x, Z1)) : M.bnd m f Z = some (.error x, Z1) := by
 unfold M.bnd
 rw [h]
theorem of_ok {m : M b} {f : b -> Ms} {d : b} {Z1 : List O} (h : m Z = some (.ok d, Z1)) : Ms.of m Y f Z = f d Z1 := by
 unfold Ms.of
 rw [h]
theorem of_er {m : M b} {f : b -> Ms} {x : Ex} {Z1 : List O} (h : m Z = some (.error x, Z1)) : Ms.of m Y f Z = some (.er x Y, Z1) := by
 unfold Ms.of
 rw [h]
theorem Cq {m : M b} {f : b -> M a} : Wp (M.bnd m f) Z P E ↔ Wp m Z (fun d Z' => Wp (f d) Z' P E) E := by
 constructor
 ·rintro ⟨r, Z', e, q⟩
  unfold M.bnd at e
  cases h : m Z with
  | none => rw [h] at e; cases e
  | some p =>
   obtain ⟨r1, Z1⟩ := p
   rw [h] at e
   cases r1 with
   | error x => cases e; exact ⟨.error x, _, h, q⟩
   | ok d => exact ⟨.ok d, Z1, h, r, Z', e, q⟩
 ·rintro ⟨r, Z', e, q⟩
  cases r with
  | error x => exact ⟨.error x, Z', bnd_er e, q⟩
  | ok d =>
   obtain ⟨r2, Z2, e2, q2⟩ := q
   exact ⟨r2, Z2, (bnd_ok e).trans e2, q2⟩
theorem wp_ite {c : Prop} [Decidable c] {m1 m2 : M a} : Wp (if c then m1 else m2) Z P E ↔ (c -> Wp m1 Z P E) /\ (¬ c -> Wp m2 Z P E) := by
 by_cases h : c
 ·rw [if_pos h]; exact ⟨fun z => ⟨fun _ => z, fun n => (n h).elim⟩, fun z => z.1 h⟩
 ·rw [if_neg h]; exact ⟨fun z => ⟨fun n => (h n).elim, fun _ => z⟩, fun z => z.2 h⟩
theorem Ju {c : Bool} {m1 m2 : M a} : Wp (if c = true then m1 else m2) Z P E ↔ (c = true -> Wp m1 Z P E) /\ (¬ c = true -> Wp m2 Z P E) := wp_ite
theorem Jr {c : Prop} [Decidable c] {m : M a} : Wp (if c then m else M.stop) Z P E ↔ c /\ Wp m Z P E := by
 by_cases h : c
 ·rw [if_pos h]; exact ⟨fun z => ⟨h, z⟩, fun z => z.2⟩
 ·rw [if_neg h, Gz]; exact ⟨False.elim, fun z => h z.1⟩
theorem KC {o : O} {P : D -> List O -> Prop} : Wp (M.new o) Z P E ↔ P (.ref Z.length) (Z ++ [o]) := ⟨fun ⟨r, Z', e, q⟩ => by cases e; exact q, fun q => ⟨.ok _, _, rfl, q⟩⟩
theorem DG {l : Nat} {P : List D -> List O -> Prop} {ds : List D} (h : Z[l]? = some (.lst ds)) : Wp (M.lst l) Z P E ↔ P ds Z := by
 constructor
 ·rintro ⟨r, Z', e, q⟩
  obtain ⟨ds', h1, h2⟩ := QH e
  cases h2
  rw [h] at h1
  cases h1
  exact q
 ·intro q
  exact ⟨.ok ds, Z, by unfold M.lst; rw [h], q⟩
theorem K6 {m : M b} {f : b -> Ms} : Ws (Ms.of m Y f) Z S ↔ Wp m Z (fun d Z' => Ws (f d) Z' S) (fun x Z' => S (.er x Y) Z') := by
 constructor
 ·rintro ⟨r, Z', e, q⟩
  unfold Ms.of at e
  cases h : m Z with
  | none => rw [h] at e; cases e
  | some p =>
   obtain ⟨r1, Z1⟩ := p
   rw [h] at e
   cases r1 with
   | error x => cases e; exact ⟨.error x, _, h, q⟩
   | ok d => exact ⟨.ok d, Z1, h, r, Z', e, q⟩
 ·rintro ⟨r, Z', e, q⟩
  cases r with
  | error x => exact ⟨_, Z', of_er e, q⟩
  | ok d =>
   obtain ⟨r2, Z2, e2, q2⟩ := q
   exact ⟨r2, Z2, (of_ok e).trans e2, q2⟩
theorem Ff {r : SR} : Ws (fun Z => some (r, Z)) Z S ↔ S r Z := ⟨fun ⟨_, _, e, q⟩ => by cases e; exact q, fun q => ⟨_, _, rfl, q⟩⟩
theorem MK {c : Prop} [Decidable c] {m1 m2 : Ms} : Ws (if c then m1 else m2) Z S ↔ (c -> Ws m1 Z S) /\ (¬ c -> Ws m2 Z S) := by
 by_cases h : c
 ·rw [if_pos h]; exact ⟨fun z => ⟨fun _ => z, fun n => (n h).elim⟩, fun z => z.1 h⟩
 ·rw [if_neg h]; exact ⟨fun z => ⟨fun n => (h n).elim, fun _ => z⟩, fun z => z.2 h⟩
def Nx (r : CB) (S : SR -> List O -> Prop) : SR -> List O -> Prop := fun x Z' => match x with
 | .nx Y1 => Ws (r.run Y1) Z' S
 | x => S x Z'
theorem HH {s : CS} {r : CB} : Ws ((Af s r).run Y) Z S ↔ Ws (s.run Y) Z (Nx r S) := by
 constructor
 ·rintro ⟨q, Z', e, z⟩
  dsimp only [Af] at e
  cases h : s.run Y Z with
  | none => rw [h] at e; cases e
  | some p =>
   obtain ⟨r1, Z1⟩ := p
   rw [h] at e
   cases r1 with
   | nx Y1 => exact ⟨.nx Y1, Z1, h, q, Z', e, z⟩
   | _ => cases e; exact ⟨_, _, h, z⟩
 ·rintro ⟨q, Z', e, z⟩
  unfold Ws
  dsimp only [Af]
  rw [e]
  cases q with
  | nx Y1 => exact z
  | _ => exact ⟨_, _, rfl, z⟩
theorem MJ : Ws (bNil.run Y) Z S ↔ S (.nx Y) Z := ⟨fun ⟨_, _, e, q⟩ => by cases e; exact q, fun q => ⟨_, _, rfl, q⟩⟩
def Fn (P : D -> List O -> Prop) (E : Ex -> List O -> Prop) : SR -> List O -> Prop := fun x Z' => match x with
 | .nx _ => P .non Z'
 | .rt d => P d Z'
 | .er x _ => E x Z'
 | _ => False
theorem Ig {N np : Nat} {run : Env -> Ms} {ds : List D} {P : D -> List O -> Prop} : Wp (mir N np run ds) Z P E ↔ ds.length = np /\ Ws (run (ds.map some ++ replicate (N - np) none)) Z (Fn P E) := by
 constructor
 ·rintro ⟨r, Z', e, q⟩
  have hl := TY e
  refine ⟨hl, ?_⟩
  unfold mir at e
  rw [if_pos hl] at e
  cases h : run (ds.map some ++ replicate (N - np) none) Z with
  | none => rw [h] at e; cases e
  | some p =>
   obtain ⟨r1, Z1⟩ := p
   rw [h] at e
   cases r1 with
   | nx Y1 => cases e; exact ⟨_, _, h, q⟩
   | rt d => cases e; exact ⟨_, _, h, q⟩
   | er x Y1 => cases e; exact ⟨_, _, h, q⟩
   | _ => cases e
 ·rintro ⟨hl, r, Z', e, q⟩
  unfold Wp mir
  rw [if_pos hl, e]
  cases r with
  | nx Y1 => exact ⟨.ok .non, Z', rfl, q⟩
  | rt d => exact ⟨.ok d, Z', rfl, q⟩
  | er x Y1 => exact ⟨.error x, Z', rfl, q⟩
  | bk Y1 => exact q.elim
  | ct Y1 => exact q.elim
theorem Xb {r : CB} {Y1 : Env} : Nx r S (.nx Y1) Z ↔ Ws (r.run Y1) Z S := Iff.rfl
theorem Xa {r : CB} {d : D} : Nx r S (.rt d) Z ↔ S (.rt d) Z := Iff.rfl
theorem Xe {r : CB} {Y1 : Env} : Nx r S (.bk Y1) Z ↔ S (.bk Y1) Z := Iff.rfl
theorem Xd {r : CB} {Y1 : Env} : Nx r S (.ct Y1) Z ↔ S (.ct Y1) Z := Iff.rfl
theorem Xc {r : CB} {x : Ex} {Y1 : Env} : Nx r S (.er x Y1) Z ↔ S (.er x Y1) Z := Iff.rfl
theorem Xv {P : D -> List O -> Prop} {Y1 : Env} : Fn P E (.nx Y1) Z ↔ P .non Z := Iff.rfl
theorem Xu {P : D -> List O -> Prop} {d : D} : Fn P E (.rt d) Z ↔ P d Z := Iff.rfl
theorem Xw {P : D -> List O -> Prop} {x : Ex} {Y1 : Env} : Fn P E (.er x Y1) Z ↔ E x Z := Iff.rfl
end
section
variable {Y : Env} {a b c : CE} {t u : CT}
theorem VM {i : Nat} : (Ae i).run Y = getV i Y := rfl
theorem Wi {i : Int} : (cInt i).run Y = M.ret (.int i) := rfl
theorem r_bl {i : Bool} : (cBl i).run Y = M.ret (.bl i) := rfl
theorem VP {i : Str} : (cStr i).run Y = M.ret (.str i) := rfl
theorem We : cNon.run Y = M.ret .non := rfl
theorem Wj {x : Str} {d : D} : (M5 x d).run Y = M.ret d := rfl
theorem Wf : aNil.run Y = M.ret [] := rfl
theorem NZ {cs : CA} : (Aa a cs).run Y = M.bnd (a.run Y) fun d => M.bnd (cs.run Y) fun ds => M.ret (d :: ds) := rfl
theorem VN {cs : CA} : (Bg cs).run Y = M.bnd (cs.run Y) fun ds => if ds.length <= sizeLine then M.ret (.tup ds) else M.stop := rfl
theorem Wh {cs : CA} : (Ft cs).run Y = M.bnd (cs.run Y) fun ds => if ds.length <= sizeLine then M.new (.lst ds) else M.stop := rfl
theorem Wn {op : Operator} {f : D -> D -> M D} : (Az op f a b).run Y = M.bnd (a.run Y) fun x => M.bnd (b.run Y) fun y => f x y := rfl
theorem Wm {op : CmpOp} {f : D -> D -> M D} : (XM op f a b).run Y = M.bnd (a.run Y) fun x => M.bnd (b.run Y) fun y => f x y := rfl
theorem NP {op : CmpOp} {f : D -> D -> M D} : (Ba op f a b).run Y = M.bnd (M.bnd (a.run Y) fun x => M.bnd (b.run Y) fun y => f x y) asB := rfl
theorem NB : (X8 a).run Y = M.bnd (a.run Y) asB := rfl
theorem NK : (Yh t).run Y = M.bnd (t.run Y) fun b => M.ret (!b) := rfl
theorem Oc : (HQ t).run Y = t.run Y := rfl
theorem Wb : (wOr1 t).run Y = t.run Y := rfl
theorem Wo : (Tt t u).run Y = M.bnd (t.run Y) fun c => if c = true then u.run Y else M.ret false := rfl
theorem r_or : (wOr t u).run Y = M.bnd (t.run Y) fun c => if c = true then M.ret true else u.run Y := rfl
theorem r_if : (cIf t a b).run Y = M.bnd (t.run Y) fun c => if c = true then a.run Y else b.run Y := rfl
theorem N7 {op : PySem.BoolOp} : (vOne op a).run Y = a.run Y := rfl
theorem N8 : (vAnd a b).run Y = M.bnd (M.bnd (a.run Y) asB) fun c => if c = true then b.run Y else M.ret (.bl false) := rfl
theorem VL : (vOr a b).run Y = M.bnd (M.bnd (a.run Y) asB) fun c => if c = true then M.ret (.bl true) else b.run Y := rfl
theorem Wd : (cNot a).run Y = M.bnd (M.bnd (a.run Y) asB) fun b => M.ret (.bl (!b)) := rfl
theorem Wg : (Ie a).run Y = M.bnd (a.run Y) negD := rfl
theorem r_ix : (cIx a b).run Y = M.bnd (a.run Y) fun x => M.bnd (b.run Y) fun y => ixD x y := rfl
theorem J8 {lo hi : CO} : (Gx a lo hi).run Y = M.bnd (a.run Y) fun x => M.bnd (lo.run Y) fun l => M.bnd (hi.run Y) fun h => slD x l h := rfl
theorem Wc : oNo.run Y = M.ret none := rfl
theorem NQ : (YW a).run Y = M.bnd (a.run Y) asI := rfl
theorem r_B {x : Str} {f : List D -> M D} {cs : CA} : (cB x f cs).run Y = M.bnd (cs.run Y) f := rfl
theorem Oa {x : Str} {f : List D -> M D} {cs : CA} : (Am x f cs).run Y = M.bnd (cs.run Y) f := rfl
theorem VR : (cRev a).run Y = M.bnd (a.run Y) revD := rfl
theorem Nv {i j l : Nat} : (Yu i j l a b c).run Y = Ms.of (M.bnd (a.run Y) fun x => M.bnd (b.run Y) fun y => M.bnd (c.run Y) fun z => M.ret (x, y, z)) Y fun (p : D × D × D) Z => some (.nx (((Y.set i (some p.1)).set j (some p.2.1)).set l (some p.2.2)), Z) := rfl
theorem r_m0 {T name : String} {f : D -> List D -> M D} : (cM0 T name f a).run Y = M.bnd (a.run Y) fun x => M.bnd (isT T x) fun _ => f x [] := rfl
theorem r_m {T name : String} {f : D -> List D -> M D} {cs : CA} : (cM T name f a cs).run Y = M.bnd (a.run Y) fun x => M.bnd (isT T x) fun _ => M.bnd (cs.run Y) fun ds => f x ds := rfl
theorem i_A : (iA a).run Y = M.bnd (a.run Y) anyW := rfl
theorem i_En : (iEn a).run Y = M.bnd (a.run Y) enW := rfl
theorem Mv : fNil.run Y = M.ret true := rfl
theorem Xx : (Xy t).run Y = t.run Y := rfl
theorem Lk {g : CG} : (Yv g a).run Y = (Bv g a).run Y := rfl
theorem Jx {i : Nat} {it : CI} {g : CG} {f : CF} {e : CE} {vs : List (Str × Nat)} : (N5 i it g f e vs).run Y = (Bv (gN i) (cLc it g f e vs)).run Y := rfl
def lcM (w : Wk) (g : CG) (f : Env -> M Bool) (e : Env -> M D) (Y : Env) : M D := fun Z => JH w g f e Z.length Y w.fuel 0 (Z ++ [.lst []])
theorem r_lc {it : CI} {g : CG} {f : CF} {e : CE} {vs : List (Str × Nat)} : (cLc it g f e vs).run Y = M.bnd (it.run Y) fun w => lcM w g f.run e.run (Df Y (vs.map (·.2))) := rfl
theorem s_asg {g : CG} : (Bv g a).run Y = Ms.of (a.run Y) Y fun d Z => match g.run d Y Z with
 | some (Y1, Z1) => some (.nx Y1, Z1)
 | none => none := rfl
theorem Ny : (CP a).run Y = Ms.of (a.run Y) Y fun _ Z => some (.nx Y, Z) := rfl
theorem s_ret : (Cr a).run Y = Ms.of (a.run Y) Y fun d Z => some (.rt d, Z) := rfl
theorem s_if {x y : CB} : (sIf t x y).run Y = Ms.of (t.run Y) Y fun c => if c = true then x.run Y else y.run Y := rfl
theorem V9 {i j : Nat} : (Jy i j a b).run Y = Ms.of (M.bnd (a.run Y) fun x => M.bnd (b.run Y) fun y => M.ret (x, y)) Y fun (p : D × D) Z => some (.nx ((Y.set i (some p.1)).set j (some p.2)), Z) := rfl
theorem s_while {m : Env -> Nat} {b : CB} : (FJ m t b).run Y = whl t.run b.run (m Y) Y := rfl
theorem VB {g : CG} {it : CI} {b : CB} : (Qs g it b).run Y = Ms.of (it.run Y) Y fun w => Bw w g b w.fuel 0 Y := rfl
theorem i_R1 : (iR1 a).run Y = M.bnd (a.run Y) rngW1 := rfl
end
theorem ixN_nat {n j : Nat} (h : j < n) : ixN n (j : Int) = some j := by
 unfold ixN
 rw [if_pos ⋯, if_pos ⋯]
 simp
theorem Cp {ds : List D} {j : Nat} {d : D} (h : ds[j]? = some d) : atD ds (j : Int) = M.ret d := by
 unfold atD
 rw [atI_nat h]
theorem Dy {a : D} {r : List D} : atD (a :: r) 0 = M.ret a := Cp (j := 0) rfl
theorem M4 {a b : D} {r : List D} : atD (a :: b :: r) 1 = M.ret b := Cp (j := 1) rfl
theorem Gy {a b c : D} {r : List D} : atD (a :: b :: c :: r) 2 = M.ret c := Cp (j := 2) rfl
theorem Hr {r : List D} {a : D} : atD (r ++ [a]) (-1) = M.ret a := by
 unfold atD
 rw [atI_last]
theorem V2 {ds : List D} {i : Int} (h0 : 0 <= i) (h1 : i < ds.length) : ∃ d, d ∈ ds /\ atD ds i = M.ret d := by
 obtain ⟨j, rfl⟩ : ∃ j : Nat, i = j := ⟨i.toNat, ⋯⟩
 have hj : j < ds.length := by omega
 exact ⟨ds[j], getElem_mem hj, Cp (getElem?_eq_getElem hj)⟩
theorem EY {l : Nat} {i : Int} : ixD (.ref l) (.int i) = M.bnd (M.lst l) fun ds => atD ds i := rfl
theorem ix_tup {ds : List D} {i : Int} : ixD (.tup ds) (.int i) = atD ds i := rfl
theorem Pj {ds : List D} {i : Int} : ixD (.fro ds) (.int i) = atD ds i := rfl
theorem ws_gS {a b : CE} {d : D} {Y : Env} {Z : List O} {S : SR -> List O -> Prop} : Ws (fun Z => match (gS a b).run d Y Z with
  | some (Y1, Z1) => some (.nx Y1, Z1)
  | none => none) Z S ↔ Wp (M.bnd (a.run Y) fun o => M.bnd (b.run Y) fun i => M.ret (o, i)) Z (fun oi Z1 => ∃ Z2, XC d oi.1 oi.2 Z1 = some Z2 /\ S (.nx Y) Z2) (fun _ _ => False) := by
 constructor
 ·rintro ⟨r, Z', e, q⟩
  dsimp only [gS] at e
  cases h : M.bnd (a.run Y) (fun o => M.bnd (b.run Y) fun i => M.ret (o, i)) Z with
  | none => rw [h] at e; cases e
  | some p =>
   obtain ⟨r1, Z1⟩ := p
   rw [h] at e
   cases r1 with
   | error x => cases e
   | ok oi =>
    obtain ⟨o, i⟩ := oi
    dsimp only at e
    cases h2 : XC d o i Z1 with
    | none => rw [h2] at e; cases e
    | some Z2 =>
     rw [h2] at e
     cases e
     exact ⟨_, _, h, Z', h2, q⟩
 ·rintro ⟨r, Z1, e, q⟩
  cases r with
  | error x => exact q.elim
  | ok oi =>
   obtain ⟨o, i⟩ := oi
   obtain ⟨Z2, h2, q⟩ := q
   refine ⟨.nx Y, Z2, ?_, q⟩
   dsimp only [gS]
   rw [e]
   dsimp only at h2 ⊢
   rw [h2]
   rfl
theorem Tw {d : D} {l n : Nat} {j : Int} {Z : List O} {ds : List D} (h : Z[l]? = some (.lst ds)) (hj : ixN ds.length j = some n) : XC d (.ref l) (.int j) Z = some (Z.set l (.lst (ds.set n d))) := by
 dsimp only [XC]
 rw [h]
 dsimp only
 rw [hj]
theorem Jq {i : Nat} {a : CE} {Y : Env} {Z : List O} {S : SR -> List O -> Prop} : Ws ((Bv (gN i) a).run Y) Z S ↔ Wp (a.run Y) Z (fun d Z' => S (.nx (Y.set i (some d))) Z') (fun x Z' => S (.er x Y) Z') := by
 rw [s_asg, K6]
 constructor
 ·exact fun h => h.mono (fun d Z' q => Ff.mp q) fun _ _ z => z
 ·exact fun h => h.mono (fun d Z' q => Ff.mpr q) fun _ _ z => z
theorem Jo {g : CGs} {n : Nat} {a : CE} {Y : Env} {Z : List O} {S : SR -> List O -> Prop} : Ws ((Bv (gT g n) a).run Y) Z S ↔ Wp (a.run Y) Z (fun d Z' => ∃ ds, d = .tup ds /\ ds.length = n /\ ∃ Y1 Z1, g.run ds Y Z' = some (Y1, Z1) /\ S (.nx Y1) Z1) (fun x Z' => S (.er x Y) Z') := by
 rw [s_asg, K6]
 have key : ∀ d Z', Ws (fun Z => match (gT g n).run d Y Z with
   | some (Y1, Z1) => some (.nx Y1, Z1)
   | none => none) Z' S ↔ ∃ ds, d = .tup ds /\ ds.length = n /\ ∃ Y1 Z1, g.run ds Y Z' = some (Y1, Z1) /\ S (.nx Y1) Z1 := by
  intro d Z'
  constructor
  ·rintro ⟨r, Z2, e, q⟩
   cases d with
   | tup ds =>
    dsimp only [gT] at e
    by_cases h : ds.length = n
    ·rw [if_pos h] at e
     cases h2 : g.run ds Y Z' with
     | none => rw [h2] at e; cases e
     | some p =>
      obtain ⟨Y1, Z1⟩ := p
      rw [h2] at e
      cases e
      exact ⟨ds, rfl, h, _, _, h2, q⟩
    ·rw [if_neg h] at e
     cases e
   | _ => cases e
  ·rintro ⟨ds, rfl, h, Y1, Z1, h2, q⟩
   refine ⟨.nx Y1, Z1, ?_, q⟩
   dsimp only [gT]
   rw [if_pos h, h2]
 constructor
 ·exact fun h => h.mono (fun d Z' q => (key d Z').mp q) fun _ _ z => z
 ·exact fun h => h.mono (fun d Z' q => (key d Z').mpr q) fun _ _ z => z
theorem JL {i : Nat} {g : CGs} {d : D} {ds : List D} {Y : Env} {Z : List O} : (Ak (gN i) g).run (d :: ds) Y Z = g.run ds (Y.set i (some d)) Z := rfl
theorem Pk {Y : Env} {Z : List O} : gsNil.run [] Y Z = some (Y, Z) := rfl
theorem Px {ds : List D} {P : List D -> Prop} : (∃ es, D.tup ds = .tup es /\ P es) ↔ P ds := ⟨fun ⟨_, e, q⟩ => by cases e; exact q, fun q => ⟨_, rfl, q⟩⟩
theorem Xz {Y : Env} {Z : List O} {P : Env -> List O -> Prop} : (∃ Y1 Z1, some (Y, Z) = some (Y1, Z1) /\ P Y1 Z1) ↔ P Y Z := ⟨fun ⟨_, _, e, q⟩ => by cases e; exact q, fun q => ⟨_, _, rfl, q⟩⟩
theorem Jp {a b c : CE} {Y : Env} {Z : List O} {S : SR -> List O -> Prop} : Ws ((Bv (gS a b) c).run Y) Z S ↔ Wp (c.run Y) Z (fun d Z' => Wp (M.bnd (a.run Y) fun o => M.bnd (b.run Y) fun i => M.ret (o, i)) Z' (fun oi Z1 => ∃ Z2, XC d oi.1 oi.2 Z1 = some Z2 /\ S (.nx Y) Z2) (fun _ _ => False)) (fun x Z' => S (.er x Y) Z') := by
 rw [s_asg, K6]
 constructor
 ·exact fun h => h.mono (fun d Z' q => ws_gS.mp q) fun _ _ z => z
 ·exact fun h => h.mono (fun d Z' q => ws_gS.mpr q) fun _ _ z => z
section
variable {i j : Int} {p q : Bool} {x y : Str} {xs ys : List D} {l m : Nat} {d : D} {lo hi : Option Int}
theorem WY : addD (.int i) (.int j) = M.ret (.int (i + j)) := rfl
theorem JW : addD (.str x) (.str y) = if x.length + y.length <= sizeLine then M.ret (.str (x ++ y)) else M.stop := rfl
theorem O2 : addD (.tup xs) (.tup ys) = if xs.length + ys.length <= sizeLine then M.ret (.tup (xs ++ ys)) else M.stop := rfl
theorem LR : addD (.ref l) (.ref m) = M.bnd (M.lst l) fun xs => M.bnd (M.lst m) fun ys => newL (xs ++ ys) := rfl
theorem Wz : subD (.int i) (.int j) = M.ret (.int (i - j)) := rfl
theorem WD : mulD (.int i) (.int j) = if Dh i j then M.ret (.int (i * j)) else M.stop := rfl
theorem Oz : fdivD (.int i) (.int j) = if Mx j then M.ret (.int (i.fdiv j)) else M.stop := rfl
theorem WF : modD (.int i) (.int j) = if j ≠ 0 then M.ret (.int (i.fmod j)) else M.stop := rfl
theorem W6 : powD (.int i) (.int j) = if Qy i j then M.ret (.int (i ^ j.toNat)) else M.stop := rfl
theorem W7 : negD (.int i) = M.ret (.int (-i)) := rfl
theorem o_lt : ltD (.int i) (.int j) = M.ret (.bl (decide (i < j))) := rfl
theorem o_gt : gtD (.int i) (.int j) = M.ret (.bl (decide (j < i))) := rfl
theorem o_ge : geD (.int i) (.int j) = M.ret (.bl (decide (j <= i))) := rfl
theorem o_eq : eqD (.int i) (.int j) = M.ret (.bl (decide (i = j))) := rfl
theorem WP : eqD (.str x) (.str y) = M.ret (.bl (decide (x = y))) := rfl
theorem WQ : eqD (.bl p) (.bl q) = M.ret (.bl (decide (p = q))) := rfl
theorem o_ne : neD (.int i) (.int j) = M.ret (.bl (!decide (i = j))) := rfl
theorem W8 : neD (.str x) (.str y) = M.ret (.bl (!decide (x = y))) := rfl
theorem W9 : neD (.bl p) (.bl q) = M.ret (.bl (!decide (p = q))) := rfl
theorem WM : isnD d .non = M.ret (.bl (!isNone d)) := rfl
theorem Q8 : asB (.bl p) = M.ret p := rfl
theorem WW : asI (.int i) = M.ret (some i) := rfl
theorem Om : lenD [.tup xs] = M.ret (.int xs.length) := rfl
theorem Oq : lenD [.fro xs] = M.ret (.int xs.length) := rfl
theorem Oo : lenD [.ref l] = M.bnd (M.lst l) fun ds => M.ret (.int ds.length) := rfl
theorem o_abs : absD [.int i] = M.ret (.int (if i < 0 then -i else i)) := rfl
theorem O5 : absD [.int i] = M.ret (.int (i.natAbs : Int)) := by
 have e : (if i < 0 then -i else i) = (i.natAbs : Int) := by split <;> omega
 rw [o_abs, e]
theorem WN : intTx [.int i] = M.ret (.int i) := rfl
theorem Ox : intTx [.bl p] = M.ret (.int (if p then 1 else 0)) := rfl
theorem W0 : slD (.tup xs) lo hi = M.ret (.tup (cutD xs lo hi)) := rfl
theorem W4 : slD (.fro xs) lo hi = M.new (.lst (cutD xs lo hi)) := rfl
theorem W3 : slD (.ref l) lo hi = M.bnd (M.lst l) fun ds => M.new (.lst (cutD ds lo hi)) := rfl
theorem JB : Sy [.tup xs] = M.new (.lst xs) := rfl
theorem JD : Sy [.fro xs] = M.new (.lst xs) := rfl
theorem JC : Sy [.ref l] = M.bnd (M.lst l) fun ds => M.new (.lst ds) := rfl
theorem Od : tupleD [.tup xs] = M.ret (.tup xs) := rfl
theorem Hz : tupleD [.ref l] = M.bnd (M.lst l) fun ds => M.ret (.tup ds) := rfl
theorem Oi : newL xs = if xs.length <= sizeLine then M.new (.lst xs) else M.stop := rfl
theorem Og : revD (.tup xs) = M.ret (.tup xs.reverse) := rfl
theorem Oh : revD (.ref l) = M.bnd (M.lst l) fun ds => M.new (.lst ds.reverse) := rfl
theorem WL : maxD [.int i, .int j] = M.ret (.int (if j > i then j else i)) := rfl
theorem WK : minD [.int i, .int j] = M.ret (.int (if j < i then j else i)) := rfl
theorem o_aT : anyW (.tup xs) = M.ret (JQ xs) := rfl
theorem o_aF : anyW (.fro xs) = M.ret (JQ xs) := rfl
theorem o_aL : anyW (.ref l) = M.bnd (M.lst l) fun ds => M.ret (wkL l ds.length) := rfl
theorem o_aS : anyW (.str x) = M.ret (wkS x) := rfl
theorem WR : enW (.tup xs) = M.ret (wkE (JQ xs)) := rfl
theorem WT : enW (.ref l) = M.bnd (M.lst l) fun ds => M.ret (wkE (wkL l ds.length)) := rfl
theorem Xr {w : Wk} : (wkE w).fuel = w.fuel := rfl
theorem Xo : (wkS x).fuel = x.cps.size := rfl
def repL (n : Nat) (xs : List D) : List D := (replicate n xs).flatten
theorem Ol : mulD (.ref l) (.int i) = M.bnd (M.lst l) fun xs => if -(2 ^ 63) <= i /\ i < 2 ^ 63 then newL (repL i.toNat xs) else M.stop := rfl
theorem Oj {i : Int} : mulD (.str x) (.int i) = if -(2 ^ 63) <= i /\ i < 2 ^ 63 /\ x.cps.toList.length * i.toNat <= sizeLine then M.ret (.str (repS x i.toNat)) else M.stop := rfl
theorem Ow {Z : List O} {E : Ex -> List O -> Prop} {P : Unit -> List O -> Prop} : Wp (isT "list" (.ref l)) Z P E ↔ ∃ ds, Z[l]? = some (.lst ds) /\ P () Z := by
 constructor
 ·rintro ⟨r, Z', e, q⟩
  dsimp only [isT] at e
  cases h : Z[l]? with
  | none => rw [h] at e; cases e
  | some o =>
   rw [h] at e
   cases o with
   | ins _ _ => cases e
   | fzd _ => cases e
   | dct z =>
    dsimp only at e
    rw [if_neg ∅] at e
    cases e
   | lst z =>
    dsimp only at e
    rw [if_pos rfl] at e
    cases e
    exact ⟨z, rfl, q⟩
 ·rintro ⟨ds, h, q⟩
  refine ⟨.ok (), Z, ?_, q⟩
  dsimp only [isT]
  rw [h]
  rfl
theorem Ov {x : Str} : isT "str" (.str x) = M.ret () := rfl
theorem MT {d : D} {Z : List O} {E : Ex -> List O -> Prop} {P : D -> List O -> Prop} : Wp (appD (.ref l) [d]) Z P E ↔ ∃ ds, Z[l]? = some (.lst ds) /\ ds.length < sizeLine /\ P .non (Z.set l (.lst (ds ++ [d]))) := by
 unfold Wp appD
 dsimp only
 cases h : Z[l]? with
 | none => simp
 | some o =>
  cases o with
  | dct z => simp
  | ins _ _ => simp
  | fzd _ => simp
  | lst z =>
   dsimp only
   constructor
   ·rintro ⟨r, Z', e, q⟩
    split at e
    ·rename_i hz
     cases e
     exact ⟨z, rfl, hz, q⟩
    ·cases e
   ·rintro ⟨ds, e, hz, q⟩
    cases e
    rw [if_pos hz]
    exact ⟨_, _, rfl, q⟩
theorem K8 {Z : List O} {E : Ex -> List O -> Prop} {P : D -> List O -> Prop} : Wp (popD (.ref l) []) Z P E ↔ ∃ ds, Z[l]? = some (.lst ds) /\ ∃ y, ds[ds.length - 1]? = some y /\ P y (Z.set l (.lst ds.dropLast)) := by
 unfold Wp popD
 dsimp only
 cases h : Z[l]? with
 | none => simp
 | some o =>
  cases o with
  | dct z => simp
  | ins _ _ => simp
  | fzd _ => simp
  | lst z =>
   dsimp only
   cases hy : z[z.length - 1]? with
   | none =>
    constructor
    ·rintro ⟨r, Z', e, q⟩
     cases e
    ·rintro ⟨ds, e, y, hz, q⟩
     cases e
     rw [hy] at hz
     cases hz
   | some y =>
    constructor
    ·rintro ⟨r, Z', e, q⟩
     cases e
     exact ⟨z, rfl, y, hy, q⟩
    ·rintro ⟨ds, e, y', hz, q⟩
     cases e
     rw [hy] at hz
     cases hz
     exact ⟨_, _, rfl, q⟩
theorem Oe : rngW1 (.int i) = if ok62 i then M.ret (wkR 0 i.toNat) else M.stop := rfl
theorem Pu : (JQ xs).fuel = xs.length := rfl
theorem Xq : (wkL l m).fuel = m := rfl
theorem Xp : (wkR i m).fuel = m := rfl
theorem cut_map {a b : Type} {f : a -> b} {zs : List a} : cutD (zs.map f) lo hi = (cutD zs lo hi).map f := by
 unfold cutD
 rw [length_map, List.map_take, List.map_drop]
end
section
variable {a : Type} {Z : List O} {E : Ex -> List O -> Prop} {l : Nat}
theorem Jt {P : List D -> List O -> Prop} : Wp (M.lst l) Z P E ↔ ∃ ds, Z[l]? = some (.lst ds) /\ P ds Z := by
 constructor
 ·rintro ⟨r, Z', e, q⟩
  obtain ⟨ds', h1, h2⟩ := QH e
  cases h2
  exact ⟨_, h1, q⟩
 ·rintro ⟨ds, h, q⟩
  exact (DG h).mpr q
theorem Nu {d : D} {j : Int} {S : List O -> Prop} : (∃ Z2, XC d (.ref l) (.int j) Z = some Z2 /\ S Z2) ↔ ∃ ds, Z[l]? = some (.lst ds) /\ ∃ n, ixN ds.length j = some n /\ S (Z.set l (.lst (ds.set n d))) := by
 constructor
 ·rintro ⟨Z2, e, q⟩
  dsimp only [XC] at e
  cases h : Z[l]? with
  | none => rw [h] at e; cases e
  | some o =>
   cases o with
   | dct z => rw [h] at e; cases e
   | ins _ _ => rw [h] at e; cases e
   | fzd _ => rw [h] at e; cases e
   | lst ds =>
    rw [h] at e
    dsimp only at e
    cases h2 : ixN ds.length j with
    | none => rw [h2] at e; cases e
    | some n =>
     rw [h2] at e
     cases e
     exact ⟨ds, rfl, n, h2, q⟩
 ·rintro ⟨ds, h, n, h2, q⟩
  exact ⟨_, Tw h h2, q⟩
theorem Py {ds : List D} {P : List D -> Prop} : (∃ es, (some (O.lst ds) : Option O) = some (.lst es) /\ P es) ↔ P ds := ⟨fun ⟨_, e, q⟩ => by cases e; exact q, fun q => ⟨_, rfl, q⟩⟩
theorem ex_n {a : Type} {n : a} {P : a -> Prop} : (∃ m, (some n : Option a) = some m /\ P m) ↔ P n := ⟨fun ⟨_, e, q⟩ => by cases e; exact q, fun q => ⟨_, rfl, q⟩⟩
theorem Ef {xs : List O} {c : Nat} : (Z ++ xs)[Z.length + c]? = xs[c]? := by
 rw [getElem?_append_right ⋯]
 congr 1
 omega
theorem Ax {xs : List O} : (Z ++ xs)[Z.length]? = xs[0]? := Ef (c := 0)
theorem V1 {o p : O} {j : Nat} (h : Z[j]? = some p) : (Z ++ [o])[j]? = some p := by
 rw [getElem?_append_left (XqB h).1]
 exact h
theorem Qg {d : D} {p : PyData} {P : D -> List O -> Prop} (h : see Z 62 d = some p) (ho : JV p = true) : Wp (reprD [d]) Z P E ↔ P (.str p.shown) Z := by
 have e : reprD [d] Z = some (.ok (.str p.shown), Z) := by
  show UT d Z = _
  unfold UT
  rw [h]
  simp only [ho, if_true]
 constructor
 ·rintro ⟨r, Z', e2, q⟩
  rw [e] at e2
  cases e2
  exact q
 ·exact fun q => ⟨_, _, e, q⟩
theorem Ou {i : Int} : keyD (.int i) = some (.inl i) := rfl
theorem Ot {i : Str} : keyD (.str i) = some (.inr i) := rfl
theorem set_off {o : O} {xs : List O} {c : Nat} : (Z ++ xs).set (Z.length + c) o = Z ++ xs.set c o := by
 rw [List.set_append_right _ _ ⋯]
 congr 2
 omega
theorem Ge {o : O} {xs : List O} : (Z ++ xs).set Z.length o = Z ++ xs.set 0 o := set_off (c := 0)
theorem Ce {o p : O} (h : Z[l]? = some p) : (Z.set l o)[l]? = some o := getElem?_set_self (XqB h).1
end
section
variable {Z : List O} {S : SR -> List O -> Prop} {Y : Env}
def Trn (next : Env -> List O -> Prop) (S : SR -> List O -> Prop) : SR -> List O -> Prop := fun x Z' => match x with
 | .nx Y1 => next Y1 Z'
 | .ct Y1 => next Y1 Z'
 | .bk Y1 => S (.nx Y1) Z'
 | x => S x Z'
theorem Hu {t : Env -> M Bool} {b : Env -> Ms} {n : Nat} : Ws (whl t b (n + 1) Y) Z S ↔ Wp (t Y) Z (fun c Z1 => if c = true then Ws (b Y) Z1 (Trn (fun Y1 Z2 => Ws (whl t b n Y1) Z2 S) S) else S (.nx Y) Z1) (fun x Z' => S (.er x Y) Z') := by
 show Ws (Ms.of (t Y) Y _) Z S ↔ _
 rw [K6]
 constructor
 ·refine fun h => h.mono (fun c Z1 h => ?_) fun _ _ z => z
  cases c with
  | false => rw [if_neg Bool.false_ne_true] at h ⊢; exact Ff.mp h
  | true =>
   rw [if_pos rfl] at h ⊢
   obtain ⟨r, Z', e, q⟩ := h
   dsimp only at e
   cases e1 : b Y Z1 with
   | none => rw [e1] at e; cases e
   | some p =>
    obtain ⟨r3, Z3⟩ := p
    rw [e1] at e
    refine ⟨r3, Z3, e1, ?_⟩
    cases r3 with
    | nx Y3 => exact ⟨r, Z', e, q⟩
    | ct Y3 => exact ⟨r, Z', e, q⟩
    | _ => cases e; exact q
 ·refine fun h => h.mono (fun c Z1 h => ?_) fun _ _ z => z
  cases c with
  | false => rw [if_neg Bool.false_ne_true] at h ⊢; exact Ff.mpr h
  | true =>
   rw [if_pos rfl] at h ⊢
   obtain ⟨r3, Z3, e1, q⟩ := h
   unfold Ws
   dsimp only
   rw [e1]
   cases r3 with
   | nx Y3 => exact q
   | ct Y3 => exact q
   | _ => exact ⟨_, _, rfl, q⟩
theorem ws_for {ds : List D} {g : CG} {b : CB} (Inv : Nat -> Env -> List O -> Prop) (h0 : Inv 0 Y Z)
  (step : ∀ i d Y Z, ds[i]? = some d -> Inv i Y Z -> ∃ Y1 Z1, g.run d Y Z = some (Y1, Z1) /\ Ws (b.run Y1) Z1 (Trn (Inv (i + 1)) S))
  (done : ∀ Y Z, Inv ds.length Y Z -> S (.nx Y) Z) : Ws (Bw (JQ ds) g b ds.length 0 Y) Z S := by
 have go : ∀ n i Y Z, i + n = ds.length -> Inv i Y Z -> Ws (Bw (JQ ds) g b n i Y) Z S := by
  intro n
  induction n with
  | zero =>
   intro i Y Z e h
   have e' : i = ds.length := by omega
   subst e'
   exact ⟨.nx Y, Z, by simp [Bw, JQ], done Y Z h⟩
  | succ n ih =>
   intro i Y Z e h
   have hi : i < ds.length := by omega
   have hd := getElem?_eq_getElem hi
   obtain ⟨Y1, Z1, e1, r, Z2, e2, q⟩ := step i _ Y Z hd h
   unfold Ws
   dsimp only [Bw, JQ]
   rw [hd]
   dsimp only
   rw [e1]
   dsimp only
   rw [e2]
   cases r with
   | nx Y3 => exact ih (i + 1) Y3 Z2 ⋯ q
   | ct Y3 => exact ih (i + 1) Y3 Z2 ⋯ q
   | _ => exact ⟨_, _, rfl, q⟩
 exact go ds.length 0 Y Z ⋯ h0
theorem ws_forW {w : Wk} {g : CG} {b : CB} {m : Nat} (n : Nat) (item : Nat -> D) (h1 : ∀ i Z, i < n -> w.get i Z = some (some (item i))) (h2 : ∀ Z, w.get n Z = some none) (hm : n <= m) (Inv : Nat -> Env -> List O -> Prop) (h0 : Inv 0 Y Z)
  (step : ∀ i Y Z, i < n -> Inv i Y Z -> ∃ Y1 Z1, g.run (item i) Y Z = some (Y1, Z1) /\ Ws (b.run Y1) Z1 (Trn (Inv (i + 1)) S))
  (done : ∀ Y Z, Inv n Y Z -> S (.nx Y) Z) : Ws (Bw w g b m 0 Y) Z S := by
 have go : ∀ m k i Y Z, i + k = n -> k <= m -> Inv i Y Z -> Ws (Bw w g b m i Y) Z S := by
  intro m
  induction m with
  | zero =>
   intro k i Y Z e hk h
   have e' : i = n := by omega
   subst e'
   exact ⟨.nx Y, Z, by dsimp only [Bw]; rw [h2], done Y Z h⟩
  | succ m ih =>
   intro k i Y Z e hk h
   by_cases hi : i < n
   ·obtain ⟨Y1, Z1, e1, r, Z2, e2, q⟩ := step i Y Z hi h
    unfold Ws
    dsimp only [Bw]
    rw [h1 i Z hi]
    dsimp only
    rw [e1]
    dsimp only
    rw [e2]
    cases r with
    | nx Y3 => exact ih (k - 1) (i + 1) Y3 Z2 ⋯ ⋯ q
    | ct Y3 => exact ih (k - 1) (i + 1) Y3 Z2 ⋯ ⋯ q
    | _ => exact ⟨_, _, rfl, q⟩
   ·have e' : i = n := by omega
    subst e'
    exact ⟨.nx Y, Z, by dsimp only [Bw]; rw [h2], done Y Z h⟩
 exact go m n 0 Y Z ⋯ hm h0
theorem Nf {next : Env -> List O -> Prop} {Y1 : Env} : Trn next S (.nx Y1) Z ↔ next Y1 Z := Iff.rfl
theorem Nk {next : Env -> List O -> Prop} {Y1 : Env} : Trn next S (.ct Y1) Z ↔ next Y1 Z := Iff.rfl
theorem Nm {next : Env -> List O -> Prop} {Y1 : Env} : Trn next S (.bk Y1) Z ↔ S (.nx Y1) Z := Iff.rfl
theorem Nb {next : Env -> List O -> Prop} {d : D} : Trn next S (.rt d) Z ↔ S (.rt d) Z := Iff.rfl
theorem Nh {next : Env -> List O -> Prop} {x : Ex} {Y1 : Env} : Trn next S (.er x Y1) Z ↔ S (.er x Y1) Z := Iff.rfl
theorem Qc {lo : Int} {n : Nat} {g : CG} {b : CB} (Inv : Nat -> Env -> List O -> Prop) (h0 : Inv 0 Y Z)
  (step : ∀ i Y Z, i < n -> Inv i Y Z -> ∃ Y1 Z1, g.run (.int (lo + i)) Y Z = some (Y1, Z1) /\ Ws (b.run Y1) Z1 (Trn (Inv (i + 1)) S))
  (done : ∀ Y Z, Inv n Y Z -> S (.nx Y) Z) : Ws (Bw (wkR lo n) g b n 0 Y) Z S := by
 have go : ∀ m i Y Z, i + m = n -> Inv i Y Z -> Ws (Bw (wkR lo n) g b m i Y) Z S := by
  intro m
  induction m with
  | zero =>
   intro i Y Z e h
   have e' : i = n := by omega
   subst e'
   exact ⟨.nx Y, Z, by simp [Bw, wkR], done Y Z h⟩
  | succ m ih =>
   intro i Y Z e h
   have hi : i < n := by omega
   obtain ⟨Y1, Z1, e1, r, Z2, e2, q⟩ := step i Y Z hi h
   unfold Ws
   dsimp only [Bw, wkR]
   rw [if_pos hi]
   dsimp only
   rw [e1]
   dsimp only
   rw [e2]
   cases r with
   | nx Y3 => exact ih (i + 1) Y3 Z2 ⋯ q
   | ct Y3 => exact ih (i + 1) Y3 Z2 ⋯ q
   | _ => exact ⟨_, _, rfl, q⟩
 exact go n 0 Y Z ⋯ h0
theorem Qe {l : Nat} {ds : List D} {g : CG} {b : CB} (Inv : Nat -> Env -> List O -> Prop) (h0 : Inv 0 Y Z) (hl : ∀ i Y Z, Inv i Y Z -> Z[l]? = some (.lst ds))
  (step : ∀ i d Y Z, ds[i]? = some d -> Inv i Y Z -> ∃ Y1 Z1, g.run d Y Z = some (Y1, Z1) /\ Ws (b.run Y1) Z1 (Trn (Inv (i + 1)) S))
  (done : ∀ Y Z, Inv ds.length Y Z -> S (.nx Y) Z) : Ws (Bw (wkL l ds.length) g b ds.length 0 Y) Z S := by
 have go : ∀ n i Y Z, i + n = ds.length -> Inv i Y Z -> Ws (Bw (wkL l ds.length) g b n i Y) Z S := by
  intro n
  induction n with
  | zero =>
   intro i Y Z e h
   have e' : i = ds.length := by omega
   subst e'
   exact ⟨.nx Y, Z, by simp [Bw, wkL, hl _ _ _ h], done Y Z h⟩
  | succ n ih =>
   intro i Y Z e h
   have hi : i < ds.length := by omega
   have hd := getElem?_eq_getElem hi
   obtain ⟨Y1, Z1, e1, r, Z2, e2, q⟩ := step i _ Y Z hd h
   unfold Ws
   dsimp only [Bw, wkL]
   rw [hl _ _ _ h]
   dsimp only
   rw [hd]
   dsimp only
   rw [e1]
   dsimp only
   rw [e2]
   cases r with
   | nx Y3 => exact ih (i + 1) Y3 Z2 ⋯ q
   | ct Y3 => exact ih (i + 1) Y3 Z2 ⋯ q
   | _ => exact ⟨_, _, rfl, q⟩
 exact go ds.length 0 Y Z ⋯ h0
end
section
variable {w : Wk} {g : CG} {f : Env -> M Bool} {e : Env -> M D} {Y : Env} {Z : List O} {P : D -> List O -> Prop} {E : Ex -> List O -> Prop}
theorem V5 (n : Nat) (Inv : Nat -> List D -> List O -> Prop) (hn : n <= w.fuel) (h0 : Inv 0 [] (Z ++ [.lst []]))
  (step : ∀ i acc Z', i < n -> Inv i acc Z' -> ∃ d, w.get i Z' = some (some d) /\ ∃ Y1 Z1, g.run d Y Z' = some (Y1, Z1) /\ Wp (f Y1) Z1 (fun b Z2 => if b = true then
   Wp (e Y1) Z2 (fun y Z3 => ∃ acc', Z3[Z.length]? = some (.lst acc') /\ acc'.length < sizeLine /\ Inv (i + 1) (acc' ++ [y]) (Z3.set Z.length (.lst (acc' ++ [y])))) (fun _ _ => False)
   else ∃ acc', Inv (i + 1) acc' Z2) (fun _ _ => False))
  (done : ∀ acc Z', Inv n acc Z' -> w.get n Z' = some none /\ P (.ref Z.length) Z') : Wp (lcM w g f e Y) Z P E := by
 have go : ∀ m k i acc Z', i + k = n -> k <= m -> Inv i acc Z' -> ∃ Z2, JH w g f e Z.length Y m i Z' = some (.ok (.ref Z.length), Z2) /\ P (.ref Z.length) Z2 := by
  intro m
  induction m with
  | zero =>
   intro k i acc Z' e1 hk h
   have e' : i = n := by omega
   subst e'
   obtain ⟨d1, d2⟩ := done acc Z' h
   exact ⟨Z', by dsimp only [JH]; rw [d1], d2⟩
  | succ m ih =>
   intro k i acc Z' e1 hk h
   by_cases hi : i < n
   ·obtain ⟨d, h1, Y1, Z1, h2, r, Z2, h3, q⟩ := step i acc Z' hi h
    cases r with
    | error x => exact q.elim
    | ok b =>
     cases b with
     | false =>
      dsimp only at q
      rw [if_neg Bool.false_ne_true] at q
      obtain ⟨acc', q⟩ := q
      obtain ⟨Z4, h4, q4⟩ := ih (k - 1) (i + 1) acc' Z2 ⋯ ⋯ q
      refine ⟨Z4, ?_, q4⟩
      dsimp only [JH]
      rw [h1]; dsimp only
      rw [h2]; dsimp only
      rw [h3]
      exact h4
     | true =>
      dsimp only at q
      rw [if_pos rfl] at q
      obtain ⟨r2, Z3, h4, q⟩ := q
      cases r2 with
      | error x => exact q.elim
      | ok y =>
       obtain ⟨acc', h5, h6, q⟩ := q
       obtain ⟨Z5, h7, q5⟩ := ih (k - 1) (i + 1) _ _ ⋯ ⋯ q
       refine ⟨Z5, ?_, q5⟩
       dsimp only [JH]
       rw [h1]; dsimp only
       rw [h2]; dsimp only
       rw [h3]; dsimp only
       rw [h4]; dsimp only
       rw [h5]; dsimp only
       rw [if_pos h6]
       exact h7
   ·have e' : i = n := by omega
    subst e'
    obtain ⟨d1, d2⟩ := done acc Z' h
    exact ⟨Z', by dsimp only [JH]; rw [d1], d2⟩
 obtain ⟨Z2, h1, h2⟩ := go w.fuel n 0 [] (Z ++ [.lst []]) ⋯ hn h0
 exact ⟨.ok (.ref Z.length), Z2, h1, h2⟩
end
end Mi
namespace Mi
open PySem L2 PyProof.Rows
section
variable {Y : Env} {Z : List O} {P : D -> List O -> Prop} {E : Ex -> List O -> Prop} {S : SR -> List O -> Prop} {l : Nat} {c f m : Str} {o : CE} {a : CA} {e : CE} {mr : List D -> M D} {fs : List (Str × D)} {ds : List D}
theorem Wl : (cFld c f o).run Y = M.bnd (o.run Y) (fldD c f) := rfl
theorem NT : (cMeth c m mr o a).run Y = M.bnd (o.run Y) fun x => M.bnd (M.obj c x) fun p => if (p.2.lookup m).isNone = true then M.bnd (a.run Y) fun ds => mr (x :: ds) else M.stop := rfl
theorem K9 {P : Nat × List (Str × D) -> List O -> Prop} : Wp (M.obj c (.ref l)) Z P E ↔ ∃ fs, Z[l]? = some (.ins c fs) /\ P (l, fs) Z := by
 constructor
 ·rintro ⟨r, Z', h, q⟩
  obtain ⟨l', fs, h1, h2, h3⟩ := obj_some h
  cases h1
  cases h3
  exact ⟨fs, h2, q⟩
 ·rintro ⟨fs, h, q⟩
  exact ⟨.ok (l, fs), Z, by unfold M.obj; dsimp only; rw [h]; dsimp only; rw [if_pos rfl], q⟩
theorem PB {P : List (Str × D) -> Prop} : (∃ gs, (some (O.ins c fs) : Option O) = some (.ins c gs) /\ P gs) ↔ P fs := ⟨fun ⟨_, e, q⟩ => by cases e; exact q, fun q => ⟨_, rfl, q⟩⟩
theorem MP : Wp (fldD c f (.ref l)) Z P E ↔ ∃ fs, Z[l]? = some (.ins c fs) /\ ∃ d, fs.lookup f = some d /\ P d Z := by
 unfold fldD
 rw [Cq, K9]
 constructor
 ·rintro ⟨fs, h, q⟩
  refine ⟨fs, h, ?_⟩
  dsimp only at q
  cases hl : fs.lookup f with
  | none => rw [hl] at q; exact (Gz.mp q).elim
  | some d => rw [hl] at q; exact ⟨d, rfl, Aj.mp q⟩
 ·rintro ⟨fs, h, d, hl, q⟩
  refine ⟨fs, h, ?_⟩
  dsimp only
  rw [hl]
  exact Aj.mpr q
theorem Jm {p : Nat × List (Str × D)} {d : D} : Ws (fun Z => if p.2.length < 1000 then some (SR.nx Y, Z.set p.1 (.ins c (Y7 f d p.2))) else none) Z S ↔ p.2.length < 1000 /\ S (.nx Y) (Z.set p.1 (.ins c (Y7 f d p.2))) := by
 constructor
 ·rintro ⟨r, Z', h, q⟩
  dsimp only at h
  split at h
  ·rename_i hz
   cases h
   exact ⟨hz, q⟩
  ·cases h
 ·rintro ⟨hz, q⟩
  exact ⟨_, _, if_pos hz, q⟩
end
end Mi
namespace Mi
open PySem L2 PyProof.Rows
structure Gr (l : Nat) (Z Z' : List O) : Prop where
 len : Z.length <= Z'.length
 at_ : ∀ (j : Nat) o, j ≠ l -> Z[j]? = some o -> Z'[j]? = some o
structure Gr0 (Z Z' : List O) : Prop where
 len : Z.length <= Z'.length
 at_ : ∀ (j : Nat) o, Z[j]? = some o -> Z'[j]? = some o
theorem Gr0.refl (Z : List O) : Gr0 Z Z := ⟨XqG, fun _ _ h => h⟩
theorem Gr0.trans {a b c : List O} (x : Gr0 a b) (y : Gr0 b c) : Gr0 a c := ⟨Nat.le_trans x.len y.len, fun j o h => y.at_ j o (x.at_ j o h)⟩
theorem Gr0.gr {l : Nat} {a b : List O} (x : Gr0 a b) : Gr l a b := ⟨x.len, fun j o _ h => x.at_ j o h⟩
theorem Gr.set_off {l L : Nat} {a b : List O} {o : O} (x : Gr l a b) (h : a.length <= L) : Gr l a (b.set L o) := ⟨by simpa using x.len, fun j p n e => by
 have := (XqB e).1
 rw [getElem?_set_ne ⋯]
 exact x.at_ j p n e⟩
theorem Gr.off {l : Nat} {a b : List O} (x : Gr l a b) (h : a.length <= l) : Gr0 a b := ⟨x.len, fun j o e => x.at_ j o (by have := (XqB e).1; omega) e⟩
theorem Gr.refl (l : Nat) (Z : List O) : Gr l Z Z := ⟨XqG, fun _ _ _ h => h⟩
theorem Gr.trans {l : Nat} {a b c : List O} (x : Gr l a b) (y : Gr l b c) : Gr l a c := ⟨Nat.le_trans x.len y.len, fun j o n h => y.at_ j o n (x.at_ j o n h)⟩
theorem Gr0.app (Z ν : List O) : Gr0 Z (Z ++ ν) := ⟨by simp, fun j o h => by rw [getElem?_append_left (XqB h).1]; exact h⟩
theorem Gr.set (l : Nat) (Z : List O) (o : O) : Gr l Z (Z.set l o) := ⟨by simp, fun j o' n h => by rw [getElem?_set_ne (Ne.symm n)]; exact h⟩
theorem Gr0.put {l : Nat} {Z Z' : List O} {o : O} (x : Gr l Z Z') : Gr0 (Z.set l o) (Z'.set l o) := by
 refine ⟨by simpa using x.len, fun j o' h => ?_⟩
 by_cases hj : j = l
 ·subst hj
  have hl : j < Z.length := by
   have := (XqB h).1
   simpa using this
  rw [getElem?_set_self hl] at h
  rw [getElem?_set_self (Nat.lt_of_lt_of_le hl x.len)]
  exact h
 ·rw [getElem?_set_ne (Ne.symm hj)] at h ⊢
  exact x.at_ j o' hj h
theorem Ij {f g : D -> Option PyData} (h : ∀ d p, f d = some p -> g d = some p) : ∀ {ds : List D} {ps : List PyData}, Fb f ds = some ps -> Fb g ds = some ps
 | [], _, e => e
 | d :: ds, ps, e => by
  unfold Fb at e ⊢
  cases e1 : f d with
  | none => rw [e1] at e; cases e
  | some a =>
   cases e2 : Fb f ds with
   | none => rw [e1, e2] at e; cases e
   | some b =>
    rw [e1, e2] at e
    rw [h d a e1, Ij h e2]
    exact e
theorem Ry {f g : D -> Option PyData} (h : ∀ d p, f d = some p -> g d = some p) : ∀ {ds : List (Key × D)} {ps : List (PyData × PyData)}, XD f ds = some ps -> XD g ds = some ps
 | [], _, e => e
 | (k, d) :: ds, ps, e => by
  unfold XD at e ⊢
  cases e1 : f d with
  | none => rw [e1] at e; cases e
  | some a =>
   cases e2 : XD f ds with
   | none => rw [e1, e2] at e; cases e
   | some b =>
    rw [e1, e2] at e
    rw [h d a e1, Ry h e2]
    exact e
theorem Qp {Z Z' : List O} (x : ∀ (j : Nat) o, Z[j]? = some o -> Z'[j]? = some o) : ∀ {n m : Nat} {d : D} {p : PyData}, n <= m -> see Z n d = some p -> see Z' m d = some p
 | 0, _, _, _, _, h => by cases h
 | n + 1, 0, _, _, hm, _ => by omega
 | n + 1, m + 1, d, p, hm, h => by
  have ih : ∀ d p, see Z n d = some p -> see Z' m d = some p := fun d p e => Qp x ⋯ e
  cases d with
  | non => exact h
  | bl b => exact h
  | int i => exact h
  | str s => exact h
  | fro ds => cases h
  | fn _ => cases h
  | tpl _ => cases h
  | tup ds =>
   have h' : (Fb (see Z n) ds).map PyData.tuple = some p := h
   show (Fb (see Z' m) ds).map PyData.tuple = some p
   cases e1 : Fb (see Z n) ds with
   | none => rw [e1] at h'; cases h'
   | some ps =>
    rw [e1] at h'
    rw [Ij ih e1]
    exact h'
  | ref l =>
   cases e0 : Z[l]? with
   | none =>
    dsimp only [see] at h
    rw [e0] at h
    cases h
   | some o =>
    have e0' := x l o e0
    dsimp only [see] at h ⊢
    rw [e0] at h
    rw [e0']
    cases o with
    | ins _ _ => cases h
    | fzd _ => cases h
    | lst ds =>
     dsimp only at h ⊢
     cases e1 : Fb (see Z n) ds with
     | none => rw [e1] at h; cases h
     | some ps =>
      rw [e1] at h
      rw [Ij ih e1]
      exact h
    | dct ds =>
     dsimp only at h ⊢
     cases e1 : XD (see Z n) ds with
     | none => rw [e1] at h; cases h
     | some ps =>
      rw [e1] at h
      rw [Ry ih e1]
      exact h
structure Fit (n w : Nat) (p : PyData) : Prop where
 sh : p.showable = true
 lv : p.leavesShort 2000 = true
 wt : p.weight <= w
 dp : p.depth <= n
theorem Fit.ok {n w : Nat} {p : PyData} (f : Fit n w p) (hn : n <= 60) (hw : w <= 8000) : JV p = true := by
 have h := PyData.shown_le 2000 ⋯ p f.lv
 have h2 : (2000 + 2) * p.weight <= 2002 * 8000 := Nat.mul_le_mul XqG (Nat.le_trans f.wt hw)
 have hs := sizeLine_eq
 unfold JV
 simp only [and_eq_true, decide_eq_true_eq]
 exact ⟨f.sh, ⋯, Nat.le_trans f.dp hn⟩
def Sn (l : Nat) (Z : List O) (n w : Nat) (d : D) : Prop := ∃ p, (∀ o, see (Z.set l o) (n + 1) d = some p) /\ Fit n w p
theorem Sn.up {l : Nat} {Z Z' : List O} {n m w v : Nat} {d : D} (h : Sn l Z n w d) (x : Gr l Z Z') (hn : n <= m) (hw : w <= v) : Sn l Z' m v d := by
 obtain ⟨p, h1, h2⟩ := h
 exact ⟨p, fun o => Qp (Gr0.put x).at_ ⋯ (h1 o), h2.sh, h2.lv, Nat.le_trans h2.wt hw, Nat.le_trans h2.dp hn⟩
theorem Kr {Z : List O} {l : Nat} {o : O} (h : Z[l]? = some o) : Z.set l o = Z := by
 apply ext_getElem?
 intro j
 by_cases hj : j = l
 ·subst hj
  rw [getElem?_set_self (XqB h).1, h]
 ·rw [getElem?_set_ne (Ne.symm hj)]
theorem Sn.see {l : Nat} {Z : List O} {n w : Nat} {d : D} (h : Sn l Z n w d) (hl : ∃ o, Z[l]? = some o) : ∃ p, see Z (n + 1) d = some p /\ Fit n w p := by
 obtain ⟨p, h1, h2⟩ := h
 obtain ⟨o, e⟩ := hl
 refine ⟨p, ?_, h2⟩
 have := h1 o
 rw [Kr e] at this
 exact this
section
variable {l : Nat} {Z : List O} {n w v : Nat} {a b : D}
def Sns (l : Nat) (Z : List O) (n w : Nat) (ds : List D) : Prop := ∃ ps, (∀ o, Fb (see (Z.set l o) (n + 1)) ds = some ps) /\ PyData.showableAll ps = true /\ PyData.leavesShortAll 2000 ps = true /\ PyData.weightAll ps <= w /\ PyData.depthAll ps <= n
theorem Sns.up {Z' : List O} {m u : Nat} {ds : List D} (h : Sns l Z n w ds) (x : Gr l Z Z') (hn : n <= m) (hw : w <= u) : Sns l Z' m u ds := by
 obtain ⟨ps, h3, h4, h5, h6, h7⟩ := h
 exact ⟨ps, fun o => Ij (fun d p e => Qp (Gr0.put x).at_ ⋯ e) (h3 o), h4, h5, Nat.le_trans h6 hw, Nat.le_trans h7 hn⟩
theorem Sn.wide {m u : Nat} (h : Sn l Z n w a) (hn : n <= m) (hw : w <= u) : Sn l Z m u a := h.up (Gr.refl _ _) hn hw
end
end Mi
namespace Mi
open PySem L2 PyProof.Rows
section
variable {a : Type} {Y : Env} {Z : List O} {P : D -> List O -> Prop} {E : Ex -> List O -> Prop} {l m : Nat} {d : D}
theorem Xk {x y z : CE} : (iZp3 x y z).run Y = M.bnd (x.run Y) fun x => M.bnd (y.run Y) fun y => M.bnd (z.run Y) fun z => XQ x y z := rfl
theorem J9 {i : Int} : stepD (.ref l) (.int i) = if i = 1 \/ i = -1 then M.bnd (M.lst l) fun ds => M.new (.lst (if i = 1 then ds else ds.reverse)) else M.stop := rfl
theorem wp_zip3 {x y z : D} {xs ys zs : List D} {P : Wk -> List O -> Prop} (h1 : U3 x Z = some xs) (h2 : U3 y Z = some ys) (h3 : U3 z Z = some zs) : Wp (XQ x y z) Z P E ↔ P (wkZ3 x y z xs.length) Z := by
 have e : XQ x y z Z = some (.ok (wkZ3 x y z xs.length), Z) := by
  unfold XQ
  rw [h1, h2, h3]
 exact ⟨fun ⟨r, Z', e2, q⟩ => by rw [e] at e2; cases e2; exact q, fun q => ⟨_, _, e, q⟩⟩
theorem Ux {x y z : D} {xs ys zs : List D} {n i : Nat} (h1 : U3 x Z = some xs) (h2 : U3 y Z = some ys) (h3 : U3 z Z = some zs) (l1 : i <= xs.length) (l2 : i <= ys.length) (l3 : i <= zs.length) : (wkZ3 x y z n).get i Z = match xs[i]?, ys[i]?, zs[i]? with
   | some a, some b, some c => some (some (.tup [a, b, c]))
   | _, _, _ => some none := by
 dsimp only [wkZ3]
 rw [h1, h2, h3]
 dsimp only
 rw [if_pos ⟨l1, l2, l3⟩]
 try (cases xs[i]? <;> cases ys[i]? <;> cases zs[i]? <;> rfl)
theorem HJ {P : List (Key × D) -> List O -> Prop} : Wp (M.dct l) Z P E ↔ ∃ kvs, Z[l]? = some (.dct kvs) /\ P kvs Z := by
 constructor
 ·rintro ⟨r, Z', e, q⟩
  unfold M.dct at e
  cases h : Z[l]? with
  | none => rw [h] at e; cases e
  | some o =>
   rw [h] at e
   cases o with
   | lst _ => cases e
   | ins _ _ => cases e
   | fzd _ => cases e
   | dct kvs => cases e; exact ⟨kvs, rfl, q⟩
 ·rintro ⟨kvs, h, q⟩
  exact ⟨.ok kvs, Z, by unfold M.dct; rw [h], q⟩
theorem PL {kvs : List (Key × D)} {P : List (Key × D) -> Prop} : (∃ es, (some (O.dct kvs) : Option O) = some (.dct es) /\ P es) ↔ P kvs := ⟨fun ⟨_, e, q⟩ => by cases e; exact q, fun q => ⟨_, rfl, q⟩⟩
theorem Ib {x : Str} : ixD (.ref l) (.str x) = M.bnd (M.dct l) fun kvs => match valD kvs (.inr x) with
  | some d => M.ret d
  | none => M.stop := rfl
theorem KY {x : Str} {S : List O -> Prop} : (∃ Z2, XC d (.ref l) (.str x) Z = some Z2 /\ S Z2) ↔ ∃ kvs, Z[l]? = some (.dct kvs) /\ kvs.length < sizeLine /\ S (Z.set l (.dct (G7 kvs (.inr x) d))) := by
 dsimp only [XC]
 constructor
 ·rintro ⟨Z2, e, q⟩
  cases h : Z[l]? with
  | none => rw [h] at e; cases e
  | some o =>
   rw [h] at e
   cases o with
   | lst _ => cases e
   | ins _ _ => cases e
   | fzd _ => cases e
   | dct kvs =>
    dsimp only at e
    by_cases hz : kvs.length < sizeLine
    ·rw [if_pos hz] at e; cases e; exact ⟨kvs, rfl, hz, q⟩
    ·rw [if_neg hz] at e; cases e
 ·rintro ⟨kvs, h, hz, q⟩
  rw [h]
  exact ⟨_, if_pos hz, q⟩
theorem LQ {P : Unit -> List O -> Prop} : Wp (isT "dict" (.ref l)) Z P E ↔ ∃ kvs, Z[l]? = some (.dct kvs) /\ P () Z := by
 dsimp only [isT]
 constructor
 ·rintro ⟨r, Z', e, q⟩
  dsimp only at e
  cases h : Z[l]? with
  | none => rw [h] at e; cases e
  | some o =>
   rw [h] at e
   cases o with
   | lst _ => simp at e
   | ins _ _ => simp at e
   | fzd _ => simp at e
   | dct kvs => simp at e; obtain ⟨rfl, rfl⟩ := e; exact ⟨kvs, rfl, q⟩
 ·rintro ⟨kvs, h, q⟩
  exact ⟨.ok (), Z, by dsimp only; rw [h]; simp, q⟩
theorem Hh : Wp (popAD (.ref l) []) Z P E ↔ ∃ ds, Z[l]? = some (.lst ds) /\ ∃ y, ds[ds.length - 1]? = some y /\ P y (Z.set l (.lst ds.dropLast)) := K8
theorem Qh {j : Nat} {ds : List D} {y : D} (h : Z[l]? = some (.lst ds)) (hy : ds[j]? = some y) (hj : j < 2 ^ 62) : Wp (popAD (.ref l) [.int j]) Z P E ↔ P y (Z.set l (.lst (ds.eraseIdx j))) := by
 have hl := (XqB hy).1
 have e : popAD (.ref l) [.int j] Z = some (.ok y, Z.set l (.lst (ds.eraseIdx j))) := by
  dsimp only [popAD]
  rw [h]
  dsimp only
  rw [if_pos ⋯]
  have hs : seqIndex? (j : Int) ds.length = some j := by
   unfold seqIndex?
   first
    | (rw [if_neg ⋯]; simp; omega)
    | (simp; omega)
  rw [hs]
  dsimp only
  rw [hy]
 exact ⟨fun ⟨r, Z', e2, q⟩ => by rw [e] at e2; cases e2; exact q, fun q => ⟨.ok y, _, e, q⟩⟩
theorem wp_join {x : Str} {ys : List Str} (h : HS Z d = some ys) (hz : (ys.map (·.length)).sum + ys.length * x.length <= 16777216) : Wp (joinD (.str x) [d]) Z P E ↔ P (.str (Txt.join x ys)) Z := by
 have e : joinD (.str x) [d] Z = some (.ok (.str (Txt.join x ys)), Z) := by
  dsimp only [joinD]
  rw [h]
  dsimp only
  rw [if_pos hz]
 exact ⟨fun ⟨r, Z', e2, q⟩ => by rw [e] at e2; cases e2; exact q, fun q => ⟨.ok _, _, e, q⟩⟩
theorem wp_inK {neg : Bool} {k : Key} {kvs : List (Key × D)} (h : Z[l]? = some (.dct kvs)) (hk : keyD d = some k) : Wp (inD neg d (.ref l)) Z P E ↔ P (.bl (if neg then !(valD kvs k).isSome else (valD kvs k).isSome)) Z := by
 have e : inD neg d (.ref l) Z = some (.ok (.bl (if neg then !(valD kvs k).isSome else (valD kvs k).isSome)), Z) := by
  cases d with
  | int i => dsimp only [inD]; rw [h]; dsimp only; rw [hk]; rfl
  | str i => dsimp only [inD]; rw [h]; dsimp only; rw [hk]; rfl
  | _ => cases hk
 exact ⟨fun ⟨r, Z', e2, q⟩ => by rw [e] at e2; cases e2; exact q, fun q => ⟨.ok _, _, e, q⟩⟩
theorem Ro {neg : Bool} {es : List D} (h : Z[l]? = some (.lst es)) : Wp (inD neg d (.ref l)) Z P E ↔ Wp (Zo neg d es) Z P E := by
 have e : inD neg d (.ref l) Z = Zo neg d es Z := by
  cases d <;> (dsimp only [inD]; rw [h])
 unfold Wp
 rw [e]
theorem Ho {neg : Bool} {x : Str} {xs : List Str} : Zo neg (.str x) (xs.map .str) = M.ret (.bl (if neg then !decide (x ∈ xs) else decide (x ∈ xs))) := by
 have e : Kc (xs.map D.str) = some (xs.map V.str) := by
  induction xs with
  | nil => rfl
  | cons y r ih => rw [map_cons, map_cons]; unfold Kc; rw [ih]; rfl
 unfold Zo
 rw [e]
 show M.ret _ = _
 have i : inV (.str x) (xs.map V.str) = decide (x ∈ xs) := by
  rw [Bool.eq_iff_iff, decide_eq_true_eq]
  unfold inV
  rw [List.any_map, any_eq_true]
  constructor
  ·rintro ⟨y, hy, e⟩
   have : y = x := by simpa [eqV] using e
   rw [<- this]; exact hy
  ·intro hx
   exact ⟨x, hx, by simp [eqV]⟩
 rw [i]
theorem wp_eqn {neg : Bool} {xs : List D} (h1 : Z[l]? = some (.lst xs)) (h2 : Z[m]? = some (.lst [])) : Wp (eqnD neg (.ref l) (.ref m)) Z P E ↔ P (.bl (if neg then !xs.isEmpty else xs.isEmpty)) Z := by
 have e : eqnD neg (.ref l) (.ref m) Z = some (.ok (.bl (if neg then !xs.isEmpty else xs.isEmpty)), Z) := by
  dsimp only [eqnD]
  rw [h1, h2]
 exact ⟨fun ⟨r, Z', e2, q⟩ => by rw [e] at e2; cases e2; exact q, fun q => ⟨.ok _, _, e, q⟩⟩
end
end Mi
open PySem L2 PyProof.Rows Mi
local macro_rules | `(tactic| walk_at "mi") => `(tactic| simp only [Ig, HH, MJ, Xb, Xa, Xe, Xd, Xc, Xv, Xu, Xw, Jq, Jo, JL, Pk, Px, Xz, Jp, K6, Ff, Cq, Aj, KC, MK, Ju, Gz, VM, Wi, r_bl, VP, We, Wj, Wf, NZ, VN, Wh, Wn, Wm, NP, NB, NK, Oc, Wb, Wo, r_or, r_if, N7, N8, VL, Wd, Wg, r_ix, J8, Wc, NQ, r_B, Oa, Ny, s_ret, s_if, V9, s_while, VB, i_A, i_En, Xk, J9, VR, Nv, Wl, NT, MP, K9, PB, Jm, r_m0, r_m, Mv, Xx, Lk, Jx, r_lc, Og, Oh, WL, WK, o_aT, o_aF, o_aL, o_aS, WR, WT, Xr, Xo, Ol, Oj, Ow, Ov, Option.map_some, HJ, PL, Ib, KY, LQ, Hh, MT, K8, i_R1, map_cons, map_nil, replicate_succ, replicate_zero, nil_append, cons_append, length_cons, length_nil, Nat.reduceAdd, Nat.add_assoc, Nat.zero_add, Nat.add_zero, Nat.reduceSub, true_and, getV, getElem?_cons_zero, getElem?_cons_succ, set_cons_zero, set_cons_succ, WY, JW, O2, LR, Wz, WD, Oz, WF, W6, W7, o_lt, o_gt, o_ge, o_eq, WP, WQ, o_ne, W8, W9, WM, Q8, WW, Om, Oq, Oo, O5, WN, Ox, W0, W4, W3, JB, JD, JC, Od, Hz, Oi, Oe, Pu, Xq, Xp, length_append, length_map, length_set, Jt, Nu, Py, ex_n, Ef, Ax, Ou, Ot, set_off, Ge, Nf, Nk, Nm, Nb, Nh, append_assoc, getElem?_append_left, set_set, getElem?_set_self, Jr, EY, Mi.ix_tup, Pj, Dy, M4, Gy, decide_eq_true_eq, false_eq_true, false_implies, not_false_eq_true, true_implies, not_true_eq_false, true_eq_false, and_true, if_true, if_false, Int.cast_ofNat_Int, Int.reduceEq, Int.reduceLT, Int.reduceLE, decide_true, decide_false, Bool.not_true, Bool.not_false, reduceIte, eq_self, Nat.reduceLeDiff])
local macro_rules | `(tactic| walk_at "mi*") => `(tactic| simp only [Ig, HH, MJ, Xb, Xa, Xe, Xd, Xc, Xv, Xu, Xw, Jq, Jo, JL, Pk, Px, Xz, Jp, K6, Ff, Cq, Aj, KC, MK, Ju, Gz, VM, Wi, r_bl, VP, We, Wj, Wf, NZ, VN, Wh, Wn, Wm, NP, NB, NK, Oc, Wb, Wo, r_or, r_if, N7, N8, VL, Wd, Wg, r_ix, J8, Wc, NQ, r_B, Oa, Ny, s_ret, s_if, V9, s_while, VB, i_A, i_En, Xk, J9, VR, Nv, Wl, NT, MP, K9, PB, Jm, r_m0, r_m, Mv, Xx, Lk, Jx, r_lc, Og, Oh, WL, WK, o_aT, o_aF, o_aL, o_aS, WR, WT, Xr, Xo, Ol, Oj, Ow, Ov, Option.map_some, HJ, PL, Ib, KY, LQ, Hh, MT, K8, i_R1, map_cons, map_nil, replicate_succ, replicate_zero, nil_append, cons_append, length_cons, length_nil, Nat.reduceAdd, Nat.add_assoc, Nat.zero_add, Nat.add_zero, Nat.reduceSub, true_and, getV, getElem?_cons_zero, getElem?_cons_succ, set_cons_zero, set_cons_succ, WY, JW, O2, LR, Wz, WD, Oz, WF, W6, W7, o_lt, o_gt, o_ge, o_eq, WP, WQ, o_ne, W8, W9, WM, Q8, WW, Om, Oq, Oo, O5, WN, Ox, W0, W4, W3, JB, JD, JC, Od, Hz, Oi, Oe, Pu, Xq, Xp, length_append, length_map, length_set, Jt, Nu, Py, ex_n, Ef, Ax, Ou, Ot, set_off, Ge, Nf, Nk, Nm, Nb, Nh, append_assoc, getElem?_append_left, set_set, getElem?_set_self, Jr, EY, Mi.ix_tup, Pj, Dy, M4, Gy, decide_eq_true_eq, false_eq_true, false_implies, not_false_eq_true, true_implies, not_true_eq_false, true_eq_false, and_true, if_true, if_false, Int.cast_ofNat_Int, Int.reduceEq, Int.reduceLT, Int.reduceLE, decide_true, decide_false, Bool.not_true, Bool.not_false, reduceIte, eq_self, Nat.reduceLeDiff, *])
namespace Std
open PySem L2 PyProof.Rows Mi
def c_shared_by : CB := (Af (FJ (fun Y => gas 1 Y) (Ba .NotEq neD (Ae 1) (cInt 0)) (Af (Jy 0 1 (Ae 1) (Az .Mod modD (Ae 0) (Ae 1)))
 bNil))
 (Af (Cr (Ae 0))
 bNil))
def BZ : List D -> M D := mir 2 2 c_shared_by.run
def c_l_begin : CB := (Af (Jy 3 4 (cIf (Ba .Lt ltD (Ae 1) (cB "len" lenD (Aa (Ae 0) aNil))) (cIx (Ae 0) (Ae 1)) (cInt 0)) (Az .Add addD (Az .Mult mulD (cInt 104729) (Ae 1)) (cInt 17)))
 (Af (Qs (gN 2) (iA (Az .Add addD (Ft (Aa (Ae 3) aNil)) (Gx (Ae 0) oNo (YW (cInt 60))))) (Af (Bv (gN 4) (Az .Mod modD (Az .Add addD (Az .Add addD (Az .Mult mulD (Ae 4) (cInt 636413622399)) (Az .Mult mulD (cInt 2) (cB "abs" absD (Aa (Ae 2) aNil)))) (cB "int" intTx (Aa (XM .Lt ltD (Ae 2) (cInt 0)) aNil))) (cInt 2305843009213693951)))
 bNil))
 (Af (Cr (Ft (Aa (cIf (Ba .GtE geD (cB "abs" absD (Aa (Ae 3) aNil)) (Az .Pow powD (cInt 10) (cInt 18))) (cB "abs" absD (Aa (Ae 3) aNil)) (cInt 0)) (Aa (Ae 4) (Aa (cInt 0) aNil)))))
 bNil)))
def BP : List D -> M D := mir 5 2 c_l_begin.run
def X6 : CB := (Af (FJ (fun Y => gas 1 Y) (Ba .NotEq neD (Ae 1) (cInt 0)) (Af (Jy 0 1 (Ae 1) (Az .Mod modD (Ae 0) (Ae 1)))
 bNil))
 (Af (Cr (Ae 0))
 bNil))
def O8 : List D -> M D := mir 2 2 X6.run
def Vy : CB := (Af (Jy 2 3 (Am "_law_shared" O8 (Aa (cB "abs" absD (Aa (Ae 0) aNil)) (Aa (cB "abs" absD (Aa (Ae 1) aNil)) aNil))) (Az .Sub subD (cInt 1) (Az .Mult mulD (cInt 2) (cB "int" intTx (Aa (XM .Lt ltD (Ae 1) (cInt 0)) aNil)))))
 (Af (Cr (Bg (Aa (Az .FloorDiv fdivD (Az .Mult mulD (Ae 3) (Ae 0)) (Ae 2)) (Aa (Az .FloorDiv fdivD (Az .Mult mulD (Ae 3) (Ae 1)) (Ae 2)) aNil))))
 bNil))
def IV : List D -> M D := mir 4 2 Vy.run
theorem QV {a b : Nat} (h : b ≠ 0) : Nat.gcd a b = Nat.gcd b (a % b) := by
 rw [Nat.gcd_comm a b, Nat.gcd_rec b a, Nat.gcd_comm]
theorem Jg (a b : Nat) : Int.fmod (a : Int) (b : Int) = ((a % b : Nat) : Int) := by
 rw [Int.fmod_eq_emod_of_nonneg _ ⋯]
 simp
theorem Dt : ∀ (a b : Nat) (Z : List O) (E : Ex -> List O -> Prop), Wp (BZ [.int a, .int b]) Z (fun r Z' => r = .int (Nat.gcd a b) /\ Z' = Z) E := by
 intro a b Z E
 have loop : ∀ (n a b : Nat) (S : SR -> List O -> Prop), b < n -> S (.nx [some (.int (Nat.gcd a b)), some (.int 0)]) Z ->
   Ws (whl (Ba .NotEq neD (Ae 1) (cInt 0)).run (Af (Jy 0 1 (Ae 1) (Az .Mod modD (Ae 0) (Ae 1))) bNil).run n [some (.int a), some (.int b)]) Z S := by
  intro n
  induction n with
  | zero => intro a b S h; omega
  | succ n ih =>
   intro a b S h k
   rw [Hu]
   walk_at "mi"
   by_cases hb : b = 0
   ·subst hb
    simp [decide_eq_true] at k ⊢
    exact k
   ·have hd : decide ((b : Int) = 0) = false := decide_eq_false ⋯
    rw [hd]
    simp only [Bool.not_false, if_true, Trn]
    have hb' : (b : Int) ≠ 0 := by omega
    refine ⟨hb', ?_⟩
    rw [Jg]
    refine ih b (a % b) S (Nat.lt_of_lt_of_le (Nat.mod_lt a ⋯) ⋯) ?_
    rw [<- QV hb]
    exact k
 unfold BZ c_shared_by
 walk_at "mi"
 show Ws (whl _ _ ((b : Int).natAbs + 1) _) Z _
 refine loop _ a b _ (by simp) ?_
 walk_at "mi"
def Pot (Z : List O) (l n : Nat) : Prop := ∃ a b c : Int, Z[l]? = some (.lst [.int a, .int b, .int c]) /\ 0 <= a /\ 0 <= b /\ b < 2305843009213693951 /\ 0 <= c /\ c <= n
theorem BX {i j : Int} (h1 : -18446744073709551616 < i) (h2 : i < 18446744073709551616) : Dh i j := .inl (.inl ⟨h1, h2⟩)
theorem Fg {i j : Int} (h1 : -18446744073709551616 < j) (h2 : j < 18446744073709551616) : Dh i j := .inl (.inr ⟨h1, h2⟩)
theorem RK {ns : List Int} {k : Nat} {Z : List O} {E : Ex -> List O -> Prop} (hk : k <= 63) :
  Wp (BP [scr ns, .int k]) Z (fun r Z' => ∃ l, r = .ref l /\ Z.length <= l /\ Pot Z' l 0 /\ Gr0 Z Z') E := by
 unfold BP c_l_begin scr
 have at_ : ∀ h : k < ns.length, atD (List.map D.int ns) k = M.ret (.int ns[k]) := fun h => Cp (by rw [getElem?_map, getElem?_eq_getElem h]; rfl)
 have cl : (Mi.cutD ns none (some 60)).length <= 60 := by
  simp [Mi.cutD, HT.sIx]
  omega
 have hs := sizeLine_eq
 have p18 : Qy 10 18 := by decide
 by_cases h : k < ns.length
 all_goals
  first
  | (have e := at_ h; have h' : (k : Int) < ns.length := ⋯; walk_at "mi*")
  | (have h' : ¬ ((k : Int) < ns.length) := ⋯; walk_at "mi*")
  rw [cut_map, length_map]
  refine ⟨BX ⋯ ⋯, ⋯, ?_⟩
  generalize Mi.cutD ns none (some 60) = xs at cl ⊢
  first
  | generalize ns[k] = c
  | (obtain ⟨c, h0⟩ : ∃ c : Int, D.int 0 = D.int c := ⟨0, rfl⟩; rw [h0]; clear h0)
  rw [show 1 + xs.length = (D.int c :: List.map D.int xs).length by simp [Nat.add_comm]]
  refine Qe (fun i Y Z' => Z' = Z ++ [O.lst [D.int c], O.lst (List.map D.int xs), O.lst (D.int c :: List.map D.int xs)] /\ ∃ x s, Y = [some (D.fro (List.map D.int ns)), some (D.int k), x, some (.int c), some (.int s)] /\ 0 <= s /\ (0 < i -> s < 2305843009213693951)) ?_ ?_ ?_ ?_
  ·exact ⟨rfl, _, _, rfl, ⋯, fun z => absurd z ⋯⟩
  ·rintro i Y _ ⟨rfl, _⟩
   rw [Ef]
   rfl
  ·rintro i d Y _ hd ⟨rfl, x, s, rfl, h1, h2⟩
   have hd' : d ∈ (c :: xs).map D.int := mem_of_getElem? (by exact hd)
   obtain ⟨z, _, rfl⟩ := mem_map.mp hd'
   refine ⟨_, _, rfl, ?_⟩
   walk_at "mi*"
   refine ⟨Fg ⋯ ⋯, BX ⋯ ⋯, ⋯, _, _, rfl, Int.fmod_nonneg_of_pos _ ⋯, fun _ => Int.fmod_lt_of_pos _ ⋯⟩
  ·rintro Y _ ⟨rfl, x, s, rfl, h1, h2⟩
   have h3 := h2 (by simp)
   walk_at "mi*"
   exact ⟨fun _ => ⟨_, rfl, ⋯, ⟨_, _, _, Ef, ⋯, h1, h3, ⋯, ⋯⟩, Gr0.app _ _⟩, fun _ => ⟨_, rfl, ⋯, ⟨_, _, _, Ef, ⋯, h1, h3, ⋯, ⋯⟩, Gr0.app _ _⟩⟩
theorem T7 (a b : Nat) (Z : List O) (E : Ex -> List O -> Prop) : Wp (O8 [.int a, .int b]) Z (fun r Z' => r = .int (Nat.gcd a b) /\ Z' = Z) E := Dt a b Z E
theorem Vp {a g : Int} (h : g ∣ a) : a.fdiv g * g = a := by
 rw [Int.fdiv_eq_ediv_of_dvd h]
 exact Int.ediv_mul_cancel h
structure Made (t low a b : Int) : Prop where
 pos : 0 < b
 low_ : Nat.gcd a.natAbs b.natAbs = 1
 eq : a * low = t * b
 sa : a.natAbs <= t.natAbs
 sb : b.natAbs <= low.natAbs
theorem Fj {t low s : Int} (h : low ≠ 0) (hs : s * low = low.natAbs) (hs1 : s = 1 \/ s = -1) : Made t low ((s * t).fdiv (Nat.gcd t.natAbs low.natAbs : Nat)) ((s * low).fdiv (Nat.gcd t.natAbs low.natAbs : Nat)) := by
 have hg : 0 < Nat.gcd t.natAbs low.natAbs := Nat.gcd_pos_of_pos_right _ ⋯
 have e1 : (s * t).fdiv (Nat.gcd t.natAbs low.natAbs : Nat) * (Nat.gcd t.natAbs low.natAbs : Nat) = s * t := Vp (Int.dvd_mul_of_dvd_right (Int.ofNat_dvd_left.mpr (Nat.gcd_dvd_left _ _)))
 have e2 : (s * low).fdiv (Nat.gcd t.natAbs low.natAbs : Nat) * (Nat.gcd t.natAbs low.natAbs : Nat) = s * low := Vp (Int.dvd_mul_of_dvd_right (Int.ofNat_dvd_left.mpr (Nat.gcd_dvd_right _ _)))
 generalize (s * t).fdiv (Nat.gcd t.natAbs low.natAbs : Nat) = a at e1 ⊢
 generalize (s * low).fdiv (Nat.gcd t.natAbs low.natAbs : Nat) = b at e2 ⊢
 have n1 : a.natAbs * Nat.gcd t.natAbs low.natAbs = t.natAbs := by
  have := congrArg Int.natAbs e1
  rw [Int.natAbs_mul, Int.natAbs_mul, Int.natAbs_natCast] at this
  rcases hs1 with rfl | rfl <;> simpa using this
 have n2 : b.natAbs * Nat.gcd t.natAbs low.natAbs = low.natAbs := by
  have := congrArg Int.natAbs e2
  rw [Int.natAbs_mul, Int.natAbs_mul, Int.natAbs_natCast] at this
  rcases hs1 with rfl | rfl <;> simpa using this
 have hb : 0 < b := by
  rcases Int.lt_trichotomy b 0 with x | x | x
  ·have := Int.mul_neg_of_neg_of_pos x (Int.natCast_pos.mpr hg)
   rw [e2, hs] at this
   omega
  ·subst x
   simp at n2
   omega
  ·exact x
 refine ⟨hb, ?_, ?_, ?_, ?_⟩
 ·have := Nat.gcd_mul_right a.natAbs (Nat.gcd t.natAbs low.natAbs) b.natAbs
  rw [n1, n2] at this
  exact Nat.eq_of_mul_eq_mul_right hg ⋯
 ·have hss : s * s = 1 := by rcases hs1 with rfl | rfl <;> rfl
  have k : a * low * (Nat.gcd t.natAbs low.natAbs : Nat) = t * b * (Nat.gcd t.natAbs low.natAbs : Nat) := by
   rw [Int.mul_right_comm, e1, Int.mul_assoc t, e2, Int.mul_comm s t, Int.mul_assoc, <- Int.mul_assoc]
  exact Int.eq_of_mul_eq_mul_right ⋯ k
 ·exact n1 ▸ Nat.le_mul_of_pos_right _ hg
 ·exact n2 ▸ Nat.le_mul_of_pos_right _ hg
theorem run_made {t low : Int} {Z : List O} {E : Ex -> List O -> Prop} (h : low ≠ 0) (h9 : low.natAbs.log2 < 400000) :
  Wp (IV [.int t, .int low]) Z (fun r Z' => (∃ a b, r = .tup [.int a, .int b] /\ Made t low a b) /\ Z' = Z) E := by
 unfold IV Vy
 have hs := sizeLine_eq
 walk_at "mi*"
 refine Wp.go (T7 _ _ _ _) ?_
 rintro _ _ ⟨rfl, rfl⟩
 have hg : 0 < Nat.gcd t.natAbs low.natAbs := Nat.gcd_pos_of_pos_right _ ⋯
 have hd : Mx (Nat.gcd t.natAbs low.natAbs : Nat) := by show ((Nat.gcd t.natAbs low.natAbs : Nat) : Int) ≠ 0; omega
 walk_at "mi*"
 by_cases hn : low < 0
 ·simp only [hn, decide_true, if_true]
  exact ⟨BX ⋯ ⋯, BX ⋯ ⋯, BX ⋯ ⋯, _, _, rfl, Fj h ⋯ (.inr rfl)⟩
 ·simp only [hn, decide_false, if_false]
  exact ⟨BX ⋯ ⋯, BX ⋯ ⋯, BX ⋯ ⋯, _, _, rfl, Fj h ⋯ (.inl rfl)⟩
theorem Pot.lt {Z : List O} {l n : Nat} (h : Pot Z l n) : l < Z.length := by
 obtain ⟨_, _, _, h, _⟩ := h
 exact (XqB h).1
theorem Pot.gr {Z Z' : List O} {l n : Nat} (h : Pot Z l n) (g : Gr0 Z Z') : Pot Z' l n := by
 obtain ⟨a, b, c, h, r⟩ := h
 exact ⟨a, b, c, g.at_ _ _ h, r⟩
theorem Pot.app {Z ν : List O} {l n : Nat} (h : Pot Z l n) : Pot (Z ++ ν) l n := h.gr (Gr0.app _ _)
theorem Pot.up {Z : List O} {l n m : Nat} (h : Pot Z l n) (g : n <= m) : Pot Z l m := by
 obtain ⟨a, b, c, h, r1, r2, r3, r4, r5⟩ := h
 exact ⟨a, b, c, h, r1, r2, r3, r4, ⋯⟩
end Std
namespace Std
open PySem L2 PyProof.Rows Mi
def k_NOUGHT : D := (.tup [(.int 0), (.int 1)])
def c_plus : CB := (Af (Bv (gN 2) (Am "shared_by" BZ (Aa (cIx (Ae 0) (cInt 1)) (Aa (cIx (Ae 1) (cInt 1)) aNil))))
 (Af (sIf (Ba .Eq eqD (Ae 2) (cInt 1)) (Af (Cr (Bg (Aa (Az .Add addD (Az .Mult mulD (cIx (Ae 0) (cInt 0)) (cIx (Ae 1) (cInt 1))) (Az .Mult mulD (cIx (Ae 1) (cInt 0)) (cIx (Ae 0) (cInt 1)))) (Aa (Az .Mult mulD (cIx (Ae 0) (cInt 1)) (cIx (Ae 1) (cInt 1))) aNil))))
 bNil) bNil)
 (Af (Bv (gN 3) (Az .Add addD (Az .Mult mulD (cIx (Ae 0) (cInt 0)) (Az .FloorDiv fdivD (cIx (Ae 1) (cInt 1)) (Ae 2))) (Az .Mult mulD (cIx (Ae 1) (cInt 0)) (Az .FloorDiv fdivD (cIx (Ae 0) (cInt 1)) (Ae 2)))))
 (Af (Bv (gN 4) (Am "shared_by" BZ (Aa (cB "abs" absD (Aa (Ae 3) aNil)) (Aa (Ae 2) aNil))))
 (Af (Cr (Bg (Aa (Az .FloorDiv fdivD (Ae 3) (Ae 4)) (Aa (Az .Mult mulD (Az .FloorDiv fdivD (cIx (Ae 0) (cInt 1)) (Ae 2)) (Az .FloorDiv fdivD (cIx (Ae 1) (cInt 1)) (Ae 4))) aNil))))
 bNil)))))
def JZ : List D -> M D := mir 5 2 c_plus.run
def c_times : CB := (Af (Jy 2 3 (Am "shared_by" BZ (Aa (cB "abs" absD (Aa (cIx (Ae 0) (cInt 0)) aNil)) (Aa (cIx (Ae 1) (cInt 1)) aNil))) (Am "shared_by" BZ (Aa (cB "abs" absD (Aa (cIx (Ae 1) (cInt 0)) aNil)) (Aa (cIx (Ae 0) (cInt 1)) aNil))))
 (Af (Cr (Bg (Aa (Az .Mult mulD (Az .FloorDiv fdivD (cIx (Ae 0) (cInt 0)) (Ae 2)) (Az .FloorDiv fdivD (cIx (Ae 1) (cInt 0)) (Ae 3))) (Aa (Az .Mult mulD (Az .FloorDiv fdivD (cIx (Ae 0) (cInt 1)) (Ae 3)) (Az .FloorDiv fdivD (cIx (Ae 1) (cInt 1)) (Ae 2))) aNil))))
 bNil))
def Du : List D -> M D := mir 4 2 c_times.run
def Tg : CB := (Af (Bv (gN 1) (cB "list" Sy (Aa (Ae 0) aNil)))
 (Af (FJ (fun _ => 100000) (Tt (Ba .Gt gtD (cB "len" lenD (Aa (Ae 1) aNil)) (cInt 0)) (HQ (Ba .Eq eqD (cIx (Ae 1) (Ie (cInt 1))) (M5 "NOUGHT" k_NOUGHT)))) (Af (CP (cM0 "list" "pop" popD (Ae 1)))
 bNil))
 (Af (Cr (cB "tuple" tupleD (Aa (Ae 1) aNil)))
 bNil)))
def Iv : List D -> M D := mir 2 1 Tg.run
def Vw : CB := (Af (Bv (gN 1) (cB "list" Sy (Aa (Ae 0) aNil)))
 (Af (FJ (fun _ => 100000) (Tt (Ba .NotEq neD (Ae 1) (Ft aNil)) (HQ (Ba .Eq eqD (cIx (cIx (Ae 1) (Ie (cInt 1))) (cInt 0)) (cInt 0)))) (Af (Bv (gN 1) (Gx (Ae 1) oNo (YW (Ie (cInt 1)))))
 bNil))
 (Af (Cr (cB "tuple" tupleD (Aa (Ae 1) aNil)))
 bNil)))
def QF : List D -> M D := mir 2 1 Vw.run
def Zq6 : CB := (Af (Cr (Am "_law_made" IV (Aa (Az .Add addD (Az .Mult mulD (cIx (Ae 0) (cInt 0)) (cIx (Ae 1) (cInt 1))) (Az .Mult mulD (cIx (Ae 1) (cInt 0)) (cIx (Ae 0) (cInt 1)))) (Aa (Az .Mult mulD (cIx (Ae 0) (cInt 1)) (cIx (Ae 1) (cInt 1))) aNil))))
 bNil)
def QG : List D -> M D := mir 2 2 Zq6.run
def c_l_mul : CB := (Af (Cr (Am "_law_made" IV (Aa (Az .Mult mulD (cIx (Ae 0) (cInt 0)) (cIx (Ae 1) (cInt 0))) (Aa (Az .Mult mulD (cIx (Ae 0) (cInt 1)) (cIx (Ae 1) (cInt 1))) aNil))))
 bNil)
def Zf : List D -> M D := mir 2 2 c_l_mul.run
def c_l_sum : CB := (Af (Bv (gN 2) (Ft aNil))
 (Af (Qs (gN 3) (iR1 (cB "max" maxD (Aa (cB "len" lenD (Aa (Ae 0) aNil)) (Aa (cB "len" lenD (Aa (Ae 1) aNil)) aNil)))) (Af (CP (cM "list" "append" appD (Ae 2) (Aa (Am "_law_add" QG (Aa (cIx (Az .Add addD (cB "list" Sy (Aa (Ae 0) aNil)) (Az .Mult mulD (Ft (Aa (Bg (Aa (cInt 0) (Aa (cInt 1) aNil))) aNil)) (cInt 99))) (Ae 3)) (Aa (cIx (Az .Add addD (cB "list" Sy (Aa (Ae 1) aNil)) (Az .Mult mulD (Ft (Aa (Bg (Aa (cInt 0) (Aa (cInt 1) aNil))) aNil)) (cInt 99))) (Ae 3)) aNil))) aNil)))
 bNil))
 (Af (Cr (Am "_law_trim" QF (Aa (Ae 2) aNil)))
 bNil)))
def BJ : List D -> M D := mir 4 2 c_l_sum.run
def Dr : CB := (Af (Yv (gT (Ak (gN 3) (Ak (gN 4) gsNil)) 2) (Bg (Aa (Bg (Aa (cInt 0) (Aa (cInt 1) aNil))) (Aa (Bg (Aa (cInt 1) (Aa (cInt 1) aNil))) aNil))))
 (Af (Qs (gN 2) (iA (Ae 0)) (Af (Jy 3 4 (Am "_law_add" QG (Aa (Ae 3) (Aa (Am "_law_mul" Zf (Aa (Ae 2) (Aa (Ae 4) aNil))) aNil))) (Am "_law_mul" Zf (Aa (Ae 4) (Aa (Ae 1) aNil))))
 bNil))
 (Af (Cr (Ae 3))
 bNil)))
def Ew : List D -> M D := mir 5 2 Dr.run
def fr (q : Rat) : D := .tup [.int q.num, .int q.den]
theorem fr_of {q : Rat} {n d : Int} (hd : 0 < d) (hc : Nat.gcd n.natAbs d.natAbs = 1) (hv : q = Rat.divInt n d) : D.tup [.int n, .int d] = fr q := by
 have e : (⟨n, d.natAbs, ⋯, hc⟩ : Rat) = q := by
  rw [Rat.mk_eq_divInt, hv]
  congr 1
  omega
 unfold fr
 rw [<- e]
 have : ((d.natAbs : Nat) : Int) = d := by omega
 simp only [this]
theorem val_eq {q : Rat} {n d : Int} (hd : d ≠ 0) (h : q = Rat.divInt n d) : q.num * d = n * q.den := by
 have h0 : (q.den : Int) ≠ 0 := by have := q.den_nz; omega
 rw [<- Rat.divInt_eq_divInt_iff h0 hd, <- h, Rat.num_divInt_den]
theorem Yq5 {q : Rat} {n d : Int} (hd : d ≠ 0) (h : q = Rat.divInt n d) : q.num.natAbs <= n.natAbs /\ q.den <= d.natAbs := by
 have e := congrArg Int.natAbs (val_eq hd h)
 rw [Int.natAbs_mul, Int.natAbs_mul, Int.natAbs_natCast] at e
 have hc := q.reduced
 constructor
 ·by_cases h0 : n.natAbs = 0
  ·rw [h0, Nat.zero_mul] at e
   rcases Nat.mul_eq_zero.mp e with z | z <;> omega
  ·have : q.num.natAbs ∣ n.natAbs := hc.dvd_of_dvd_mul_right ⟨d.natAbs, e.symm⟩
   exact Nat.le_of_dvd ⋯ this
 ·have : q.den ∣ d.natAbs := hc.symm.dvd_of_dvd_mul_left ⟨n.natAbs, by rw [e, Nat.mul_comm]⟩
  exact Nat.le_of_dvd ⋯ this
def Sm (B : Nat) (q : Rat) : Prop := q.num.natAbs < 2 ^ B /\ q.den < 2 ^ B
theorem pow_le {A B : Nat} (h : A <= B) : 2 ^ A <= 2 ^ B := Nat.pow_le_pow_right ⋯ h
theorem Sm.up {A B : Nat} {q : Rat} (h : Sm A q) (hb : A <= B) : Sm B q := ⟨Nat.lt_of_lt_of_le h.1 (pow_le hb), Nat.lt_of_lt_of_le h.2 (pow_le hb)⟩
theorem mul_lt {A B a b : Nat} (h1 : a < 2 ^ A) (h2 : b < 2 ^ B) : a * b < 2 ^ (A + B) := by
 rw [Nat.pow_add]
 by_cases h0 : b = 0
 ·subst h0
  rw [Nat.mul_zero]
  exact Nat.mul_pos (Nat.pow_pos ⋯) (Nat.pow_pos ⋯)
 ·exact Nat.lt_of_lt_of_le (Nat.mul_lt_mul_of_pos_right h1 ⋯) (Nat.mul_le_mul XqG ⋯)
theorem Sm.of {B : Nat} {q : Rat} {n d : Int} (hd : d ≠ 0) (h : q = Rat.divInt n d) (hn : n.natAbs < 2 ^ B) (hb : d.natAbs < 2 ^ B) : Sm B q :=
 ⟨Nat.lt_of_le_of_lt (Yq5 hd h).1 hn, Nat.lt_of_le_of_lt (Yq5 hd h).2 hb⟩
theorem GP (q : Rat) : (q.den : Int) ≠ 0 := by have := q.den_nz; omega
theorem Rj (p q : Rat) : p + q = Rat.divInt (p.num * q.den + q.num * p.den) (p.den * q.den) := by
 conv => lhs; rw [<- Rat.num_divInt_den p, <- Rat.num_divInt_den q]
 exact Rat.divInt_add_divInt _ _ (GP p) (GP q)
theorem mul_val (p q : Rat) : p * q = Rat.divInt (p.num * q.num) (p.den * q.den) := by
 conv => lhs; rw [<- Rat.num_divInt_den p, <- Rat.num_divInt_den q]
 exact Rat.divInt_mul_divInt _ _
theorem Sm.mul {A B : Nat} {p q : Rat} (h : Sm A p) (k : Sm B q) : Sm (A + B) (p * q) := by
 refine Sm.of (Int.mul_ne_zero (GP p) (GP q)) (mul_val p q) ?_ ?_
 ·rw [Int.natAbs_mul]; exact mul_lt h.1 k.1
 ·rw [Int.natAbs_mul, Int.natAbs_natCast, Int.natAbs_natCast]; exact mul_lt h.2 k.2
theorem Sm.add {A B : Nat} {p q : Rat} (h : Sm A p) (k : Sm B q) : Sm (A + B + 1) (p + q) := by
 refine Sm.of (Int.mul_ne_zero (GP p) (GP q)) (Rj p q) ?_ ?_
 ·have h1 := mul_lt h.1 k.2
  have h2 := mul_lt k.1 h.2
  have h3 := Int.natAbs_add_le (p.num * q.den) (q.num * p.den)
  rw [Int.natAbs_mul, Int.natAbs_mul, Int.natAbs_natCast, Int.natAbs_natCast] at h3
  rw [Nat.add_comm B A] at h2
  rw [Nat.pow_succ]
  omega
 ·rw [Int.natAbs_mul, Int.natAbs_natCast, Int.natAbs_natCast]
  exact Nat.lt_of_lt_of_le (mul_lt h.2 k.2) (pow_le ⋯)
theorem Sm.neg {A : Nat} {p : Rat} (h : Sm A p) : Sm A (-p) := ⟨by rw [Rat.neg_num, Int.natAbs_neg]; exact h.1, by rw [Rat.neg_den]; exact h.2⟩
theorem log2_lt {n B : Nat} (h : n < 2 ^ B) (hB : 0 < B) : n.log2 < B := by
 by_cases h0 : n = 0
 ·subst h0; simpa using hB
 ·exact (Nat.log2_lt h0).mpr h
theorem Bu {A B : Nat} {i j : Int} (h1 : i.natAbs < 2 ^ A) (h2 : j.natAbs < 2 ^ B) (hA : 0 < A) (hB : 0 < B) (h : A + B <= 1000000) : Dh i j := .inr (by
 have := log2_lt h1 hA
 have := log2_lt h2 hB
 omega)
theorem JN {A : Nat} {d : Nat} (h : d < 2 ^ A) (h0 : 0 < d) (hA : A <= 400000) : Mx (d : Int) := by show (d : Int) ≠ 0; omega
theorem Gg {t low a b : Int} (h : low ≠ 0) (m : Made t low a b) : D.tup [.int a, .int b] = fr (Rat.divInt t low) :=
 fr_of m.pos m.low_ (by
  rw [Rat.divInt_eq_divInt_iff h (by have := m.pos; omega)]
  exact m.eq.symm)
theorem run_mk {t low : Int} {Z : List O} {E : Ex -> List O -> Prop} (h : low ≠ 0) (h9 : ∃ B, B <= 400000 /\ 0 < B /\ low.natAbs < 2 ^ B) :
  Wp (IV [.int t, .int low]) Z (fun r Z' => r = fr (Rat.divInt t low) /\ Z' = Z) E := by
 obtain ⟨B, hB, hB0, h9⟩ := h9
 refine (run_made h (Nat.lt_of_lt_of_le (log2_lt h9 hB0) hB)).mono ?_ fun _ _ z => z
 rintro _ _ ⟨⟨a, b, rfl, m⟩, rfl⟩
 exact ⟨Gg h m, rfl⟩
theorem ZD (p q : Rat) : (p.den.gcd q.den = 1 -> (p + q).num = p.num * q.den + q.num * p.den /\ (p + q).den = p.den * q.den) /\
  (p.den.gcd q.den ≠ 1 -> (p + q).num = (p.num * ↑(q.den / p.den.gcd q.den) + q.num * ↑(p.den / p.den.gcd q.den)) / ((p.num * ↑(q.den / p.den.gcd q.den) + q.num * ↑(p.den / p.den.gcd q.den)).natAbs.gcd (p.den.gcd q.den) : Nat) /\
   (p + q).den = (p.den / p.den.gcd q.den * q.den) / (p.num * ↑(q.den / p.den.gcd q.den) + q.num * ↑(p.den / p.den.gcd q.den)).natAbs.gcd (p.den.gcd q.den)) := by
 have e : p + q = Rat.add p q := rfl
 rw [e]
 unfold Rat.add
 constructor
 ·intro h
  simp [h]
 ·intro h
  simp only [h]
  simp [Rat.maybeNormalize_eq]
theorem Zd (p q : Rat) : (p * q).num = p.num / (p.num.natAbs.gcd q.den : Nat) * (q.num / (q.num.natAbs.gcd p.den : Nat)) /\ (p * q).den = p.den / (q.num.natAbs.gcd p.den) * (q.den / (p.num.natAbs.gcd q.den)) := by
 have e : p * q = Rat.mul p q := rfl
 rw [e]
 unfold Rat.mul
 simp
theorem Jh (a b : Nat) : Int.fdiv (a : Int) (b : Int) = ((a / b : Nat) : Int) := by
 rw [Int.fdiv_eq_ediv_of_nonneg _ ⋯]
 simp
theorem Vq (a : Int) (b : Nat) : Int.fdiv a (b : Int) = a / (b : Int) := Int.fdiv_eq_ediv_of_nonneg _ ⋯
theorem Qu {A : Nat} {p q : Rat} {Z : List O} {E : Ex -> List O -> Prop} (hp : Sm A p) (hq : Sm A q) (h0 : 0 < A) (hA : A <= 400000) : Wp (JZ [fr p, fr q]) Z (fun r Z' => r = fr (p + q) /\ Z' = Z) E := by
 unfold JZ c_plus fr
 have hs := sizeLine_eq
 walk_at "mi*"
 refine Wp.go (Dt _ _ _ _) ?_
 rintro _ _ ⟨rfl, rfl⟩
 have hg : 0 < p.den.gcd q.den := Nat.gcd_pos_of_pos_left _ p.den_pos
 have dg : p.den.gcd q.den < 2 ^ A := Nat.lt_of_le_of_lt (Nat.le_of_dvd p.den_pos (Nat.gcd_dvd_left _ _)) hp.2
 have kd := JN dg hg hA
 obtain ⟨P1, P2⟩ := ZD p q
 by_cases h : p.den.gcd q.den = 1
 ·have h' : ((p.den.gcd q.den : Nat) : Int) = 1 := by omega
  obtain ⟨e1, e2⟩ := P1 h
  have m1 : Dh p.num q.den := Bu (A := A) (B := A) hp.1 (by rw [Int.natAbs_natCast]; exact hq.2) h0 h0 ⋯
  have m2 : Dh q.num p.den := Bu (A := A) (B := A) hq.1 (by rw [Int.natAbs_natCast]; exact hp.2) h0 h0 ⋯
  have m3 : Dh p.den q.den := Bu (A := A) (B := A) (by rw [Int.natAbs_natCast]; exact hp.2) (by rw [Int.natAbs_natCast]; exact hq.2) h0 h0 ⋯
  walk_at "mi*"
  rw [Int.natCast_mul]
 ·have h' : ¬ ((p.den.gcd q.den : Nat) : Int) = 1 := by omega
  obtain ⟨e1, e2⟩ := P2 h
  have d1 : q.den / p.den.gcd q.den < 2 ^ A := Nat.lt_of_le_of_lt (Nat.div_le_self _ _) hq.2
  have d2 : p.den / p.den.gcd q.den < 2 ^ A := Nat.lt_of_le_of_lt (Nat.div_le_self _ _) hp.2
  have m1 : Dh p.num (q.den / p.den.gcd q.den : Nat) := Bu (A := A) (B := A) hp.1 (by rw [Int.natAbs_natCast]; exact d1) h0 h0 ⋯
  have m2 : Dh q.num (p.den / p.den.gcd q.den : Nat) := Bu (A := A) (B := A) hq.1 (by rw [Int.natAbs_natCast]; exact d2) h0 h0 ⋯
  walk_at "mi*"
  simp only [Jh]
  refine ⟨m1, m2, ?_⟩
  generalize hz : p.num * ↑(q.den / p.den.gcd q.den) + q.num * ↑(p.den / p.den.gcd q.den) = z at e1 e2 ⊢
  refine Wp.go (Dt _ _ _ _) ?_
  rintro _ _ ⟨rfl, rfl⟩
  have hm : 0 < z.natAbs.gcd (p.den.gcd q.den) := Nat.gcd_pos_of_pos_right _ hg
  have dm : z.natAbs.gcd (p.den.gcd q.den) ∣ q.den := Nat.dvd_trans (Nat.gcd_dvd_right _ _) (Nat.gcd_dvd_right _ _)
  have km := JN (d := z.natAbs.gcd (p.den.gcd q.den)) (Nat.lt_of_le_of_lt (Nat.le_of_dvd hg (Nat.gcd_dvd_right _ _)) dg) hm hA
  have m3 : Dh (p.den / p.den.gcd q.den : Nat) (q.den / z.natAbs.gcd (p.den.gcd q.den) : Nat) := Bu (A := A) (B := A) (by rw [Int.natAbs_natCast]; exact d2)
   (by rw [Int.natAbs_natCast]; exact Nat.lt_of_le_of_lt (Nat.div_le_self _ _) hq.2) h0 h0 ⋯
  walk_at "mi*"
  simp only [Jh, Vq]
  refine ⟨m3, ?_⟩
  rw [Nat.mul_div_assoc _ dm, Int.natCast_mul]
  simp only [Int.natCast_ediv]
theorem Ip {A : Nat} {p q : Rat} {Z : List O} {E : Ex -> List O -> Prop} (hp : Sm A p) (hq : Sm A q) (h0 : 0 < A) (hA : A <= 400000) : Wp (Du [fr p, fr q]) Z (fun r Z' => r = fr (p * q) /\ Z' = Z) E := by
 unfold Du c_times fr
 have hs := sizeLine_eq
 walk_at "mi*"
 refine Wp.go (Dt _ _ _ _) ?_
 rintro _ _ ⟨rfl, rfl⟩
 walk_at "mi*"
 refine Wp.go (Dt _ _ _ _) ?_
 rintro _ _ ⟨rfl, rfl⟩
 obtain ⟨e1, e2⟩ := Zd p q
 have g1 : 0 < p.num.natAbs.gcd q.den := Nat.gcd_pos_of_pos_right _ q.den_pos
 have g2 : 0 < q.num.natAbs.gcd p.den := Nat.gcd_pos_of_pos_right _ p.den_pos
 have k1 := JN (d := p.num.natAbs.gcd q.den) (Nat.lt_of_le_of_lt (Nat.le_of_dvd q.den_pos (Nat.gcd_dvd_right _ _)) hq.2) g1 hA
 have k2 := JN (d := q.num.natAbs.gcd p.den) (Nat.lt_of_le_of_lt (Nat.le_of_dvd p.den_pos (Nat.gcd_dvd_right _ _)) hp.2) g2 hA
 have ab : ∀ (x : Int) (y : Nat), (x / (y : Int)).natAbs <= x.natAbs := fun x y => Int.natAbs_ediv_le_natAbs x y
 have m1 : Dh (p.num / (p.num.natAbs.gcd q.den : Nat)) (q.num / (q.num.natAbs.gcd p.den : Nat)) := Bu (A := A) (B := A) (Nat.lt_of_le_of_lt (ab _ _) hp.1) (Nat.lt_of_le_of_lt (ab _ _) hq.1) h0 h0 ⋯
 have m2 : Dh (p.den / (q.num.natAbs.gcd p.den) : Nat) (q.den / (p.num.natAbs.gcd q.den) : Nat) := Bu (A := A) (B := A) (by rw [Int.natAbs_natCast]; exact Nat.lt_of_le_of_lt (Nat.div_le_self _ _) hp.2)
  (by rw [Int.natAbs_natCast]; exact Nat.lt_of_le_of_lt (Nat.div_le_self _ _) hq.2) h0 h0 ⋯
 walk_at "mi*"
 simp only [Jh, Vq]
 refine ⟨m1, m2, ?_⟩
 rw [Int.natCast_mul]
 simp only [Int.natCast_ediv]
theorem nought : k_NOUGHT = fr 0 := rfl
theorem run_ladd {A : Nat} {p q : Rat} {Z : List O} {E : Ex -> List O -> Prop} (hp : Sm A p) (hq : Sm A q) (h0 : 0 < A) (hA : A <= 100000) : Wp (QG [fr p, fr q]) Z (fun r Z' => r = fr (p + q) /\ Z' = Z) E := by
 unfold QG Zq6
 rw [fr, fr]
 have m1 : Dh p.num q.den := Bu (A := A) (B := A) hp.1 (by rw [Int.natAbs_natCast]; exact hq.2) h0 h0 ⋯
 have m2 : Dh q.num p.den := Bu (A := A) (B := A) hq.1 (by rw [Int.natAbs_natCast]; exact hp.2) h0 h0 ⋯
 have m3 : Dh p.den q.den := Bu (A := A) (B := A) (by rw [Int.natAbs_natCast]; exact hp.2) (by rw [Int.natAbs_natCast]; exact hq.2) h0 h0 ⋯
 walk_at "mi*"
 have hd := Int.mul_ne_zero (GP p) (GP q)
 refine (run_mk hd ?_).mono ?_ fun _ _ z => z
 ·refine ⟨A + A, ⋯, ⋯, ?_⟩
  rw [Int.natAbs_mul, Int.natAbs_natCast, Int.natAbs_natCast]
  exact mul_lt hp.2 hq.2
 ·rintro _ _ ⟨rfl, rfl⟩
  exact ⟨by rw [<- Rj], rfl⟩
def frs (ps : List Rat) : List D := ps.map fr
def BR : List Rat -> List Rat
 | [] => []
 | p :: r => match BR r with
  | [] => if p = 0 then [] else [p]
  | q :: s => p :: q :: s
theorem Jv : ∀ ps : List Rat, BR (ps ++ [0]) = BR ps
 | [] => rfl
 | p :: r => by
  show (match BR (r ++ [0]) with | [] => _ | q :: s => _) = _
  rw [Jv r]
  rfl
theorem KN {q : Rat} (h : q ≠ 0) : ∀ ps : List Rat, BR (ps ++ [q]) = ps ++ [q]
 | [] => by simp [BR, h]
 | p :: r => by
  show (match BR (r ++ [q]) with | [] => _ | q :: s => _) = _
  rw [KN h r]
  cases r <;> rfl
theorem Km : ∀ {ps : List Rat} {x : Rat}, x ∈ BR ps -> x ∈ ps
 | p :: r, x, h => by
  unfold BR at h
  split at h
  ·split at h
   ·cases h
   ·rw [mem_singleton.mp h]; exact mem_cons_self
  ·rename_i q s e
   rcases mem_cons.mp h with rfl | h
   ·exact mem_cons_self
   ·exact mem_cons_of_mem _ (Km (by rw [e]; exact h))
theorem Uy : ∀ ps : List Rat, (BR ps).length <= ps.length
 | [] => XqG
 | p :: r => by
  have h := Uy r
  unfold BR
  split
  ·split <;> simp
  ·rename_i q s e
   rw [e] at h
   simp only [length_cons] at h ⊢
   omega
theorem eqv_fr (p q : Rat) : eqD (fr p) (fr q) = M.ret (.bl (decide (p = q))) := by
 funext Z
 have h1 : see Z 65 (fr p) = some (.tuple [.int p.num, .int p.den]) := rfl
 have h2 : see Z 65 (fr q) = some (.tuple [.int q.num, .int q.den]) := rfl
 show XJ false (fr p) (fr q) Z = _
 unfold XJ
 rw [h1, h2]
 have s1 : ∀ a b : Int, SeqAt.shaped (.tuple [.int a, .int b]) = true := fun a b => rfl
 simp only [s1, and_self, if_true, false_eq_true, if_false]
 have e : PyData.eqv (.tuple [.int p.num, .int p.den]) (.tuple [.int q.num, .int q.den]) = decide (p = q) := by
  have e1 : PyData.eqv (.tuple [.int p.num, .int p.den]) (.tuple [.int q.num, .int q.den]) = (p.num == q.num && (((p.den : Nat) : Int) == ((q.den : Nat) : Int) && true)) := by
   simp [PyData.eqv, PyData.eqvAll]
  rw [e1]
  by_cases h : p = q
  ·subst h; simp
  ·rw [decide_eq_false h]
   by_cases hn : p.num = q.num
   ·have hd : p.den ≠ q.den := fun z => h (Rat.ext hn z)
    have : ¬ ((p.den : Int) = q.den) := by omega
    simp
    exact fun _ => this
   ·simp [hn]
 rw [e]
 rfl
def pF (q : Rat) : PyData := .tuple [.int q.num, .int q.den]
theorem Qq {Z : List O} {n : Nat} : ∀ ps : List Rat, Fb (see Z (n + 2)) (frs ps) = some (ps.map pF)
 | [] => rfl
 | p :: r => by
  show (match see Z (n + 2) (fr p), Fb (see Z (n + 2)) (frs r) with | some a, some b => _ | _, _ => _) = _
  rw [Qq r]
  rfl
theorem QK : ∀ ps : List Rat, PyData.canLayAll0 (ps.map pF) = true
 | [] => rfl
 | p :: r => by
  have ih := QK r
  simp [PyData.canLayAll0, pF, PyData.canLay0] at ih ⊢
  exact ih
theorem Rb : ∀ ps : List Rat, PyData.depthAll (ps.map pF) <= 1
 | [] => by simp [PyData.depthAll]
 | p :: r => by
  have ih := Rb r
  have e : PyData.depthAll ((p :: r).map pF) = max (PyData.depth (pF p)) (PyData.depthAll (r.map pF)) := rfl
  have e2 : PyData.depth (pF p) = 1 := by simp [pF, PyData.depth, PyData.depthAll]
  rw [e, e2]
  omega
theorem U4 {ps : List Rat} : SeqAt.shaped (.list (ps.map pF)) = true := by
 have h1 := QK ps
 have h2 := Rb ps
 unfold SeqAt.shaped
 have e : PyData.depth (.list (ps.map pF)) = PyData.depthAll (ps.map pF) + 1 := by simp [PyData.depth]
 have e2 : PyData.canLay0 (.list (ps.map pF)) = PyData.canLayAll0 (ps.map pF) := by simp [PyData.canLay0]
 rw [e, e2, h1]
 simp
 omega
theorem XR {ps : List Rat} {a b : Nat} {Z : List O} {E : Ex -> List O -> Prop} {P : D -> List O -> Prop} (ha : Z[a]? = some (.lst (frs ps))) (hb : Z[b]? = some (.lst [])) : Wp (neD (.ref a) (.ref b)) Z P E ↔ P (.bl (!decide (ps = []))) Z := by
 have h1 : see Z 65 (.ref a) = some (.list (ps.map pF)) := by
  show (match Z[a]? with | some (.lst ds) => _ | some (.dct ds) => _ | _ => _) = _
  rw [ha]
  show (Fb (see Z 64) (frs ps)).map PyData.list = _
  rw [Qq]
  rfl
 have h2 : see Z 65 (.ref b) = some (.list []) := by
  show (match Z[b]? with | some (.lst ds) => _ | some (.dct ds) => _ | _ => _) = _
  rw [hb]
  rfl
 have e : neD (.ref a) (.ref b) Z = some (.ok (.bl (!decide (ps = []))), Z) := by
  show XJ true (.ref a) (.ref b) Z = _
  unfold XJ
  rw [h1, h2]
  have s2 : SeqAt.shaped (.list []) = true := U4 (ps := [])
  simp only [U4, s2, and_self, if_true]
  cases ps <;> simp [PyData.eqv, PyData.eqvAll]
 constructor
 ·rintro ⟨r, Z', e2, q⟩
  rw [e] at e2
  cases e2
  exact q
 ·exact fun q => ⟨_, _, e, q⟩
theorem Hq {ps : List Rat} {q : Rat} : frs (ps ++ [q]) = frs ps ++ [fr q] := by simp [frs]
theorem Ck {ps : List Rat} : (frs ps).length = ps.length := by simp [frs]
theorem Qn (ps : List Rat) : ps = [] \/ ∃ rs q, ps = rs ++ [q] := by
 rcases List.eq_nil_or_concat ps with h | ⟨rs, q, h⟩
 ·exact .inl h
 ·exact .inr ⟨rs, q, by rw [h]; simp⟩
theorem frs_nil : frs [] = [] := rfl
theorem Lp {l : Nat} {ps : List Rat} {Z : List O} {E : Ex -> List O -> Prop} (h : Z[l]? = some (.lst (frs ps))) (hz : ps.length < 100000) : Wp (Iv [.ref l]) Z (fun r Z' => r = .tup (frs (BR ps)) /\ Gr0 Z Z') E := by
 have loop : ∀ (n : Nat) (qs : List Rat) (S : SR -> List O -> Prop), qs.length < n -> S (.nx [some (.ref l), some (.ref Z.length)]) (Z ++ [.lst (frs (BR qs))]) ->
   Ws (whl (Tt (Ba .Gt gtD (cB "len" lenD (Aa (Ae 1) aNil)) (cInt 0)) (HQ (Ba .Eq eqD (cIx (Ae 1) (Ie (cInt 1))) (M5 "NOUGHT" k_NOUGHT)))).run (Af (CP (cM0 "list" "pop" popD (Ae 1))) bNil).run n [some (.ref l), some (.ref Z.length)]) (Z ++ [.lst (frs qs)]) S := by
  intro n
  induction n with
  | zero => intro qs S h; omega
  | succ n ih =>
   intro qs S h k
   rw [Hu]
   rcases Qn qs with rfl | ⟨rs, q, rfl⟩
   ·rw [show BR [] = [] from rfl] at k
    rw [frs_nil] at k ⊢
    walk_at "mi*"
   ·rw [Hq]
    have hp : (0 : Int) < ((frs rs ++ [fr q]).length : Nat) := by simp
    have hl : (frs rs ++ [fr q])[(frs rs ++ [fr q]).length - 1]? = some (fr q) := by simp
    have hd : (frs rs ++ [fr q]).dropLast = frs rs := by simp
    generalize hx : frs rs ++ [fr q] = xs at hp hl hd ⊢
    have ha : atD xs (-1) = M.ret (fr q) := by rw [<- hx]; exact Hr
    have hq := eqv_fr q 0
    rw [<- nought] at hq
    walk_at "mi*"
    by_cases h0 : q = 0
    ·rw [if_pos h0]
     subst h0
     rw [Jv] at k
     exact ih rs S (by simp at h; omega) k
    ·rw [if_neg h0]
     rw [KN h0, Hq, hx] at k
     exact k
 unfold Iv Tg
 walk_at "mi*"
 refine loop _ ps _ hz ?_
 walk_at "mi"
 exact Gr0.app _ _
theorem cut_last {a : Type} {xs : List a} {x : a} : Mi.cutD (xs ++ [x]) none (some (-1)) = xs := by
 unfold Mi.cutD HT.sIx
 simp
 have e : (-1 + ((xs.length : Int) + 1)).toNat = xs.length := by omega
 rw [e]
 simp
theorem SM {q : Rat} : ixD (fr q) (.int 0) = M.ret (.int q.num) := rfl
theorem Vl {q : Rat} : ixD (fr q) (.int 1) = M.ret (.int q.den) := rfl
theorem num0 {q : Rat} : (q.num = 0) ↔ q = 0 := Rat.num_eq_zero
theorem Xg {x0 : Option D} {Z : List O} : ∀ (n : Nat) (qs : List Rat) (Z' : List O) (a : Nat) (S : SR -> List O -> Prop), Gr0 Z Z' -> Z'[a]? = some (.lst (frs qs)) -> qs.length < n -> (∀ Z2 b, Gr0 Z Z2 -> Z2[b]? = some (.lst (frs (BR qs))) -> S (.nx [x0, some (.ref b)]) Z2) ->
  Ws (whl (Tt (Ba .NotEq neD (Ae 1) (Ft aNil)) (HQ (Ba .Eq eqD (cIx (cIx (Ae 1) (Ie (cInt 1))) (cInt 0)) (cInt 0)))).run (Af (Bv (gN 1) (Gx (Ae 1) oNo (YW (Ie (cInt 1))))) bNil).run n [x0, some (.ref a)]) Z' S := by
 intro n
 induction n with
 | zero => intro qs Z' a S _ _ h; omega
 | succ n ih =>
  intro qs Z' a S g ha h k
  have hs := sizeLine_eq
  have ha2 : (Z' ++ [O.lst []])[a]? = some (.lst (frs qs)) := V1 ha
  rw [Hu]
  walk_at "mi"
  refine ⟨⋯, (XR ha2 Ax).mpr ?_⟩
  rcases Qn qs with rfl | ⟨rs, q, rfl⟩
  ·walk_at "mi*"
   exact k _ a (g.trans (Gr0.app _ _)) ha2
  ·have hne : ¬ (rs ++ [q] = []) := by simp
   have hc := cut_last (xs := frs rs) (x := fr q)
   have hat : atD (frs rs ++ [fr q]) (-1) = M.ret (fr q) := Hr
   rw [Hq] at ha2
   simp only [hne, decide_false, Bool.not_false]
   have ix0 := @SM
   walk_at "mi*"
   by_cases h0 : q = 0
   ·have hn := num0.mpr h0
    rw [if_pos hn]
    subst h0
    rw [Jv] at k
    refine ih rs _ _ S (g.trans (Gr0.app _ _)) ?_ (by simp at h; omega) k
    rw [Ef]
    rfl
   ·have hn : ¬ q.num = 0 := fun z => h0 (num0.mp z)
    rw [if_neg hn]
    rw [KN h0, Hq] at k
    exact k _ a (g.trans (Gr0.app _ _)) ha2
theorem Yx {l : Nat} {ps : List Rat} {Z : List O} {E : Ex -> List O -> Prop} (h : Z[l]? = some (.lst (frs ps))) (hz : ps.length < 100000) : Wp (QF [.ref l]) Z (fun r Z' => r = .tup (frs (BR ps)) /\ Gr0 Z Z') E := by
 unfold QF Vw
 walk_at "mi*"
 refine Xg _ ps _ _ _ (Gr0.app _ _) Ax hz ?_
 rintro Z2 b g hb
 walk_at "mi*"
theorem sm0 {A : Nat} (h : 0 < A) : Sm A 0 := by
 have := pow_le (A := 1) (B := A) h
 have h1 : (2:Nat) ^ 1 = 2 := rfl
 refine ⟨?_, ?_⟩
 ·show (0 : Int).natAbs < _; simp; omega
 ·show 1 < _; omega
theorem gd_in {ps : List Rat} {i : Nat} (h : i < ps.length) : ps.getD i 0 = ps[i] := by
 rw [getD_eq_getElem?_getD, getElem?_eq_getElem h]
 rfl
theorem gd_out {ps : List Rat} {i : Nat} (h : ps.length <= i) : ps.getD i 0 = 0 := by
 rw [getD_eq_getElem?_getD, getElem?_eq_none h]
 rfl
def SmL (A : Nat) (ps : List Rat) : Prop := ∀ p ∈ ps, Sm A p
theorem SmL.get {A i : Nat} {ps : List Rat} (h : SmL A ps) (hA : 0 < A) : Sm A (ps.getD i 0) := by
 by_cases hi : i < ps.length
 ·rw [gd_in hi]
  exact h _ (getElem_mem hi)
 ·rw [gd_out ⋯]
  exact sm0 hA
theorem Mu {ps : List Rat} {i : Nat} (h : i < ps.length) : (frs ps)[i]? = some (fr (ps.getD i 0)) := by
 unfold frs
 rw [getElem?_map, getElem?_eq_getElem h, gd_in h]
 rfl
def addR (ps qs : List Rat) : List Rat := (List.range (max ps.length qs.length)).map fun i => ps.getD i 0 + qs.getD i 0
theorem max_int (a b : Nat) : (if (b : Int) > (a : Int) then (b : Int) else a) = ((max a b : Nat) : Int) := by
 split <;> omega
theorem Zq8 {Z ν : List O} {j : Nat} {p : O} (h : Z[j]? = some p) : (Z ++ ν)[j]? = some p := (Gr0.app Z ν).at_ _ _ h
theorem Kz (n : Nat) (d : D) : (replicate n [d]).flatten = replicate n d := by
 induction n with
 | zero => rfl
 | succ n ih => rw [replicate_succ, List.flatten_cons, ih, replicate_succ]; rfl
theorem YH {ps : List Rat} {i m : Nat} (h : i < ps.length + m) : (frs ps ++ replicate m (fr 0))[i]? = some (fr (ps.getD i 0)) := by
 by_cases hi : i < ps.length
 ·rw [getElem?_append_left (by rw [Ck]; exact hi)]
  exact Mu hi
 ·rw [getElem?_append_right (by rw [Ck]; omega), Ck, List.getElem?_replicate, if_pos ⋯, gd_out ⋯]
theorem Ks {A : Nat} {ps qs : List Rat} {Z : List O} {E : Ex -> List O -> Prop} (hp : SmL A ps) (hq : SmL A qs) (h0 : 0 < A) (hA : A <= 90000) (l1 : ps.length <= 50) (l2 : qs.length <= 50) :
  Wp (BJ [.tup (frs ps), .tup (frs qs)]) Z (fun r Z' => r = .tup (frs (BR (addR ps qs))) /\ Gr0 Z Z') E := by
 unfold BJ c_l_sum
 have hs := sizeLine_eq
 walk_at "mi*"
 rw [Ck, Ck, max_int]
 refine ⟨⟨⋯, ⋯⟩, ?_⟩
 rw [Int.toNat_natCast]
 refine Qc (fun i Y Z' => Gr Z.length Z Z' /\ Z'[Z.length]? = some (.lst (frs ((List.range i).map fun i => ps.getD i 0 + qs.getD i 0))) /\ ∃ x, Y = [some (.tup (frs ps)), some (.tup (frs qs)), some (.ref Z.length), x]) ?_ ?_ ?_
 ·exact ⟨(Gr0.app _ _).gr, Ax, _, rfl⟩
 ·rintro i Y Z' hi ⟨g, hl, x, rfl⟩
  refine ⟨_, _, rfl, ?_⟩
  rw [show (0 : Int) + i = i by omega]
  have hlt := (XqB hl).1
  have k99 : (-(2 ^ 63) : Int) <= 99 /\ (99 : Int) < 2 ^ 63 := by omega
  have r99 : repL (Int.toNat 99) [D.tup [.int 0, .int 1]] = replicate 99 (fr 0) := Kz 99 _
  have n99 : (repL (Int.toNat 99) [D.tup [.int 0, .int 1]]).length = 99 := by rw [r99, List.length_replicate]
  have e1 : atD (frs ps ++ repL (Int.toNat 99) [D.tup [.int 0, .int 1]]) i = M.ret (fr (ps.getD i 0)) := by rw [r99]; exact Cp (YH ⋯)
  have e2 : atD (frs qs ++ repL (Int.toNat 99) [D.tup [.int 0, .int 1]]) i = M.ret (fr (qs.getD i 0)) := by rw [r99]; exact Cp (YH ⋯)
  clear r99
  have lp := @Ck ps
  have lq := @Ck qs
  walk_at "mi*"
  refine ⟨⋯, ⋯, Wp.go (run_ladd (hp.get h0) (hq.get h0) h0 ⋯) ?_⟩
  rintro _ _ ⟨rfl, rfl⟩
  refine ⟨_, Zq8 hl, by rw [Ck, length_map, List.length_range]; omega, (g.trans (Gr0.app _ _).gr).trans (Gr.set _ _ _), ?_, _, rfl⟩
  rw [Ce (Zq8 hl), List.range_succ, map_append]
  rw [frs, frs, map_append]
  rfl
 ·rintro Y Z' ⟨g, hl, x, rfl⟩
  try walk_at "mi*"
  refine Wp.go (Yx hl (by rw [length_map, List.length_range]; omega)) ?_
  rintro _ Z2 ⟨rfl, g2⟩
  try walk_at "mi"
  exact ⟨rfl, (g.off XqG).trans g2⟩
structure BdI (C b k : Nat) (acc : List Rat) : Prop where
 lo : ∀ i, i < k -> Sm (b + C) (acc.getD i 0)
 hi : ∀ i, k <= i -> Sm b (acc.getD i 0)
theorem gd_set {acc : List Rat} {k i : Nat} {x : Rat} : (acc.set k x).getD i 0 = if k = i /\ k < acc.length then x else acc.getD i 0 := by
 rw [getD_eq_getElem?_getD, getD_eq_getElem?_getD]
 by_cases h : k = i
 ·subst h
  by_cases hl : k < acc.length
  ·rw [getElem?_set_self hl, if_pos ⟨rfl, hl⟩]; rfl
  ·rw [if_neg ⋯, getElem?_eq_none (by rw [length_set]; omega), getElem?_eq_none ⋯]
 ·rw [getElem?_set_ne h, if_neg ⋯]
theorem BdI.all {C b k : Nat} {acc : List Rat} (h : BdI C b k acc) (i : Nat) : Sm (b + C) (acc.getD i 0) := by
 by_cases hi : i < k
 ·exact h.lo i hi
 ·exact (h.hi i ⋯).up ⋯
theorem frs_set {ps : List Rat} {k : Nat} {x : Rat} : (frs ps).set k (fr x) = frs (ps.set k x) := by
 unfold frs
 rw [List.map_set]
theorem enT_get {ps : List Rat} {i : Nat} {Z : List O} (h : i < ps.length) : (wkE (JQ (frs ps))).get i Z = some (some (.tup [.int i, fr (ps.getD i 0)])) := by
 dsimp only [wkE, JQ]
 rw [Mu h]
theorem enT_end {ps : List Rat} {Z : List O} : (wkE (JQ (frs ps))).get ps.length Z = some none := by
 dsimp only [wkE, JQ]
 rw [getElem?_eq_none (by rw [Ck]; omega)]
def byR (ps : List Rat) (x : Rat) : List Rat := (List.range ps.length).map fun i => ps.getD i 0 * x
def Cy (x : Rat) : List Rat -> Rat
 | [] => 0
 | c :: r => c + x * Cy x r
theorem Qi {ps : List Rat} {i : Nat} (h : i < ps.length) : ps.take (i + 1) = ps.take i ++ [ps.getD i 0] := by
 rw [take_succ, getElem?_eq_getElem h, gd_in h]
 rfl
theorem frs_rev {ps : List Rat} : (frs ps).reverse = frs ps.reverse := by simp [frs]
section
variable {l n w A : Nat} {Z : List O}
end
theorem SmL.trim {A : Nat} {ps : List Rat} (h : SmL A ps) : SmL A (BR ps) := fun p hp => h p (Km hp)
end Std
namespace Std
open PySem L2 PyProof.Rows Mi
def c_minus : CB := (Af (Cr (Am "plus" JZ (Aa (Ae 0) (Aa (Bg (Aa (Ie (cIx (Ae 1) (cInt 0))) (Aa (cIx (Ae 1) (cInt 1)) aNil))) aNil))))
 bNil)
def Eu : List D -> M D := mir 2 2 c_minus.run
def c_over : CB := (Af (sIf (Ba .Eq eqD (cIx (Ae 1) (cInt 0)) (cInt 0)) (Af sNever
 bNil) bNil)
 (Af (Cr (Am "times" Du (Aa (Ae 0) (Aa (cIf (Ba .Gt gtD (cIx (Ae 1) (cInt 0)) (cInt 0)) (Bg (Aa (cIx (Ae 1) (cInt 1)) (Aa (cIx (Ae 1) (cInt 0)) aNil))) (Bg (Aa (Ie (cIx (Ae 1) (cInt 1))) (Aa (Ie (cIx (Ae 1) (cInt 0))) aNil)))) aNil))))
 bNil))
def Gp : List D -> M D := mir 2 2 c_over.run
def c_less : CB := (Af (Cr (XM .Lt ltD (Az .Mult mulD (cIx (Ae 0) (cInt 0)) (cIx (Ae 1) (cInt 1))) (Az .Mult mulD (cIx (Ae 1) (cInt 0)) (cIx (Ae 0) (cInt 1)))))
 bNil)
def Iw : List D -> M D := mir 2 2 c_less.run
def En : CB := (Af (sIf (Ba .Eq eqD (Ae 1) (cInt 0)) (Af sNever
 bNil) bNil)
 (Af (Bv (gN 2) (Am "shared_by" BZ (Aa (cB "abs" absD (Aa (Ae 0) aNil)) (Aa (cB "abs" absD (Aa (Ae 1) aNil)) aNil))))
 (Af (sIf (Ba .Lt ltD (Ae 1) (cInt 0)) (Af (Jy 0 1 (Ie (Ae 0)) (Ie (Ae 1)))
 bNil) bNil)
 (Af (Cr (Bg (Aa (Az .FloorDiv fdivD (Ae 0) (Ae 2)) (Aa (Az .FloorDiv fdivD (Ae 1) (Ae 2)) aNil))))
 bNil))))
def Em : List D -> M D := mir 3 2 En.run
theorem fr_negq {q : Rat} : D.tup [.int (-q.num), .int q.den] = fr (-q) := rfl
theorem Lr {A : Nat} {p q : Rat} {Z : List O} {E : Ex -> List O -> Prop} (hp : Sm A p) (hq : Sm A q) (h0 : 0 < A) (hA : A <= 400000) : Wp (Eu [fr p, fr q]) Z (fun r Z' => r = fr (p - q) /\ Z' = Z) E := by
 unfold Eu c_minus
 have hs := sizeLine_eq
 have ix0 := @SM
 have ix1 := @Vl
 walk_at "mi*"
 rw [fr_negq]
 refine (Qu hp hq.neg h0 hA).mono ?_ fun _ _ z => z
 rintro _ _ ⟨rfl, rfl⟩
 exact ⟨by rw [Rat.sub_eq_add_neg], rfl⟩
theorem Ug {q : Rat} (h : 0 < q.num) : (q⁻¹).num = q.den /\ (q⁻¹).den = q.num.natAbs := by
 have e : q⁻¹ = Rat.inv q := rfl
 rw [e]
 unfold Rat.inv
 rw [dif_neg ⋯, dif_pos h]
 exact ⟨rfl, rfl⟩
theorem Uh {q : Rat} (h : q.num < 0) : (q⁻¹).num = -q.den /\ (q⁻¹).den = q.num.natAbs := by
 have e : q⁻¹ = Rat.inv q := rfl
 rw [e]
 unfold Rat.inv
 rw [dif_pos h]
 exact ⟨rfl, rfl⟩
theorem Sm.inv {A : Nat} {q : Rat} (h : Sm A q) (h0 : q ≠ 0) : Sm A (q⁻¹) := by
 have hn : q.num ≠ 0 := fun z => h0 (num0.mp z)
 rcases Int.lt_or_gt_of_ne hn with z | z
 ·obtain ⟨e1, e2⟩ := Uh z
  exact ⟨by rw [e1, Int.natAbs_neg, Int.natAbs_natCast]; exact h.2, by rw [e2]; exact h.1⟩
 ·obtain ⟨e1, e2⟩ := Ug z
  exact ⟨by rw [e1, Int.natAbs_natCast]; exact h.2, by rw [e2]; exact h.1⟩
theorem UJ {A : Nat} {p q : Rat} {Z : List O} {E : Ex -> List O -> Prop} (hp : Sm A p) (hq : Sm A q) (h0 : 0 < A) (hA : A <= 400000) (hne : q ≠ 0) : Wp (Gp [fr p, fr q]) Z (fun r Z' => r = fr (p / q) /\ Z' = Z) E := by
 unfold Gp c_over
 have hs := sizeLine_eq
 have ix0 := @SM
 have ix1 := @Vl
 have hn : ¬ q.num = 0 := fun z => hne (num0.mp z)
 have fin : Wp (Du [fr p, fr (q⁻¹)]) Z (fun r Z' => r = fr (p / q) /\ Z' = Z) E := by
  refine (Ip hp (hq.inv hne) h0 hA).mono ?_ fun _ _ z => z
  rintro _ _ ⟨rfl, rfl⟩
  exact ⟨by rw [Rat.div_def], rfl⟩
 by_cases hz : 0 < q.num
 ·obtain ⟨e1, e2⟩ := Ug hz
  have e : D.tup [.int q.den, .int q.num] = fr (q⁻¹) := by
   unfold fr
   rw [e1, e2]
   have : ((q.num.natAbs : Nat) : Int) = q.num := by omega
   rw [this]
  walk_at "mi*"
 ·have hz2 : q.num < 0 := by omega
  obtain ⟨e1, e2⟩ := Uh hz2
  have e : D.tup [.int (-q.den), .int (-q.num)] = fr (q⁻¹) := by
   unfold fr
   rw [e1, e2]
   have : ((q.num.natAbs : Nat) : Int) = -q.num := by omega
   rw [this]
  walk_at "mi*"
theorem lt_cross (p q : Rat) : (p.num * q.den < q.num * p.den) ↔ p < q := (Rat.lt_iff p q).symm
theorem Qw {A : Nat} {p q : Rat} {Z : List O} {E : Ex -> List O -> Prop} (hp : Sm A p) (hq : Sm A q) (h0 : 0 < A) (hA : A <= 400000) : Wp (Iw [fr p, fr q]) Z (fun r Z' => r = .bl (decide (p < q)) /\ Z' = Z) E := by
 unfold Iw c_less
 have ix0 := @SM
 have ix1 := @Vl
 have m1 : Dh p.num q.den := Bu (A := A) (B := A) hp.1 (by rw [Int.natAbs_natCast]; exact hq.2) h0 h0 ⋯
 have m2 : Dh q.num p.den := Bu (A := A) (B := A) hq.1 (by rw [Int.natAbs_natCast]; exact hp.2) h0 h0 ⋯
 have hl := lt_cross p q
 walk_at "mi*"
theorem RJ {A : Nat} {n d : Int} {Z : List O} {E : Ex -> List O -> Prop} (hd : d ≠ 0) (h1 : n.natAbs < 2 ^ A) (h2 : d.natAbs < 2 ^ A) (hA : A <= 400000) : Wp (Em [.int n, .int d]) Z (fun r Z' => r = fr (Rat.divInt n d) /\ Z' = Z) E := by
 unfold Em En
 have hs := sizeLine_eq
 walk_at "mi*"
 refine Wp.go (Dt _ _ _ _) ?_
 rintro _ _ ⟨rfl, rfl⟩
 have hg : 0 < Nat.gcd n.natAbs d.natAbs := Nat.gcd_pos_of_pos_right _ ⋯
 have kd := JN (d := Nat.gcd n.natAbs d.natAbs) (Nat.lt_of_le_of_lt (Nat.le_of_dvd ⋯ (Nat.gcd_dvd_right _ _)) h2) hg hA
 by_cases hn : d < 0
 ·walk_at "mi*"
  have hm := Fj (t := n) (low := d) (s := -1) hd ⋯ (.inr rfl)
  rw [Int.neg_one_mul, Int.neg_one_mul] at hm
  exact Gg hd hm
 ·walk_at "mi*"
  have hm := Fj (t := n) (low := d) (s := 1) hd ⋯ (.inl rfl)
  rw [Int.one_mul, Int.one_mul] at hm
  exact Gg hd hm
abbrev T (l : List Nat) : Str := SX.S l
def sgn (i : Int) : List Nat := if i < 0 then [45] else []
def dig (c : Nat) : Bool := decide (48 <= c) && decide (c <= 57)
theorem Uq : ∀ l : List Nat, Zq7 (l.map fun c => D.bl (dig c)) = some (l.map dig)
 | [] => rfl
 | c :: r => by
  rw [map_cons]
  unfold Zq7
  rw [Uq r]
  rfl
theorem all_id (l : List Nat) : (l.map dig).all id = l.all dig := by
 rw [List.all_map]
 rfl
def txt (q : Rat) : List Nat := (sgn q.num ++ TL.numL q.num.natAbs) ++ (if q.den = 1 then [] else 47 :: TL.numL q.den)
theorem signed (q : Rat) : (if decide (q.num < 0) = true then -(q.num.natAbs : Int) else q.num.natAbs) = q.num := by
 by_cases h : q.num < 0
 ·rw [decide_eq_true h, if_pos rfl]; omega
 ·rw [decide_eq_false h, if_neg Bool.false_ne_true]; omega
def few (q : Rat) : Bool := decide (q.num.natAbs < 1000000) && decide (q.den < 1000000)
end Std
namespace Mi
open PySem L2 PyProof.Rows
section
variable {X : Cx}
theorem Um : CallR X (.type "tuple") (fun xs H Q => ∃ p ys, xs = [.ref p] /\ SqL X.K H p ys /\ ∀ l (o : PySem.Obj), H l = none -> o.dict = none -> Q (.ref l) (upd H l (.frz o (.tup ys)))) := by
 intro pins s σ H xs us Q I r h
 obtain ⟨p, ys, rfl, hq, q⟩ := h
 obtain ⟨u, rfl, rx⟩ := vals1 r
 cases rx
 obtain ⟨its, r', pl, hz⟩ := I.list hq
 have hlen := r'.length
 refine call_tuple_list pl.isList (fun h' kp => ?_) (by simp only [size_toArray] <;> omega)
 have I1 : Inv X pins σ H { s with heap := h' } := I.kept (t' := s.toks) kp
 have I2 : Inv X pins σ (upd H h'.objs.size (.frz { cls := .type "tuple", data := .seq its.toArray } (.tup ys))) { s with heap := h'.push { cls := .type "tuple", data := .seq its.toArray } } :=
  I1.laid (t' := s.toks) (fun b o e => Heap.get?_push_of_some _ e) XqG (show ObjOk X.prog X.w _ _ _ (.frz _ (.tup ys)) from ⟨Heap.get?_push_size _ rfl, hz, its, r', IsTup.new _ _⟩)
 exact ⟨.ref h'.objs.size, _, I2, rfl, q _ _ (I1.hok.fresh XqG) rfl⟩
theorem X5 (hcalm : X.calm = true) : CallR X (.type "dict") (fun xs H Q => ∃ (a : Addr) (ps : List Addr) (kvs : List (Key × V)), xs = [.ref a] /\ FzT H a (ps.map V.ref) /\ Paired (fun p kv => SqT X.K H p [kV kv.1, kv.2]) ps kvs /\
  ∀ p, H p = none -> Q (.ref p) (upd H p (.dK (mergeK [] kvs)))) := by
 intro pins s σ H xs us Q I r q
 obtain ⟨a, ps, kvs, ex, ⟨o, hf, hd⟩, hp, q⟩ := q
 subst ex
 obtain ⟨u, eu, rx⟩ := vals1 r
 subst eu
 cases rx
 obtain ⟨ho, hz, its, rv, ht⟩ := (show ObjOk X.prog X.w H s.heap a (.frz o (.tup (ps.map V.ref))) from I.hok a _ hf)
 have ei := refs_at rv
 subst ei
 rw [length_map] at hz
 obtain ⟨prs, rel, hl, hpr⟩ := pairs_of I hp
 obtain ⟨o', e', hc, n, hdat⟩ := ht
 rw [ho] at e'
 cases e'
 -- the pairs as they lie
 let vps : List (Value × Value) := (List.range ps.length).map fun j => match ps[j]? with
  | some b => match s.heap.get? b with
   | some ob => match ob.data with
    | .seq xs _ => (xs.getD 0 .none, xs.getD 1 .none)
    | _ => (.none, .none)
   | none => (.none, .none)
  | none => (.none, .none)
 have vat : ∀ (j : Nat) (q : Key × Value), prs[j]? = some q -> ∃ (b : Addr) (u : Value), ps[j]? = some b /\ vps[j]? = some (u, q.2) /\ IsTup s.heap b #[u, q.2] /\ keyIs q.1 u = true := fun j q e => by
  obtain ⟨b, u, e1, e2, e3⟩ := hpr j q e
  refine ⟨b, u, e1, ?_, e2, e3⟩
  obtain ⟨ob, f1, f2, m, f3⟩ := e2
  have hj := (XqB e1).1
  rw [getElem?_map, List.getElem?_range hj]
  simp only [Option.map_some, e1, f1, f3]
  rfl
 have lv : vps.length = ps.length := by simp [vps]
 refine call_dict_pairs (knd := mixKind X.prog X.w) (kvs := prs) (PairArg.tuple (prog := X.prog) (w := X.w) a (ps.map Value.ref).toArray (fun j => ps.getD j 0) vps) (I.ok.hd hcalm) ⟨⟨o, n, ho, hc, hd, hdat⟩, ⟨by simp [lv], fun j k v e => ?_⟩⟩ ⟨by rw [lv, hl], fun i key v e => ?_⟩ (by rw [lv]; exact hz) fun h' tk hd' k => ?_
 ·have hj : j < prs.length := by
   have := (XqB e).1
   omega
  obtain ⟨b, u, e1, e2, e3, e4⟩ := vat j _ (getElem?_eq_getElem hj)
  rw [e] at e2
  cases e2
  have eg : ps.getD j 0 = b := by rw [getD_eq_getElem?_getD, e1]; rfl
  refine ⟨by simp [e1, eg], ?_⟩
  show PairAt s.heap (ps.getD j 0) _ _
  rw [eg]
  obtain ⟨ob, f1, f2, m, f3⟩ := e3
  exact .inl ⟨ob, f1, f2, m, f3⟩
 ·have hj : i < prs.length := by
   have := (XqB e).1
   omega
  obtain ⟨b, u, e1, e2, e3, e4⟩ := vat i _ (getElem?_eq_getElem hj)
  rw [show vps[i]? = some (key, v) from e] at e2
  cases e2
  exact ⟨_, getElem?_eq_getElem hj, e4⟩
 ·have hm : (s.heap.objs.size == sysModules) = false := beq_eq_false_iff_ne.mpr (Nat.ne_of_gt I.big)
  have hlen : (mergeK [] kvs).length <= sizeLine := by
   refine Nat.le_trans (length_mergeK kvs []) ?_
   rw [length_nil, Nat.zero_add, rel.length, hl]
   exact hz
  exact ⟨.ref s.heap.objs.size, upd H s.heap.objs.size (.dK (mergeK [] kvs)), I.laid (t' := tk) (fun b o e => k b o (by simp) e) XqG (show ObjOk X.prog X.w _ _ _ (.dK (mergeK [] kvs)) from ⟨hlen, hm, merged [] prs, KV.merge rel .nil, hd'⟩), rfl, q _ (I.hok.fresh XqG)⟩
end
end Mi
namespace Mi
open PySem L2 PyProof.Rows
section
variable [Tb]
def Gn : List D -> Option (List (Key × D))
 | [] => some []
 | .tup [k, v] :: r => match keyD k, Gn r with
  | some kk, some ps => some ((kk, v) :: ps)
  | _, _ => none
 | _ => none
def dictL : List D -> M D
 | [.ref l] => M.bnd (M.lst l) fun ds => match Gn ds with
  | some ps => M.new (.dct (JX [] ps))
  | none => M.stop
 | [.tpl ds] => match Gn ds with
  | some ps => M.new (.dct (JX [] ps))
  | none => M.stop
 | _ => M.stop
theorem Ls {K : PySem.W.Frag} {α : List Addr} {H : Hp} : ∀ {ds : List D} {vs : List V} {ps : List (Key × D)}, Bh K α H ds vs -> Gn ds = some ps -> ∃ (as : List Addr) (kvs : List (Key × V)), vs = as.map V.ref /\ Paired (fun p kv => SqT K H p [kV kv.1, kv.2]) as kvs /\ Bo K α H ps kvs
 | [], vs, ps, r, h => by
  cases h
  cases (show vs = [] from r)
  exact ⟨[], [], rfl, .nil, rfl⟩
 | d :: ds, vs, ps, ⟨v, u, e, r1, r2⟩, h => by
  unfold Gn at h
  split at h
  ·rename_i heq
   cases heq
  ·rename_i k w rest heq
   cases heq
   cases e1 : keyD k with
   | none => rw [e1] at h; cases h
   | some kk =>
    cases e2 : Gn ds with
    | none => rw [e1, e2] at h; cases h
    | some qs =>
     rw [e1, e2] at h
     cases h
     obtain ⟨as, kvs, q1, q2, q3⟩ := Ls r2 e2
     obtain ⟨p, vs1, f1, f2, f3⟩ := r1
     obtain ⟨a1, b1, g1, g2, g3⟩ := f3
     obtain ⟨a2, b2, g4, g5, g6⟩ := g3
     cases (show b2 = [] from g6)
     subst g1 g4 f1
     refine ⟨p :: as, (kk, a2) :: kvs, by rw [e, q1]; rfl, .cons ?_ q2, a2, kvs, rfl, g5, q3⟩
     rw [Ud g2 e1] at f2
     exact f2
  ·cases h
theorem Zb {K : PySem.W.Frag} {mg : Str -> Option Value} {E : XK} {α : List Addr} {H : Hp} {Z Z' : List O} {ds : List (Key × D)} {vs : List (Key × V)} {r : Except Ex D} {Q : VK} (s : RepS K α H Z) (run : M.new (.dct ds) Z = some (r, Z'))
  (aft : Aft (Rep K) K mg E α H r Z' Q) (hv : Bo K α H ds vs) {p : Addr} (hp : H p = none) : Q (.ref p) (upd H p (.dK vs)) := by
 cases run
 refine aft (α ++ [p]) _ _ (Ext.push hp) (s.push hp ⟨vs, upd_same, hv.up (Ext.push hp)⟩) ⟨p, rfl, ?_⟩
 rw [<- s.len, getElem?_append_right XqG]
 simp
theorem callR_or {X : Cx} {f : Value} {r1 r2 : List V -> Hp -> VK -> Prop} (h1 : CallR X f r1) (h2 : CallR X f r2) : CallR X f (fun xs H Q => r1 xs H Q \/ r2 xs H Q) := by
 intro pins s σ H xs us Q I r q
 rcases q with q | q
 ·exact h1 pins s σ H xs us Q I r q
 ·exact h2 pins s σ H xs us Q I r q
theorem ok_dictL : GZ (.type "dict") dictL := by
 intro X hx
 refine ⟨_, callR_or (call_dictP hx.calm) (X5 hx.calm), ?_⟩
 intro mg E α H Z Z' ds xs q Q s r run aft
 unfold dictL at run
 split at run
 ·obtain ⟨v, vr, e, r1, r2⟩ := r
  cases (show vr = [] from r2)
  subst e
  obtain ⟨ys, h1, run⟩ := Ec run
  obtain ⟨p1, v1, e1, a1, b1, c1⟩ := Dm s r1 h1
  subst e1
  cases hp : Gn ys with
  | none => rw [hp] at run; cases run
  | some ps =>
   rw [hp] at run
   obtain ⟨as, kvs, q1, q2, q3⟩ := Ls c1 hp
   subst q1
   exact .inl ⟨p1, as, kvs, rfl, SqL.of b1, q2, fun p hp' => Zb s run aft (Bo.merge q3 rfl) hp'⟩
 ·rename_i ys
  obtain ⟨v, vr, e, r1, r2⟩ := r
  cases (show vr = [] from r2)
  subst e
  obtain ⟨p1, vs, e1, t, c1⟩ := r1
  subst e1
  cases hp : Gn ys with
  | none => rw [hp] at run; cases run
  | some ps =>
   rw [hp] at run
   obtain ⟨as, kvs, q1, q2, q3⟩ := Ls c1 hp
   subst q1
   exact .inr ⟨p1, as, kvs, rfl, t, q2, fun p hp' => Zb s run aft (Bo.merge q3 rfl) hp'⟩
 ·cases run
end
section
variable {Z : List O} {P : D -> List O -> Prop} {E : Ex -> List O -> Prop}
theorem Uw {ds : List D} {ps : List (Key × D)} (hp : Gn ds = some ps) : Wp (dictL [.tpl ds]) Z P E ↔ P (.ref Z.length) (Z ++ [.dct (JX [] ps)]) := by
 show Wp (match Gn ds with
  | some ps => M.new (.dct (JX [] ps))
  | none => M.stop) Z P E ↔ _
 rw [hp]
 dsimp only
 rw [KC]
end
end Mi
namespace Mi
open PySem L2 PyProof.Rows
variable [Tb]
theorem fnG_stop {P : Program} {w : World} {K : PySem.W.Frag} {mg : Str -> Option Value} {base : Heap} {k : Nat} {f : Addr} {fd : FuncData} {ps : List Str} : FnG P w K mg base k f fd ps (Tv K mg (fun _ => M.stop)) := by
 have no : ∀ vs H Q E, Tv K mg (fun _ => M.stop) vs H Q E -> False := by
  rintro vs H Q E ⟨α, Z, ds, r, Z', s, w, run, _⟩
  cases run
 exact ⟨fun vs H Q E h => (no vs H Q E h).elim, fun A outer s H args us vs Q E hr hgd e0 hb r hsp => (no _ _ _ _ hsp).elim⟩
end Mi
namespace Mi
open PySem L2 PyProof.Rows
variable [Tb]
section
variable {Kn : Kno} {k : Nat}
end
section
variable {Kn : Kno} {k : Nat}
end
end Mi
namespace Mi
open PySem PySem.Spec PyProof.Rows L2
def txOf (e : Int × Value) : Str := match e.2 with | .str x _ => x | _ => Str.empty
def TxE (w : World) (e : Int × Value) : Prop := ∃ x u, e.2 = Value.str x u /\ e.1 = hashStr w x
structure TxAt (w : World) (h : Heap) (D : Addr) (xs : List Str) (es : Array (Int × Value)) (ep : Nat) (tb : SetTable) : Prop where
 ob : ∃ o, h.get? D = some o /\ o.ExactSet /\ o.data = .set es ep tb
 good : ∀ e ∈ es.toList, TxE w e
 each : (es.toList.map txOf).Perm xs
 nod : xs.Nodup
 few : es.size < scanBound
 fit : tb.fits es.size = true
 ris : Ris tb.place.toList
 led : w.params.followText "set-order" = true \/ tb.led = true
def TxSet (w : World) (h : Heap) (D : Addr) (xs : List Str) : Prop := ∃ es ep tb, TxAt w h D xs es ep tb
section
variable {P : Program} {w : World} {A : Around} {E : Value -> Shared -> Prop} {s : Shared} {D : Addr} {xs : List Str}
theorem TxAt.size {h : Heap} {es : Array (Int × Value)} {ep : Nat} {tb : SetTable} (R : TxAt w h D xs es ep tb) : es.size = xs.length := by
 rw [<- R.each.length_eq, length_map, Array.length_toList]
theorem TxSet.at {h h' : Heap} (R : TxSet w h D xs) (k : ∀ o, h.get? D = some o -> h'.get? D = some o) : TxSet w h' D xs := by
 obtain ⟨es, ep, tb, r⟩ := R
 obtain ⟨o, o1, o2⟩ := r.ob
 exact ⟨es, ep, tb, ⟨o, k o o1, o2⟩, r.good, r.each, r.nod, r.few, r.fit, r.ris, r.led⟩
def putT (xs : List Str) (x : Str) : List Str := if x ∈ xs then xs else x :: xs
end
end Mi
namespace Mi
open PySem PySem.Spec PyProof.Rows L2
section
variable {P : Program} {w : World} {A : Around} {E : Value -> Shared -> Prop} {s : Shared} {D : Addr} {xs : List Str}
end
section
variable {prog : Program} {w : World} {A : Around} {R : Result -> Shared -> Prop} {I : Addr} {fp wr : List Addr} {G : Array GenState -> Array GenState -> Prop} {n : Nat} {P : Nat -> Value -> Prop} {St : Nat -> Shared -> Prop}
end
section
variable {P : Program} {w : World} {A : Around} {E : Value -> Shared -> Prop} {s : Shared}
end
end Mi
namespace Mi
open PySem PySem.Spec PyProof.Rows L2 PpSet
abbrev TX := L2.St -> Hp -> (List Str -> Hp -> Prop) -> Prop
def EX (X : Cx) (pins : List (Addr × Obj)) (σ : L2.St) (R : List Str -> Hp -> Prop) (v : Value) (s : Shared) : Prop := ∃ D xs H, v = .ref D /\ Inv X pins σ H s /\ FpOk X pins H D /\ TxSet X.w s.heap D xs /\ R xs H
structure PX (X : Cx) (e : Expr) (t : TX) : Prop where
 run : ∀ (pins : List (Addr × Obj)) (s : Shared) (σ : L2.St) (H : Hp) (R : List Str -> Hp -> Prop), Inv X pins σ H s -> t σ H R -> wpAny (model X.prog X.w) X.A (eval e X.env) (EX X pins σ R) X.xe s
theorem PX.imp {X : Cx} {e : Expr} {t t' : TX} (h : PX X e t) (i : ∀ σ H R, t' σ H R -> t σ H R) : PX X e t' := ⟨fun pins s σ H R I q => h.run pins s σ H R I (i σ H R q)⟩
section
variable {X : Cx}
end
end Mi
namespace Mi
open PySem PySem.Spec PyProof.Rows L2 PpSet
section
variable {P : Program} {w : World} {A : Around} {E : Value -> Shared -> Prop} {s : Shared} {D : Addr} {xs : List Str}
end
section
variable {X : Cx}
end
end Mi
namespace Mi
open PySem L2 PyProof.Rows
variable [Tb]
structure CX where
 run : Env -> M (List Str)
 chk : Inf -> Expr -> Bool
section
variable {Kn : Kno} {k : Nat}
end
end Mi
namespace Mi
open PySem PySem.Spec PyProof.Rows L2 PpSet
section
variable {prog : Program} {w : World} {A : Around} {R : Result -> Shared -> Prop} {s : Shared} {elt t0 i0 t1 i1 : Expr} {ifs0 ifs1 : List Expr} {scope : Scope} {pos : Pos} {it acc : Value} {env : PySem.Env}
end
section
variable {X : Cx}
end
section
variable [Tb]
end
end Mi
namespace Mi
open PySem PySem.Spec PyProof.Rows L2
section
variable {prog : Program} {w : World} {A : Around} {R : Result -> Shared -> Prop} {s : Shared} {kx vx t0 i0 t1 i1 : Expr} {ifs0 ifs1 : List Expr} {scope : Scope} {pos : Pos} {it : Value} {D : Addr} {env : PySem.Env}
abbrev nb (prog : Program) (w : World) (A : Around) (env : PySem.Env) (R : Result -> Shared -> Prop) : Value -> Shared -> Prop := notedBy (model prog w) A env fun e s' => R (.error e) s'
end
section
variable {X : Cx}
end
end Mi
namespace Mi
open PySem L2 PyProof.Rows
variable [Tb]
section
variable {K : PySem.W.Frag} {mg : Str -> Option Value}
end
section
variable {Kn : Kno} {k : Nat}
end
end Mi
namespace Mi
open PySem L2 PyProof.Rows
variable [Tb]
def KnV (Kn : Kno) (ms : List (Str × (List D -> M D))) (k : Nat) : Prop := ∀ q ∈ ms, ∀ P w K mg base, Kn P w K mg base ->
 ∃ fd ps, FnG P w K mg base k (Tb.F q.1) fd ps (Tv K mg q.2) /\ PySem.W.keepIn K (.ref (Tb.F q.1)) = true /\ Binds K fd ps []
theorem KnV.nil {Kn : Kno} {k : Nat} : KnV Kn [] k := fun q h => nomatch h
theorem KnV.cons {Kn : Kno} {k : Nat} {x : Str} {m : List D -> M D} {ms : List (Str × (List D -> M D))} (h : ∀ P w K mg base, Kn P w K mg base -> ∃ fd ps, FnG P w K mg base k (Tb.F x) fd ps (Tv K mg m) /\ PySem.W.keepIn K (.ref (Tb.F x)) = true /\ Binds K fd ps []) (t : KnV Kn ms k) : KnV Kn ((x, m) :: ms) k := fun q hq => by
 rcases mem_cons.mp hq with e | hq
 ·subst e; exact h
 ·exact t q hq
section
variable {X : Cx}
end
section
variable {Kn : Kno} {k : Nat}
end
end Mi
namespace Mi
open PySem L2 PyProof.Rows
variable [Tb]
section
variable {K : PySem.W.Frag} {α α' : List Addr} {H H' H0 : Hp} {p : Addr} {ob : PySem.Obj} {ws : List (Key × V)} {Z : List O} {l : Nat}
theorem rdT_unl {q : Addr} {xs : List V} (h : H p = some (.frz ob (.dK ws))) (r : Rd H q (.tup xs)) : Rd (upd H p (.dK ws)) q (.tup xs) := by
 have ne : q ≠ p := fun z => by
  subst z
  rcases r with r | ⟨o, r⟩ <;> · rw [h] at r; cases r
 rcases r with r | ⟨o, r⟩
 ·exact .inl (by rw [upd_ne ne]; exact r)
 ·exact .inr ⟨o, by rw [upd_ne ne]; exact r⟩
theorem fqL_unl {q : Addr} {xs : List V} (h : H p = some (.frz ob (.dK ws))) (r : FqL K H q xs) : FqL K (upd H p (.dK ws)) q xs := by
 rcases r with ⟨o, r⟩ | r
 ·have ne : q ≠ p := fun z => by
   subst z
   rw [h] at r; cases r
  exact .inl ⟨o, by rw [upd_ne ne]; exact r⟩
 ·exact .inr r
theorem fzT_unl {q : Addr} {xs : List V} (h : H p = some (.frz ob (.dK ws))) (r : FzT H q xs) : FzT (upd H p (.dK ws)) q xs := by
 obtain ⟨o, r, d⟩ := r
 have ne : q ≠ p := fun z => by
  subst z
  rw [h] at r; cases r
 exact ⟨o, by rw [upd_ne ne]; exact r, d⟩
mutual
theorem Rep.unl (h : H p = some (.frz ob (.dK ws))) : ∀ {d : D} {v : V}, Rep K α H d v -> Rep K α (upd H p (.dK ws)) d v
 | .non, _, r => r
 | .bl _, _, r => r
 | .int _, _, r => r
 | .str _, _, r => r
 | .tup ds, _, ⟨q, vs, e, t, r⟩ => ⟨q, vs, e, (by rcases t with t | t; exact .inl (rdT_unl h t); exact .inr t), Bh.unl h r⟩
 | .fro ds, _, ⟨q, vs, e, t, r⟩ => ⟨q, vs, e, fqL_unl h t, Bh.unl h r⟩
 | .ref l, _, ⟨q, e, a⟩ => ⟨q, e, a⟩
 | .fn _, _, r => r
 | .tpl ds, _, ⟨q, vs, e, t, r⟩ => ⟨q, vs, e, fzT_unl h t, Bh.unl h r⟩
theorem Bh.unl (h : H p = some (.frz ob (.dK ws))) : ∀ {ds : List D} {vs : List V}, Bh K α H ds vs -> Bh K α (upd H p (.dK ws)) ds vs
 | [], _, r => r
 | _ :: _, _, ⟨v, r, e, a, b⟩ => ⟨v, r, e, Rep.unl h a, Bh.unl h b⟩
end
theorem Bo.unl (h : H p = some (.frz ob (.dK ws))) : ∀ {ds : List (Key × D)} {vs : List (Key × V)}, Bo K α H ds vs -> Bo K α (upd H p (.dK ws)) ds vs
 | [], _, r => r
 | _ :: _, _, ⟨v, s, e, a, b⟩ => ⟨v, s, e, a.unl h, Bo.unl h b⟩
theorem Rm.unl (h : H p = some (.frz ob (.dK ws))) : ∀ {ds : List (Str × D)} {vs : List (Str × V)}, Rm K α H ds vs -> Rm K α (upd H p (.dK ws)) ds vs
 | [], _, r => r
 | _ :: _, _, ⟨v, s, e, a, b⟩ => ⟨v, s, e, a.unl h, Rm.unl h b⟩
theorem repO_unl (h : H p = some (.frz ob (.dK ws))) {o : O} {q : Addr} (ne : q ≠ p) (r : XN K α H o q) : XN K α (upd H p (.dK ws)) o q := by
 cases o with
 | lst ds =>
  obtain ⟨vs, h1, h2⟩ := r
  exact ⟨vs, by rw [upd_ne ne]; exact h1, h2.unl h⟩
 | dct ds =>
  obtain ⟨vs, h1, h2⟩ := r
  exact ⟨vs, by rw [upd_ne ne]; exact h1, h2.unl h⟩
 | ins c fs =>
  obtain ⟨dx, vs, h1, h2⟩ := r
  exact ⟨dx, vs, by rw [upd_ne ne]; exact h1, h2.unl h⟩
 | fzd kvs =>
  obtain ⟨o, vs, h1, h2⟩ := r
  exact ⟨o, vs, by rw [upd_ne ne]; exact h1, h2.unl h⟩
theorem RepE.unl {Y : Env} {σ : L2.St} (h : H p = some (.frz ob (.dK ws))) (e : RepE K α H Y σ) : RepE K α (upd H p (.dK ws)) Y σ :=
 ⟨e.len, fun i d hd => let ⟨v, h1, h2⟩ := e.at_ i d hd; ⟨v, h1, h2.unl h⟩⟩
theorem RepS.unl {kvs : List (Key × D)} (s : RepS K α H Z) (hp : α[l]? = some p) (h : H p = some (.frz ob (.dK ws))) (hl : Z[l]? = some (.fzd kvs)) : RepS K α (upd H p (.dK ws)) (Z.set l (.dct kvs)) := by
 have r0 := s.at_ l _ p hl hp
 refine ⟨by simp [s.len], s.nd, fun j o' q h1 h2 => ?_, fun y hy => ?_⟩
 ·by_cases hj : j = l
  ·subst hj
   rw [hp] at h2
   cases h2
   rw [getElem?_set_self (XqB hl).1] at h1
   cases h1
   obtain ⟨o, vs, a1, a2⟩ := r0
   rw [h] at a1
   cases a1
   exact ⟨_, upd_same, a2.unl h⟩
  ·rw [getElem?_set_ne (Ne.symm hj)] at h1
   have nq : q ≠ p := fun z => by
    subst z
    obtain ⟨b1, e1⟩ := XqB h2
    obtain ⟨b2, e2⟩ := XqB hp
    exact hj ((List.getElem_inj s.nd).mp (e1.trans e2.symm))
   exact repO_unl h nq (s.at_ j o' q h1 h2)
 ·obtain ⟨ps, a1, a2, a3⟩ := s.tb y hy
  have ny : y.1 ≠ p := fun z => by rw [z, h] at a1; cases a1
  refine ⟨ps, by rw [upd_ne ny]; exact a1, a2, fun pos cv hc => ?_⟩
  obtain ⟨c, e1, e2⟩ := a3 pos cv hc
  have nc : c ≠ p := fun z => by rw [z, h] at e2; unfold LamX.CodeO at e2; cases e2
  exact ⟨c, e1, by rw [upd_ne nc]; exact e2⟩
theorem Ext.unl {ob : PySem.Obj} (hp : p ∈ α) (h0 : H0 p = some (.dK ws)) (x : Ext α (upd H0 p (.frz ob (.dK ws))) α' H') : Ext α H0 α' (upd H' p (.dK ws)) := by
 refine ⟨x.pre, fun q o e c => ?_, fun q hq => ?_⟩
 ·by_cases z : q = p
  ·subst z
   rw [h0] at e
   cases e
   exact .inl upd_same
  ·rw [upd_ne z]
   exact x.keep q o (by rw [upd_ne z]; exact e) c
 ·by_cases z : q = p
  ·subst z
   exact .inl hp
  ·exact (x.new q hq).imp id fun f o e => f o (by rw [upd_ne z]; exact e)
end
section
variable {K : PySem.W.Frag} {α : List Addr} {H : Hp} {Z : List O} {kvs : List (Key × D)} {ws : List (Key × V)}
theorem Bo.get : ∀ {kvs : List (Key × D)} {ws : List (Key × V)} {i : Nat} {k : Key} {d : D}, Bo K α H kvs ws -> kvs[i]? = some (k, d) -> ∃ v, ws[i]? = some (k, v) /\ Rep K α H d v
 | [], _, i, k, d, _, h => by simp at h
 | (k0, d0) :: r, _, 0, k, d, ⟨v, s, e, a, b⟩, h => by
  simp at h
  obtain ⟨rfl, rfl⟩ := h
  subst e
  exact ⟨v, rfl, a⟩
 | (k0, d0) :: r, _, i + 1, k, d, ⟨v, s, e, a, b⟩, h => by
  subst e
  obtain ⟨w, h1, h2⟩ := Bo.get (i := i) b (by simpa using h)
  exact ⟨w, by simpa using h1, h2⟩
end
section
variable {Kn : Kno} {k : Nat}
end
end Mi
namespace Mi
open PySem L2 PyProof.Rows
def Fv {β : Type} (ps : List PyData) (xs : List β) : List β := ((xs.zip ps).mergeSort (W.dataLe false (·.2))).map (·.1)
def KQ (ps : List PyData) : Bool := (ps.all fun a => ps.all fun b => W.alike a b) && ((ps.all fun a => match a with
 | .tuple (_ :: _) => true
 | _ => false) || (ps.all fun a => match a with
 | .none => false
 | .tuple _ => false
 | _ => true)) && (ps.all fun a => decide (a.depth <= 60))
theorem Ym {ps : List PyData} (h : KQ ps = true) : W.AllAlike ps /\ W.Sortable ps /\ ∀ a ∈ ps, a.depth <= 60 := by
 unfold KQ at h
 simp only [and_eq_true, or_eq_true, all_eq_true, decide_eq_true_eq] at h
 obtain ⟨⟨h1, h2⟩, h3⟩ := h
 refine ⟨fun a ha b hb => h1 a ha b hb, ?_, h3⟩
 rcases h2 with h2 | h2
 ·refine .inl fun d hd => ?_
  have := h2 d hd
  cases d with
  | tuple xs =>
   cases xs with
   | nil => cases this
   | cons x r => exact ⟨x, r, rfl⟩
  | _ => cases this
 ·refine .inr fun d hd => ?_
  have := h2 d hd
  cases d with
  | none => cases this
  | tuple xs => cases this
  | _ => exact ⟨(fun z => nomatch z), (fun xs z => nomatch z)⟩
theorem Ru {β γ : Type} (f : β -> γ) {ps : List PyData} {xs : List β} : (Fv ps xs).map f = Fv ps (xs.map f) := by
 unfold Fv
 have e : (xs.map f).zip ps = (xs.zip ps).map fun q => (f q.1, q.2) := by
  rw [List.zip_map_left]
  rfl
 rw [e, map_map]
 have := List.map_mergeSort (f := fun q : β × PyData => (f q.1, q.2)) (r := W.dataLe false (·.2)) (s := W.dataLe false (·.2)) (l := xs.zip ps) (fun a _ b _ => rfl)
 rw [<- this, map_map]
 rfl
variable [Tb]
theorem VH {K : PySem.W.Frag} {α : List Addr} {H : Hp} {ds : List D} {vs : List V} {ps : List PyData} (r : Bh K α H ds vs) : Bh K α H (Fv ps ds) (Fv ps vs) := by
 have e1 : Fv ps ds = (Fv ps (ds.zip vs)).map (·.1) := by
  rw [Ru, List.map_fst_zip (Nat.le_of_eq r.len.symm)]
 have e2 : Fv ps vs = (Fv ps (ds.zip vs)).map (·.2) := by
  rw [Ru, List.map_snd_zip (Nat.le_of_eq r.len)]
 have hm : ∀ q ∈ Fv ps (ds.zip vs), Rep K α H q.1 q.2 := by
  intro q hq
  unfold Fv at hq
  obtain ⟨q2, h2, rfl⟩ := mem_map.mp hq
  have h3 := (mergeSort_perm _ _).mem_iff.mp h2
  have h4 : q2.1 ∈ ds.zip vs := by
   obtain ⟨a, b⟩ := q2
   exact (List.of_mem_zip h3).1
  obtain ⟨i, hi⟩ := List.getElem?_of_mem h4
  rw [List.getElem?_zip_eq_some] at hi
  obtain ⟨v, h5, h6⟩ := r.get hi.1
  rw [hi.2] at h5
  cases h5
  exact h6
 rw [e1, e2]
 have go : ∀ l : List (D × V), (∀ q ∈ l, Rep K α H q.1 q.2) -> Bh K α H (l.map (·.1)) (l.map (·.2)) := by
  intro l
  induction l with
  | nil => intro _; exact Bh.nil
  | cons q r ih => intro h; exact Bh.cons (h q mem_cons_self) (ih fun x hx => h x (mem_cons_of_mem _ hx))
 exact go _ hm
theorem Uj {α β : Type} {R : α -> β -> Prop} : ∀ {as : List α} {bs : List β}, as.length = bs.length -> (∀ (i : Nat) a b, as[i]? = some a -> bs[i]? = some b -> R a b) -> W.EachIs R as bs
 | [], [], _, _ => .nil
 | [], _ :: _, h, _ => by cases h
 | _ :: _, [], h, _ => by cases h
 | a :: as, b :: bs, h, k => .cons (k 0 a b rfl rfl) (Uj (by simpa using h) fun i x y h1 h2 => k (i + 1) x y (by simpa using h1) (by simpa using h2))
theorem JR {β : Type} {f : β -> V} : ∀ {us : List Value} {bs : List β}, W.EachIs (fun u b => RelV (f b) u) us bs -> Vals (bs.map f) us
 | _, _, .nil => .nil
 | _, _, .cons h t => .cons h (JR t)
theorem U8 {see : D -> Option PyData} : ∀ {ds : List D} {ps : List PyData}, Fb see ds = some ps -> ps.length = ds.length
 | [], ps, h => by
  have h : some [] = some ps := h
  cases h; rfl
 | d :: ds, ps, h => by
  unfold Fb at h
  cases e1 : see d with
  | none => rw [e1] at h; cases h
  | some p =>
   rw [e1] at h
   cases e2 : Fb see ds with
   | none => rw [e2] at h; cases h
   | some r =>
    rw [e2] at h
    cases h
    rw [length_cons, length_cons, U8 e2]
theorem U9 {see : D -> Option PyData} : ∀ {ds : List D} {ps : List PyData} {i : Nat} {d : D}, Fb see ds = some ps -> ds[i]? = some d -> ∃ p, ps[i]? = some p /\ see d = some p
 | [], ps, i, d, h, k => by simp at k
 | d0 :: ds, ps, i, d, h, k => by
  unfold Fb at h
  cases e1 : see d0 with
  | none => rw [e1] at h; cases h
  | some p =>
   rw [e1] at h
   cases e2 : Fb see ds with
   | none => rw [e2] at h; cases h
   | some r =>
    rw [e2] at h
    cases h
    cases i with
    | zero =>
     simp at k
     subst k
     exact ⟨p, rfl, e1⟩
    | succ i =>
     obtain ⟨q, h1, h2⟩ := U9 (i := i) e2 (by simpa using k)
     exact ⟨q, by simpa using h1, h2⟩
def rSortG (X : Cx) : List V -> Hp -> VK -> Prop := fun vs H Q => ∃ α Z ds a xs ps, vs = [.ref a] /\ SqL X.K H a xs /\ RepS X.K α H Z /\ Bh X.K α H ds xs /\ Fb (see Z 62) ds = some ps /\ KQ ps = true /\ ∀ p, H p = none -> Q (.ref p) (upd H p (.lst (Fv ps xs)))
theorem cr_sortG {X : Cx} (hx : Here X) : CallR X (.builtin "sorted") (rSortG X) := by
 intro pins s σ H vs us Q I r h
 obtain ⟨α, Z, ds, a, xs, ps, rfl, hs, sS, rp, hsee, hok, q⟩ := h
 obtain ⟨its, rv, hl, hz⟩ := I.list hs
 obtain ⟨u, rfl, ru⟩ := vals1 r
 obtain rfl : u = Value.ref a := ru
 obtain ⟨hal, hk, hdp⟩ := Ym hok
 have l1 := rp.len
 have l2 := U8 hsee
 have l3 := rv.length
 have hzip : (xs.zip ps).map (·.2) = ps := List.map_snd_zip ⋯
 have hread : ∀ (i : Nat) u d x p, its[i]? = some u -> ds[i]? = some d -> xs[i]? = some x -> ps[i]? = some p -> RelV x u /\ ∃ as, Reads s.heap u p as := by
  intro i u d x p e1 e2 e3 e4
  obtain ⟨x', e5, r5⟩ := rp.get e2
  rw [e3] at e5
  cases e5
  obtain ⟨p', e6, e7⟩ := U9 hsee e2
  rw [e4] at e6
  cases e6
  obtain ⟨u', e8, r8⟩ := LiI.paired_get rv e3
  rw [e1] at e8
  cases e8
  obtain ⟨as, q1, _⟩ := Eo I hx.sys sS 62 d p x u e7 r5 r8
  exact ⟨r8, as, q1⟩
 have get : ∀ (i : Nat) b, (xs.zip ps)[i]? = some b -> ∃ d, ds[i]? = some d /\ xs[i]? = some b.1 /\ ps[i]? = some b.2 := by
  intro i b hb
  rw [List.getElem?_zip_eq_some] at hb
  obtain ⟨d, hd, _⟩ := rp.get' hb.1
  exact ⟨d, hd, hb.1, hb.2⟩
 have hun := hx.room.units
 refine W.sorted_data (R := fun u b => RelV b.1 u) (enc := fun b : V × PyData => b.2) (bs := xs.zip ps) (vs := its) hl.isList ?_ ?_ ?_ ?_ ?_ ?_ ?_
 ·refine Uj (by rw [length_zip]; omega) fun i u b e1 e2 => ?_
  obtain ⟨d, h1, h2, h3⟩ := get i b e2
  exact (hread i u d _ _ e1 h1 h2 h3).1
 ·refine Uj (by rw [length_zip]; omega) fun i u b e1 e2 => ?_
  obtain ⟨d, h1, h2, h3⟩ := get i b e2
  exact (hread i u d _ _ e1 h1 h2 h3).2
 ·rw [show (xs.zip ps).map (fun b => b.2) = ps from hzip]; exact hal
 ·rw [show (xs.zip ps).map (fun b => b.2) = ps from hzip]; exact hk
 ·rw [length_zip]; omega
 ·intro b hb
  have := hdp b.2 (by rw [<- hzip]; exact mem_map_of_mem hb)
  omega
 ·intro out ho he
  have hv : Vals (Fv ps xs) out := JR he
  obtain ⟨n, hn⟩ := sortedAll_at s.heap its out.toArray
  have hlen : (Fv ps xs).length <= sizeLine := by
   unfold Fv
   rw [length_map, (mergeSort_perm _ _).length_eq, length_zip]
   omega
  refine ⟨.ref _, upd H _ (.lst (Fv ps xs)), I.laid (t' := s.toks) (fun b o e => sortedAll_old e) (Nat.le_succ _) ⟨hlen, out, n, hv, hn⟩, rfl, q _ (I.hok.fresh (Nat.le_succ _))⟩
def sortGD : List D -> M D
 | [.ref l] => M.bnd (M.lst l) fun ds Z => match Fb (see Z 62) ds with
  | some ps => if KQ ps = true then some (.ok (.ref Z.length), Z ++ [.lst (Fv ps ds)]) else none
  | none => none
 | _ => M.stop
theorem ok_sortG : GZ (.builtin "sorted") sortGD := by
 intro X hx
 refine ⟨_, cr_sortG hx, ?_⟩
 intro mg E α H Z Z' ds xs q Q s r run aft
 unfold sortGD at run
 split at run
 ·obtain ⟨v, vr, e, r1, r2⟩ := r
  cases (show vr = [] from r2)
  obtain ⟨ds, h1, run⟩ := Ec run
  obtain ⟨p1, v1, e1, a1, b1, c1⟩ := Dm s r1 h1
  subst e1
  cases hb : Fb (see Z 62) ds with
  | none => rw [hb] at run; cases run
  | some ps =>
   rw [hb] at run
   dsimp only at run
   split at run
   ·rename_i hok
    refine ⟨α, Z, ds, p1, v1, ps, e, SqL.of b1, s, c1, hb, hok, fun p hp => ?_⟩
    exact HW s run aft (VH c1) hp
   ·cases run
 ·cases run
end Mi
namespace Mi
open PySem L2 PyProof.Rows LiI
section
variable {X : Cx}
end
end Mi
namespace Mi
open PySem L2 PyProof.Rows LiI
variable [Tb]
def rdO (Z : List O) (l : Nat) : Option (List (Key × D)) := match Z[l]? with
 | some (.dct k) => some k
 | some (.fzd k) => some k
 | _ => none
section
variable {Kn : Kno} {k : Nat}
end
end Mi
namespace Mi
open PySem PySem.Spec PyProof.Rows L2
variable [Tb]
section
variable {Kn : Kno} {k : Nat}
end
section
variable {Y : Env} {Z : List O} {E : Ex -> List O -> Prop}
end
end Mi
namespace Mi
open PySem L2 PyProof.Rows
theorem Tp {w : Wk} {g : CG} {b : CB} {m : Nat} {Y : Env} {Z : List O} {S : SR -> List O -> Prop} (n : Nat) (item : Nat -> D) (Inv : Nat -> Env -> List O -> Prop) (h1 : ∀ i Y Z, i < n -> Inv i Y Z -> w.get i Z = some (some (item i))) (h2 : ∀ Y Z, Inv n Y Z -> w.get n Z = some none) (hm : n <= m) (h0 : Inv 0 Y Z)
  (step : ∀ i Y Z, i < n -> Inv i Y Z -> ∃ Y1 Z1, g.run (item i) Y Z = some (Y1, Z1) /\ Ws (b.run Y1) Z1 (Trn (Inv (i + 1)) S))
  (done : ∀ Y Z, Inv n Y Z -> S (.nx Y) Z) : Ws (Bw w g b m 0 Y) Z S := by
 have go : ∀ m k i Y Z, i + k = n -> k <= m -> Inv i Y Z -> Ws (Bw w g b m i Y) Z S := by
  intro m
  induction m with
  | zero =>
   intro k i Y Z e hk h
   have e' : i = n := by omega
   subst e'
   exact ⟨.nx Y, Z, by dsimp only [Bw]; rw [h2 Y Z h], done Y Z h⟩
  | succ m ih =>
   intro k i Y Z e hk h
   by_cases hi : i < n
   ·obtain ⟨Y1, Z1, e1, r, Z2, e2, q⟩ := step i Y Z hi h
    unfold Ws
    dsimp only [Bw]
    rw [h1 i Y Z hi h]
    dsimp only
    rw [e1]
    dsimp only
    rw [e2]
    cases r with
    | nx Y3 => exact ih (k - 1) (i + 1) Y3 Z2 ⋯ ⋯ q
    | ct Y3 => exact ih (k - 1) (i + 1) Y3 Z2 ⋯ ⋯ q
    | _ => exact ⟨_, _, rfl, q⟩
   ·have e' : i = n := by omega
    subst e'
    exact ⟨.nx Y, Z, by dsimp only [Bw]; rw [h2 Y Z h], done Y Z h⟩
 exact go m n 0 Y Z ⋯ hm h0
theorem all_id : ∀ m : Nat, (replicate m true).all id = true
 | 0 => rfl
 | m + 1 => by rw [replicate_succ]; exact all_id m
end Mi
namespace Mi
open PySem L2 PyProof.Rows
variable [Tb]
section
variable {Kn : Kno} {k : Nat}
theorem KnV.up {ms : List (Str × (List D -> M D))} {j : Nat} (h : KnV Kn ms j) (l : j <= k) : KnV Kn ms k := fun q hq P w K mg base hk => by
 obtain ⟨fd, ps, F, a, b⟩ := h q hq P w K mg base hk
 exact ⟨fd, ps, F.up l, a, b⟩
end
section
variable {Z : List O} {P : D -> List O -> Prop} {E : Ex -> List O -> Prop} {Y : Env} {l : Nat} {kvs : List (Key × D)} {a b : CE}
omit [Tb]
theorem wp_run {a : Type} {m : M a} {P : a -> List O -> Prop} {d : a} {Z' : List O} (e : m Z = some (.ok d, Z')) : Wp m Z P E ↔ P d Z' := ⟨fun ⟨r, Z2, h, q⟩ => by rw [e] at h; cases h; exact q, fun q => ⟨_, _, e, q⟩⟩
theorem Kl {ds : List D} {ps : List PyData} (h : Z[l]? = some (.lst ds)) (hs : Fb (see Z 62) ds = some ps) (ho : KQ ps = true) : Wp (sortGD [.ref l]) Z P E ↔ P (.ref Z.length) (Z ++ [.lst (Fv ps ds)]) := by
 refine (Cq (m := M.lst l)).trans ((DG h).trans (wp_run ?_))
 rw [hs]
 dsimp only
 rw [if_pos ho]
end
section
variable {Z : List O} {P : D -> List O -> Prop} {E : Ex -> List O -> Prop} {Y : Env}
omit [Tb]
end
end Mi
namespace Mi
open PySem L2 PyProof.Rows
section
variable [Tb]
end
section
variable {Z : List O} {P : D -> List O -> Prop} {E : Ex -> List O -> Prop}
end
end Mi
namespace Mi
open PySem L2 PyProof.Rows
section
variable [Tb]
end
section
variable {Z : List O} {P : D -> List O -> Prop} {E : Ex -> List O -> Prop}
end
end Mi
namespace Mi
open PySem L2 PyProof.Rows
section
variable [Tb]
end
end Mi
namespace Mi
open PySem L2 PyProof.Rows
section
variable [Tb] {X : Cx}
variable {Kn : Kno} {k : Nat}
end
end Mi
namespace Mi
open PySem L2 PyProof.Rows
section
variable [Tb]
def sgs (z : Str) : List Str := z.cps.toList.map fun c => ⟨#[c]⟩
theorem Rf {X : Cx} (hc : X.calm = true) : CallR X (.type "list") (fun xs H Q => ∃ z, xs = [.str z] /\ z.cps.size <= sizeLine /\ ∀ l, H l = none -> Q (.ref l) (upd H l (.lst ((sgs z).map .str)))) := by
 intro pins s σ H xs us Q I r h
 obtain ⟨z, rfl, hz, q⟩ := h
 obtain ⟨u, rfl, rx⟩ := vals1 r
 obtain ⟨t, rfl⟩ := rx
 refine call_list_str (I.ok.hd hc) z t (fun h' tk acc' c' hkeep hS hacc => ?_) hz
 refine ⟨.ref s.heap.objs.size, upd H s.heap.objs.size (.lst ((sgs z).map .str)), I.laid hkeep ?_ (show ObjOk X.prog X.w _ _ _ (.lst ((sgs z).map .str)) from ⟨?_, acc'.toList, c', ?_, ?_⟩), rfl, q _ (I.hok.fresh XqG)⟩
 ·exact XqG
 ·unfold sgs
  rw [length_map, length_map, Array.length_toList]
  exact hz
 ·refine vals_of_at (by unfold sgs; rw [length_map, length_map, Array.length_toList, Array.length_toList, hacc.1]) fun j x w h1 h2 => ?_
  obtain ⟨c, u, e1, rfl⟩ := hacc.2 j w (by rw [<- Array.getElem?_toList]; exact h2)
  unfold sgs at h1
  rw [map_map, getElem?_map, Array.getElem?_toList, e1] at h1
  cases h1
  exact ⟨u, rfl⟩
 ·rw [Array.toArray_toList]; exact hS
def listXD : List D -> M D
 | [.str z] => if z.cps.size <= sizeLine then M.new (.lst ((sgs z).map .str)) else M.stop
 | _ => M.stop
theorem ok_listX : GZ (.type "list") listXD := by
 intro X hx
 refine ⟨_, Rf hx.calm, ?_⟩
 intro mg E α H Z Z' ds xs q Q s r run aft
 unfold listXD at run
 split at run
 ·rename_i z
  split at run
  ·rename_i hz
   obtain ⟨v, vr, e, r1, r2⟩ := r
   cases (show vr = [] from r2)
   cases (show v = .str _ from r1)
   exact ⟨z, e, hz, fun l hl => HW s run aft (RL _) hl⟩
  ·cases run
 ·cases run
theorem o_listX {z : Str} : listXD [.str z] = if z.cps.size <= sizeLine then M.new (.lst ((sgs z).map .str)) else M.stop := rfl
end
end Mi
namespace Mi
open PySem L2 PyProof.Rows
end Mi
namespace Sp
open PySem L2 PyProof.Rows Mi
open Std hiding c_over Gp En Em UJ RJ
def En : CB := (Af (sIf (Ba .Eq eqD (Ae 1) (cInt 0)) (Af (Yt "NoPart")
 bNil) bNil)
 (Af (Bv (gN 2) (Am "shared_by" BZ (Aa (cB "abs" absD (Aa (Ae 0) aNil)) (Aa (cB "abs" absD (Aa (Ae 1) aNil)) aNil))))
 (Af (sIf (Ba .Lt ltD (Ae 1) (cInt 0)) (Af (Jy 0 1 (Ie (Ae 0)) (Ie (Ae 1)))
 bNil) bNil)
 (Af (Cr (Bg (Aa (Az .FloorDiv fdivD (Ae 0) (Ae 2)) (Aa (Az .FloorDiv fdivD (Ae 1) (Ae 2)) aNil))))
 bNil))))
def Em : List D -> M D := mir 3 2 En.run
def c_over : CB := (Af (sIf (Ba .Eq eqD (cIx (Ae 1) (cInt 0)) (cInt 0)) (Af (Yt "NoPart")
 bNil) bNil)
 (Af (Cr (Am "times" Du (Aa (Ae 0) (Aa (cIf (Ba .Gt gtD (cIx (Ae 1) (cInt 0)) (cInt 0)) (Bg (Aa (cIx (Ae 1) (cInt 1)) (Aa (cIx (Ae 1) (cInt 0)) aNil))) (Bg (Aa (Ie (cIx (Ae 1) (cInt 1))) (Aa (Ie (cIx (Ae 1) (cInt 0))) aNil)))) aNil))))
 bNil))
def Gp : List D -> M D := mir 2 2 c_over.run
def Jk : CB := (Af (sIf (Ba .Eq eqD (Ae 1) (Bg aNil)) (Af (Yt "NoPart")
 bNil) bNil)
 (Af (Jy 2 3 (cB "list" Sy (Aa (Ae 0) aNil)) (Ft aNil))
 (Af (FJ (fun _ => 100000) (Ba .GtE geD (cB "len" lenD (Aa (Ae 2) aNil)) (cB "len" lenD (Aa (Ae 1) aNil))) (Af (Bv (gN 4) (Am "over" Gp (Aa (cIx (Ae 2) (Ie (cInt 1))) (Aa (cIx (Ae 1) (Ie (cInt 1))) aNil))))
 (Af (Bv (gN 5) (Az .Sub subD (cB "len" lenD (Aa (Ae 2) aNil)) (cB "len" lenD (Aa (Ae 1) aNil))))
 (Af (Qs (gT (Ak (gN 6) (Ak (gN 7) gsNil)) 2) (iEn (Ae 1)) (Af (Bv (gS (Ae 2) (Az .Add addD (Ae 5) (Ae 6))) (Am "minus" Eu (Aa (cIx (Ae 2) (Az .Add addD (Ae 5) (Ae 6))) (Aa (Am "times" Du (Aa (Ae 4) (Aa (Ae 7) aNil))) aNil))))
 bNil))
 (Af (CP (cM0 "list" "pop" popD (Ae 2)))
 (Af (CP (cM "list" "append" appD (Ae 3) (Aa (Ae 4) aNil)))
 bNil))))))
 (Af (Cr (Bg (Aa (Am "trimmed" Iv (Aa (cRev (Ae 3)) aNil)) (Aa (Am "trimmed" Iv (Aa (Ae 2) aNil)) aNil))))
 bNil))))
def Gi : List D -> M D := mir 8 2 Jk.run
def k_ONE : D := (.tup [(.int 1), (.int 1)])
theorem run_ov {A : Nat} {p q : Rat} {Z : List O} {E : Ex -> List O -> Prop} (hp : Sm A p) (hq : Sm A q) (h0 : 0 < A) (hA : A <= 400000) (hne : q ≠ 0) : Wp (Gp [fr p, fr q]) Z (fun r Z' => r = fr (p / q) /\ Z' = Z) E := by
 unfold Gp c_over
 have hs := sizeLine_eq
 have ix0 := @SM
 have ix1 := @Vl
 have hn : ¬ q.num = 0 := fun z => hne (num0.mp z)
 have fin : Wp (Du [fr p, fr (q⁻¹)]) Z (fun r Z' => r = fr (p / q) /\ Z' = Z) E := by
  refine (Ip hp (hq.inv hne) h0 hA).mono ?_ fun _ _ z => z
  rintro _ _ ⟨rfl, rfl⟩
  exact ⟨by rw [Rat.div_def], rfl⟩
 by_cases hz : 0 < q.num
 ·obtain ⟨e1, e2⟩ := Ug hz
  have e : D.tup [.int q.den, .int q.num] = fr (q⁻¹) := by
   unfold fr
   rw [e1, e2]
   have : ((q.num.natAbs : Nat) : Int) = q.num := by omega
   rw [this]
  walk_at "mi*"
 ·have hz2 : q.num < 0 := by omega
  obtain ⟨e1, e2⟩ := Uh hz2
  have e : D.tup [.int (-q.den), .int (-q.num)] = fr (q⁻¹) := by
   unfold fr
   rw [e1, e2]
   have : ((q.num.natAbs : Nat) : Int) = -q.num := by omega
   rw [this]
  walk_at "mi*"
theorem Qx {A : Nat} {n d : Int} {Z : List O} {E : Ex -> List O -> Prop} (hd : d ≠ 0) (h1 : n.natAbs < 2 ^ A) (h2 : d.natAbs < 2 ^ A) (hA : A <= 400000) : Wp (Em [.int n, .int d]) Z (fun r Z' => r = fr (Rat.divInt n d) /\ Z' = Z) E := by
 unfold Em En
 have hs := sizeLine_eq
 walk_at "mi*"
 refine Wp.go (Dt _ _ _ _) ?_
 rintro _ _ ⟨rfl, rfl⟩
 have hg : 0 < Nat.gcd n.natAbs d.natAbs := Nat.gcd_pos_of_pos_right _ ⋯
 have kd := JN (d := Nat.gcd n.natAbs d.natAbs) (Nat.lt_of_le_of_lt (Nat.le_of_dvd ⋯ (Nat.gcd_dvd_right _ _)) h2) hg hA
 by_cases hn : d < 0
 ·walk_at "mi*"
  have hm := Fj (t := n) (low := d) (s := -1) hd ⋯ (.inr rfl)
  rw [Int.neg_one_mul, Int.neg_one_mul] at hm
  exact Gg hd hm
 ·walk_at "mi*"
  have hm := Fj (t := n) (low := d) (s := 1) hd ⋯ (.inl rfl)
  rw [Int.one_mul, Int.one_mul] at hm
  exact Gg hd hm
def shr (b rest : List Rat) : Rat := rest.getLastD 0 / b.getLastD 0
def Nq (sh : Rat) (b : List Rat) (g : Nat) (rest : List Rat) : Nat -> List Rat
 | 0 => rest
 | i + 1 => (Nq sh b g rest i).set (g + i) ((Nq sh b g rest i).getD (g + i) 0 - sh * b.getD i 0)
def stp (b rest : List Rat) : List Rat := (Nq (shr b rest) b (rest.length - b.length) rest b.length).dropLast
def HR (b a : List Rat) : Nat -> List Rat
 | 0 => a
 | k + 1 => stp b (HR b a k)
def Va (b a : List Rat) (k : Nat) : List Rat := (List.range k).map fun i => shr b (HR b a i)
theorem Hi {sh : Rat} {b rest : List Rat} {g : Nat} : ∀ i, (Nq sh b g rest i).length = rest.length
 | 0 => rfl
 | i + 1 => by unfold Nq; rw [length_set, Hi i]
theorem Qm {sh : Rat} {b rest : List Rat} {g : Nat} : ∀ i k, g + i <= k -> (Nq sh b g rest i).getD k 0 = rest.getD k 0
 | 0, _, _ => rfl
 | i + 1, k, h => by unfold Nq; rw [gd_set, if_neg ⋯]; exact Qm i k ⋯
theorem Tu {b rest : List Rat} : (stp b rest).length = rest.length - 1 := by unfold stp; rw [List.length_dropLast, Hi]
theorem Ih {b a : List Rat} : ∀ k, (HR b a k).length = a.length - k
 | 0 => rfl
 | k + 1 => by unfold HR; rw [Tu, Ih k]; omega
theorem Tc {ps : List Rat} : (frs ps).dropLast = frs ps.dropLast := by unfold Std.frs; rw [List.map_dropLast]
theorem Zq9 {ps : List Rat} (h : ps ≠ []) : atD (frs ps) (-1) = M.ret (fr (ps.getLastD 0)) := by
 rcases Qn ps with rfl | ⟨rs, q, rfl⟩
 ·exact absurd rfl h
 ·rw [Hq, Hr]
  simp
theorem sub_loop {A R : Nat} {sh : Rat} {b rest : List Rat} {g : Nat} {x0 x3 x6 x7 : Option D} {S : SR -> List O -> Prop} {Z : List O} (hb : SmL A b) (hr : SmL A rest) (hs : Sm A sh) (h0 : 0 < A) (hA : A <= 190000) (hg : g + b.length = rest.length)
  (hR : Z[R]? = some (.lst (frs rest)))
  (k : ∀ Z' x6 x7, Gr R Z Z' -> Z'[R]? = some (.lst (frs (Nq sh b g rest b.length))) -> S (.nx [x0, some (.tup (frs b)), some (.ref R), x3, some (fr sh), some (.int g), x6, x7]) Z') :
  Ws (Bw (wkE (JQ (frs b))) (gT (Ak (gN 6) (Ak (gN 7) gsNil)) 2) (Af (Bv (gS (Ae 2) (Az .Add addD (Ae 5) (Ae 6))) (Am "minus" Eu (Aa (cIx (Ae 2) (Az .Add addD (Ae 5) (Ae 6))) (Aa (Am "times" Du (Aa (Ae 4) (Aa (Ae 7) aNil))) aNil)))) bNil) b.length 0
   [x0, some (.tup (frs b)), some (.ref R), x3, some (fr sh), some (.int g), x6, x7]) Z S := by
 have hlb := @Ck b
 refine ws_forW b.length (fun i => .tup [.int i, fr (b.getD i 0)]) (fun i Z h => enT_get h) (fun Z => enT_end) XqG
  (fun i Y Z' => Gr R Z Z' /\ Z'[R]? = some (.lst (frs (Nq sh b g rest i))) /\ ∃ x6 x7, Y = [x0, some (.tup (frs b)), some (.ref R), x3, some (fr sh), some (.int g), x6, x7]) ?_ ?_ ?_
 ·exact ⟨Gr.refl _ _, hR, _, _, rfl⟩
 ·rintro i Y Z2 hi ⟨g2, h2, x6, x7, rfl⟩
  refine ⟨_, _, rfl, ?_⟩
  have hlen : g + i < (Nq sh b g rest i).length := by
   rw [Hi]
   omega
  have e0 : (Nq sh b g rest i).getD (g + i) 0 = rest.getD (g + i) 0 := Qm i _ XqG
  have e1 : atD (frs (Nq sh b g rest i)) ((g : Int) + i) = M.ret (fr (rest.getD (g + i) 0)) := by
   rw [show (g : Int) + i = ((g + i : Nat) : Int) by omega, <- e0]
   exact Cp (Mu hlen)
  have e2 : ixN (Nq sh b g rest i).length ((g : Int) + i) = some (g + i) := by
   rw [show (g : Int) + i = ((g + i : Nat) : Int) by omega]
   exact ixN_nat hlen
  have e3 := @Ck (Nq sh b g rest i)
  walk_at "mi*"
  refine Wp.go (Ip (A := 2 * A) (hs.up ⋯) ((hb.get h0).up ⋯) ⋯ ⋯) ?_
  rintro _ _ ⟨rfl, rfl⟩
  try walk_at "mi*"
  refine Wp.go (Lr (A := 2 * A) ((hr.get h0).up ⋯) ((hs.mul (hb.get h0)).up ⋯) ⋯ ⋯) ?_
  rintro _ _ ⟨rfl, rfl⟩
  try walk_at "mi*"
  refine ⟨g2.trans (Gr.set _ _ _), ?_, _, _, rfl⟩
  rw [Ce h2, frs_set]
  show _ = some (O.lst (frs ((Nq sh b g rest i).set (g + i) ((Nq sh b g rest i).getD (g + i) 0 - sh * b.getD i 0))))
  rw [e0]
 ·rintro Y Z2 ⟨g2, h2, x6, x7, rfl⟩
  exact k _ _ _ g2 h2
theorem U6 {ps : List Rat} {Z : List O} : see Z 65 (.tup (frs ps)) = some (.tuple (ps.map pF)) := by
 show (Fb (see Z 64) (frs ps)).map PyData.tuple = _
 rw [Qq]
 rfl
theorem Qo {ps : List Rat} : SeqAt.shaped (.tuple (ps.map pF)) = true := by
 have h1 := QK ps
 have h2 := Rb ps
 unfold SeqAt.shaped
 have e : PyData.depth (.tuple (ps.map pF)) = PyData.depthAll (ps.map pF) + 1 := by simp [PyData.depth]
 have e2 : PyData.canLay0 (.tuple (ps.map pF)) = PyData.canLayAll0 (ps.map pF) := by simp [PyData.canLay0]
 rw [e, e2, h1]
 simp
 omega
theorem eqv_nil {ps : List Rat} {neg : Bool} {Z : List O} : XJ neg (.tup (frs ps)) (.tup []) Z = some (.ok (.bl (if neg then !decide (ps = []) else decide (ps = []))), Z) := by
 unfold XJ
 have s2 : SeqAt.shaped (.tuple []) = true := Qo (ps := [])
 rw [U6, show see Z 65 (.tup []) = some (.tuple []) from rfl]
 simp only [Qo, s2, and_self, if_true]
 cases neg <;> cases ps <;> simp [PyData.eqv, PyData.eqvAll]
theorem eq_nil (ps : List Rat) : eqD (.tup (frs ps)) (.tup []) = M.ret (.bl (decide (ps = []))) := by
 funext Z
 exact eqv_nil (neg := false)
theorem LK {b a : List Rat} {k : Nat} : Va b a (k + 1) = Va b a k ++ [shr b (HR b a k)] := by
 unfold Va
 rw [List.range_succ, map_append]
 rfl
theorem UW {b a : List Rat} {k : Nat} : (Va b a k).length = k := by simp [Va]
theorem Yo {A : Nat} {ps : List Rat} (h : SmL A ps) (h0 : 0 < A) : Sm A (ps.getLastD 0) := by
 rcases Qn ps with rfl | ⟨rs, q, rfl⟩
 ·exact sm0 h0
 ·have : (rs ++ [q]).getLastD 0 = q := by simp
  rw [this]
  exact h q (by simp)
theorem YF {A : Nat} {a b : List Rat} {R O' : Nat} {Z : List O} {S : SR -> List O -> Prop} (hb : SmL A b) (hb0 : b ≠ []) (hl : b.getLastD 0 ≠ 0) (hz : ∀ k, k + b.length <= a.length + 1 -> SmL A (HR b a k)) (hw : ∀ k, k + b.length <= a.length -> Sm A (shr b (HR b a k))) (h0 : 0 < A) (hA : A <= 190000) (la : a.length <= 1000) (hRO : R ≠ O')
  (fin : ∀ Z2 y4 y5 y6 y7, (∀ i o, i ≠ R -> i ≠ O' -> Z[i]? = some o -> Z2[i]? = some o) -> Z.length <= Z2.length -> Z2[R]? = some (.lst (frs (HR b a (a.length + 1 - b.length)))) -> Z2[O']? = some (.lst (frs (Va b a (a.length + 1 - b.length)))) ->
   S (.nx [some (.tup (frs a)), some (.tup (frs b)), some (.ref R), some (.ref O'), y4, y5, y6, y7]) Z2) :
  ∀ (n k : Nat) (Z1 : List O) (y4 y5 y6 y7 : Option D), k <= a.length + 1 - b.length -> a.length + 1 - b.length - k < n -> (∀ i o, i ≠ R -> i ≠ O' -> Z[i]? = some o -> Z1[i]? = some o) -> Z.length <= Z1.length -> Z1[R]? = some (.lst (frs (HR b a k))) -> Z1[O']? = some (.lst (frs (Va b a k))) ->
   Ws (whl (Ba .GtE geD (cB "len" lenD (Aa (Ae 2) aNil)) (cB "len" lenD (Aa (Ae 1) aNil))).run (Af (Bv (gN 4) (Am "over" Gp (Aa (cIx (Ae 2) (Ie (cInt 1))) (Aa (cIx (Ae 1) (Ie (cInt 1))) aNil))))
 (Af (Bv (gN 5) (Az .Sub subD (cB "len" lenD (Aa (Ae 2) aNil)) (cB "len" lenD (Aa (Ae 1) aNil))))
 (Af (Qs (gT (Ak (gN 6) (Ak (gN 7) gsNil)) 2) (iEn (Ae 1)) (Af (Bv (gS (Ae 2) (Az .Add addD (Ae 5) (Ae 6))) (Am "minus" Eu (Aa (cIx (Ae 2) (Az .Add addD (Ae 5) (Ae 6))) (Aa (Am "times" Du (Aa (Ae 4) (Aa (Ae 7) aNil))) aNil))))
 bNil))
 (Af (CP (cM0 "list" "pop" popD (Ae 2)))
 (Af (CP (cM "list" "append" appD (Ae 3) (Aa (Ae 4) aNil)))
 bNil))))).run n [some (.tup (frs a)), some (.tup (frs b)), some (.ref R), some (.ref O'), y4, y5, y6, y7]) Z1 S := by
 intro n
 have hs := sizeLine_eq
 have hbl : 0 < b.length := length_pos_iff.mpr hb0
 have hlb := @Ck b
 induction n with
 | zero => intro k Z1 y4 y5 y6 y7 h1 h2; omega
 | succ n ih =>
  intro k Z1 y4 y5 y6 y7 hk hn hG hlen hR hO
  rw [Hu]
  have l1 := @Ck (HR b a k)
  have l2 := @Ih b a k
  walk_at "mi*"
  by_cases hc : (b.length : Int) <= ((a.length - k : Nat) : Int)
  ·have hne : HR b a k ≠ [] := fun z => by
    rw [z] at l2
    simp at l2
    omega
   have a1 := Zq9 hne
   have a2 := Zq9 hb0
   have sR := hz k ⋯
   rw [if_pos (by simpa using hc)]
   walk_at "mi*"
   refine Wp.go (run_ov (Yo sR h0) (Yo hb h0) h0 ⋯ hl) ?_
   rintro _ _ ⟨rfl, rfl⟩
   refine ⟨_, hR, ?_⟩
   have eg : (((frs (HR b a k)).length : Nat) : Int) - (b.length : Int) = ((a.length - k - b.length : Nat) : Int) := by rw [l1, l2]; omega
   rw [eg]
   have es : (HR b a k).getLastD 0 / b.getLastD 0 = shr b (HR b a k) := rfl
   rw [es]
   refine sub_loop (R := R) (sh := shr b (HR b a k)) (g := a.length - k - b.length) hb sR (hw k ⋯) h0 hA ⋯ hR ?_
   intro Z3 x6 x7 g3 c3
   have lS := @Hi (shr b (HR b a k)) b (HR b a k) (a.length - k - b.length) b.length
   have est : HR b a (k + 1) = (Nq (shr b (HR b a k)) b (a.length - k - b.length) (HR b a k) b.length).dropLast := by
    show stp b (HR b a k) = _
    unfold stp
    rw [l2]
   generalize Nq (shr b (HR b a k)) b (a.length - k - b.length) (HR b a k) b.length = ZQ at c3 lS est
   have lZ := @Ck ZQ
   have hy : (frs ZQ)[ZQ.length - 1]? = some (fr (ZQ.getD (ZQ.length - 1) 0)) := Mu ⋯
   have O3 := g3.at_ _ _ (Ne.symm hRO) hO
   have O4 : ∀ u, (Z3.set R u)[O']? = some (.lst (frs (Va b a k))) := fun u => by rw [getElem?_set_ne hRO]; exact O3
   have lO := @UW b a k
   have lO2 := @Ck (Va b a k)
   walk_at "mi*"
   have hyk : (frs ZQ)[a.length - k - 1]? = some (fr (ZQ.getD (a.length - k - 1) 0)) := Mu ⋯
   refine ⟨_, hyk, ⋯, ?_⟩
   have RO2 : R < Z3.length := (XqB c3).1
   have OO2 : O' < (Z3.set R (O.lst (Std.frs ZQ).dropLast)).length := (XqB (O4 _)).1
   refine ih (k + 1) _ _ _ _ _ ⋯ ⋯ (fun i o h1 h2 h3 => ?_) (by rw [length_set, length_set]; exact Nat.le_trans hlen g3.len) ?_ ?_
   ·rw [getElem?_set_ne (Ne.symm h2), getElem?_set_ne (Ne.symm h1)]
    exact g3.at_ _ _ h1 (hG i o h1 h2 h3)
   ·rw [getElem?_set_ne (Ne.symm hRO), getElem?_set_self RO2, Tc, est]
   ·rw [getElem?_set_self OO2, LK, Hq]
  ·have hkN : k = a.length + 1 - b.length := by omega
   subst hkN
   rw [if_neg (by simpa using hc)]
   exact fin _ _ _ _ _ hG hlen hR hO
theorem VF {A : Nat} {a b : List Rat} {Z : List O} {E : Ex -> List O -> Prop} (hb : SmL A b) (hb0 : b ≠ []) (hl : b.getLastD 0 ≠ 0) (hz : ∀ k, k + b.length <= a.length + 1 -> SmL A (HR b a k)) (hw : ∀ k, k + b.length <= a.length -> Sm A (shr b (HR b a k))) (h0 : 0 < A) (hA : A <= 190000) (la : a.length <= 1000) :
  Wp (Gi [.tup (frs a), .tup (frs b)]) Z (fun r Z' => r = .tup [.tup (frs (BR (Va b a (a.length + 1 - b.length)).reverse)), .tup (frs (BR (HR b a (a.length + 1 - b.length))))] /\ Gr0 Z Z') E := by
 unfold Gi Jk
 have hs := sizeLine_eq
 have hlb := @Ck b
 have hla := @Ck a
 have hbl : 0 < b.length := length_pos_iff.mpr hb0
 rw [show (D.tup (Std.frs b)) = .tup (frs b) from rfl]
 have e := eq_nil b
 rw [decide_eq_false hb0] at e
 walk_at "mi*"
 refine YF (R := Z.length) (O' := Z.length + 1) (Z := Z) hb hb0 hl hz hw h0 hA la ⋯ ?_ _ 0 _ _ _ _ _ ⋯ ⋯ (fun i o _ _ h => (Gr0.app _ _).at_ _ _ h) (by simp) Ax (Ef (c := 1))
 intro Z2 y4 y5 y6 y7 hG hle hR hO
 have lR := @Ih b a (a.length + 1 - b.length)
 have lO := @UW b a (a.length + 1 - b.length)
 have lO2 := @Ck (Va b a (a.length + 1 - b.length))
 walk_at "mi*"
 have G0 : Gr0 Z Z2 := ⟨hle, fun i o h => hG i o (by have := (XqB h).1; omega) (by have := (XqB h).1; omega) h⟩
 rw [frs_rev]
 refine Wp.go (Lp Ax (by rw [List.length_reverse, lO]; omega)) ?_
 rintro _ Z3 ⟨rfl, g3⟩
 refine Wp.go (Lp (g3.at_ _ _ ((Gr0.app _ _).at_ _ _ hR)) (by rw [lR]; omega)) ?_
 rintro _ Z4 ⟨rfl, g4⟩
 exact ⟨rfl, ((G0.trans (Gr0.app _ _)).trans g3).trans g4⟩
def remR (a b : List Rat) : List Rat := BR (HR b a (a.length + 1 - b.length))
def quoR (a b : List Rat) : List Rat := BR (Va b a (a.length + 1 - b.length)).reverse
structure PtOk (A : Nat) (a b : List Rat) : Prop where
 sb : SmL A b
 ne : b ≠ []
 la : b.getLastD 0 ≠ 0
 z : ∀ k, k + b.length <= a.length + 1 -> SmL A (HR b a k)
 w : ∀ k, k + b.length <= a.length -> Sm A (shr b (HR b a k))
 len : a.length <= 1000
theorem PtOk.run {A : Nat} {a b : List Rat} {Z : List O} {E : Ex -> List O -> Prop} (h : PtOk A a b) (h0 : 0 < A) (hA : A <= 190000) : Wp (Gi [.tup (frs a), .tup (frs b)]) Z (fun r Z' => r = .tup [.tup (frs (quoR a b)), .tup (frs (remR a b))] /\ Gr0 Z Z') E :=
 VF h.sb h.ne h.la h.z h.w h0 hA h.len
inductive Euc (A : Nat) : Nat -> List Rat -> List Rat -> List Rat -> Prop
 | nil (a : List Rat) (h : SmL A a) (l : a.length <= 50) : Euc A 0 a [] a
 | step (n : Nat) (a b g : List Rat) (p : PtOk A a b) (h : Euc A n b (remR a b) g) : Euc A (n + 1) a b g
def QC (g : List Rat) : List Rat := if g = [] then [] else BR (byR g (1 / g.getLastD 0))
theorem Euc.last {A n : Nat} {a b g : List Rat} (h : Euc A n a b g) : SmL A g /\ g.length <= 50 := by
 induction h with
 | nil a h l => exact ⟨h, l⟩
 | step n a b g p h ih => exact ih
structure RtOk (A : Nat) (a b g : List Rat) : Prop where
 euc : ∃ n, n < 100000 /\ Euc A n a b g
 g0 : g ≠ [] -> g.getLastD 0 ≠ 0
 b0 : b ≠ []
 pa : PtOk A a (QC g)
 pb : PtOk A b (QC g)
 qa : SmL A (quoR a (QC g)) /\ (quoR a (QC g)).length <= 50
 qb : SmL A (quoR b (QC g)) /\ (quoR b (QC g)).length <= 50
 q0 : quoR b (QC g) ≠ []
 ql : (quoR b (QC g)).getLastD 0 ≠ 0
end Sp
namespace Po
open Std (Cy BR)
theorem Ke {x : Rat} : Cy x [] = 0 := rfl
theorem CQ {x c : Rat} {p : List Rat} : Cy x (c :: p) = c + x * Cy x p := rfl
def Q3 : List Rat -> List Rat -> List Rat
 | [], q => q
 | a :: p, [] => a :: p
 | a :: p, b :: q => (a + b) :: Q3 p q
def Dj (c : Rat) (q : List Rat) : List Rat := q.map (c * ·)
theorem Ji {x c : Rat} : ∀ q : List Rat, Cy x (Dj c q) = c * Cy x q
 | [] => by rw [show Dj c [] = [] from rfl, Ke]; grind
 | a :: q => by
  rw [show Dj c (a :: q) = (c * a) :: Dj c q from rfl, CQ, CQ, Ji q]
  grind
theorem Mw {x : Rat} : ∀ p q : List Rat, Cy x (Q3 p q) = Cy x p + Cy x q
 | [], q => by rw [show Q3 [] q = q from rfl, Ke]; grind
 | a :: p, [] => by rw [show Q3 (a :: p) [] = a :: p from rfl, Ke]; grind
 | a :: p, b :: q => by
  rw [show Q3 (a :: p) (b :: q) = (a + b) :: Q3 p q from rfl, CQ, CQ, CQ, Mw p q]
  grind
theorem Kv : ∀ p q : List Rat, (Q3 p q).length = max p.length q.length
 | [], q => by simp [Q3]
 | a :: p, [] => by simp [Q3]
 | a :: p, b :: q => by simp [Q3, Kv p q]
def syn (r : Rat) : List Rat -> List Rat
 | [] => []
 | _ :: p => Q3 p (Dj r (syn r p))
theorem Yi {r : Rat} : ∀ p : List Rat, (syn r p).length = p.length - 1
 | [] => rfl
 | c :: p => by
  have := Yi (r := r) p
  simp [syn, Kv, Dj, this]
theorem Yj {x r : Rat} : ∀ p : List Rat, Cy x p = Cy r p + (x - r) * Cy x (syn r p)
 | [] => by simp only [Ke, syn]; grind
 | c :: p => by
  have := Yj (x := x) (r := r) p
  simp only [CQ, syn, Mw, Ji]
  grind
theorem far : ∀ L : List Rat, ∃ r : Rat, ∀ y ∈ L, y < r
 | [] => ⟨0, fun y h => by cases h⟩
 | a :: L => by
  obtain ⟨r, h⟩ := far L
  by_cases k : a < r
  ·exact ⟨r, fun y hy => by
    rcases mem_cons.mp hy with rfl | hy
    ·exact k
    ·exact h y hy⟩
  ·refine ⟨a + 1, fun y hy => ?_⟩
   rcases mem_cons.mp hy with rfl | hy
   ·grind
   ·have := h y hy
    grind
theorem ext0 : ∀ (n : Nat) (p L : List Rat), p.length <= n -> (∀ x, x ∉ L -> Cy x p = 0) -> ∀ x, Cy x p = 0
 | 0, p, L, h, _, x => by
  have : p = [] := eq_nil_of_length_eq_zero ⋯
  rw [this]
  rfl
 | n + 1, p, L, h, hz, x => by
  obtain ⟨r, hr⟩ := far L
  have hrL : r ∉ L := fun z => by
   have := hr r z
   grind
  have h0 := hz r hrL
  have hs : ∀ y, Cy y (syn r p) = 0 := ext0 n (syn r p) (r :: L) (by rw [Yi]; omega) fun y hy => by
   have h1 := Yj (x := y) (r := r) p
   rw [hz y (fun z => hy (mem_cons_of_mem _ z)), h0] at h1
   have hne : y - r ≠ 0 := fun z => hy (by
    have : y = r := by grind
    rw [this]
    exact mem_cons_self)
   have h2 : (y - r) * Cy y (syn r p) = 0 := by grind
   rcases Rat.mul_eq_zero.mp h2 with z | z
   ·exact absurd z hne
   ·exact z
  rw [Yj (x := x) (r := r) p, h0, hs x]
  grind
theorem coef0 : ∀ p : List Rat, (∀ x, Cy x p = 0) -> ∀ c ∈ p, c = 0
 | [], _, c, h => by cases h
 | a :: p, hz, c, h => by
  have h0 := hz 0
  rw [CQ] at h0
  have a0 : a = 0 := by grind
  have hp : ∀ x, Cy x p = 0 := ext0 _ p [0] XqG fun x hx => by
   have h1 := hz x
   rw [CQ, a0] at h1
   have h2 : x * Cy x p = 0 := by grind
   rcases Rat.mul_eq_zero.mp h2 with z | z
   ·exact absurd z (by simpa using hx)
   ·exact z
  rcases mem_cons.mp h with rfl | h
  ·exact a0
  ·exact coef0 p hp c h
theorem trim0 : ∀ p : List Rat, (∀ c ∈ p, c = 0) -> BR p = []
 | [], _ => rfl
 | a :: p, h => by
  unfold BR
  rw [trim0 p fun c hc => h c (mem_cons_of_mem _ hc)]
  dsimp only
  rw [if_pos (h a mem_cons_self)]
theorem Rr {a : Rat} {p : List Rat} (h : BR (a :: p) = a :: p) : BR p = p := by
 unfold BR at h
 cases e : BR p with
 | nil =>
  rw [e] at h
  dsimp only at h
  split at h
  ·cases h
  ·cases h
   rfl
 | cons b q =>
  rw [e] at h
  dsimp only at h
  cases h
  rfl
theorem ev_sub {x : Rat} {p q : List Rat} : Cy x (Q3 p (Dj (-1) q)) = Cy x p - Cy x q := by
 rw [Mw, Ji]
 grind
theorem same : ∀ p q : List Rat, BR p = p -> BR q = q -> (∀ x, Cy x p = Cy x q) -> p = q
 | [], q, _, hq, h => by
  have := trim0 q (coef0 q fun x => by rw [<- h x]; rfl)
  rw [hq] at this
  exact this.symm
 | a :: p, [], hp, _, h => by
  have := trim0 (a :: p) (coef0 (a :: p) fun x => by rw [h x]; rfl)
  rw [hp] at this
  exact this
 | a :: p, b :: q, hp, hq, h => by
  have h0 := h 0
  rw [CQ, CQ] at h0
  have ab : a = b := by grind
  subst ab
  have ht : ∀ x, Cy x p = Cy x q := fun x => by
   have hz := ext0 _ (Q3 p (Dj (-1) q)) [0] XqG (fun y hy => by
    have h1 := h y
    rw [CQ, CQ] at h1
    have h2 : y * (Cy y p - Cy y q) = 0 := by grind
    rw [ev_sub]
    rcases Rat.mul_eq_zero.mp h2 with z | z
    ·exact absurd z (by simpa using hy)
    ·exact z) x
   rw [ev_sub] at hz
   grind
  rw [same p q (Rr hp) (Rr hq) ht]
theorem Ye {a : Rat} {p : List Rat} : BR (a :: p) = if BR p = [] then (if a = 0 then [] else [a]) else a :: BR p := by
 show (match BR p with | [] => _ | q :: s => _) = _
 cases e : BR p with
 | nil => rw [if_pos rfl]
 | cons b q => exact (if_neg (List.cons_ne_nil _ _)).symm
theorem Uy (p : List Rat) : (BR p).length <= p.length := by
 induction p with
 | nil => exact XqG
 | cons a p ih =>
  rw [Ye]
  split
  ·split <;> simp
  ·simpa using ih
theorem gl_ne {l : List Rat} {a b : Rat} (h : l ≠ []) : l.getLastD a = l.getLastD b := by
 cases l with
 | nil => exact absurd rfl h
 | cons c r => rw [List.getLastD_cons, List.getLastD_cons]
theorem JM {a : Rat} {l : List Rat} (h : l ≠ []) : (a :: l).getLastD 0 = l.getLastD 0 := by
 rw [List.getLastD_cons]
 exact gl_ne h
theorem padd_ne {p q : List Rat} (h : q ≠ []) : Q3 p q ≠ [] := fun z => by
 have := Kv p q
 rw [z] at this
 have hq := length_pos_iff.mpr h
 simp at this
 omega
theorem S8 : ∀ p q : List Rat, p.length < q.length -> (Q3 p q).getLastD 0 = q.getLastD 0
 | [], q, _ => rfl
 | a :: p, [], h => by simp at h
 | a :: p, b :: q, h => by
  have ih := S8 p q (by simpa using h)
  have hq : q ≠ [] := fun z => by rw [z] at h; simp at h
  rw [show Q3 (a :: p) (b :: q) = (a + b) :: Q3 p q from rfl, JM (padd_ne hq), JM hq, ih]
theorem Pb {c : Rat} : ∀ q : List Rat, (Dj c q).getLastD 0 = c * q.getLastD 0
 | [] => by simp [Dj]
 | a :: q => by
  have ih := Pb (c := c) q
  by_cases h : q = []
  ·subst h
   simp [Dj]
  ·rw [show Dj c (a :: q) = (c * a) :: Dj c q from rfl, JM (by simpa [Dj] using h), JM h, ih]
theorem prod : ∀ p q : List Rat, p ≠ [] -> q ≠ [] -> ∃ s : List Rat, s.length + 1 = p.length + q.length /\ s.getLastD 0 = p.getLastD 0 * q.getLastD 0 /\ ∀ x, Cy x s = Cy x p * Cy x q
 | [], q, h, _ => absurd rfl h
 | c :: p, q, _, hq => by
  by_cases hp : p = []
  ·subst hp
   refine ⟨Dj c q, by simp [Dj]; omega, by rw [Pb]; simp, fun x => by rw [Ji, CQ, Ke]; grind⟩
  ·obtain ⟨s, h1, h2, h3⟩ := prod p q hp hq
   have lp := length_pos_iff.mpr hp
   have lq := length_pos_iff.mpr hq
   have hs : s ≠ [] := fun z => by rw [z] at h1; simp at h1; omega
   refine ⟨Q3 (Dj c q) (0 :: s), ?_, ?_, fun x => ?_⟩
   ·rw [Kv]
    simp [Dj]
    omega
   ·rw [S8 _ _ (by simp [Dj]; omega), JM hs, JM hp, h2]
   ·rw [Mw, Ji, CQ, CQ, h3]
    grind
open Sp (shr Nq stp HR Va Hi Tu Ih Qm LK remR quoR)
theorem pow_add (x : Rat) (g : Nat) : ∀ i, x ^ (g + i) = x ^ g * x ^ i
 | 0 => by rw [Nat.add_zero, Rat.pow_zero]; grind
 | i + 1 => by
  rw [<- Nat.add_assoc, Rat.pow_succ, Rat.pow_succ, pow_add x g i]
  grind
def Pf (f : Rat -> Rat) : Prop := ∃ p : List Rat, ∀ x, f x = Cy x p
theorem Pf.ev (p : List Rat) : Pf fun x => Cy x p := ⟨p, fun _ => rfl⟩
theorem Pf.const (c : Rat) : Pf fun _ => c := ⟨[c], fun x => by rw [CQ, Ke]; grind⟩
theorem Pf.add {f g : Rat -> Rat} (hf : Pf f) (hg : Pf g) : Pf fun x => f x + g x := by
 obtain ⟨p, hp⟩ := hf
 obtain ⟨q, hq⟩ := hg
 exact ⟨Q3 p q, fun x => by show f x + g x = _; rw [Mw, hp, hq]⟩
theorem Pf.mul {f g : Rat -> Rat} (hf : Pf f) (hg : Pf g) : Pf fun x => f x * g x := by
 obtain ⟨p, hp⟩ := hf
 obtain ⟨q, hq⟩ := hg
 by_cases h1 : p = []
 ·subst h1
  exact ⟨[], fun x => by show f x * g x = _; rw [hp, Ke]; grind⟩
 ·by_cases h2 : q = []
  ·subst h2
   exact ⟨[], fun x => by show f x * g x = _; rw [hq, Ke]; grind⟩
  ·obtain ⟨s, _, _, h3⟩ := prod p q h1 h2
   exact ⟨s, fun x => by show f x * g x = _; rw [h3, hp, hq]⟩
theorem Pf.sub {f g : Rat -> Rat} (hf : Pf f) (hg : Pf g) : Pf fun x => f x - g x := by
 obtain ⟨p, hp⟩ := hf.add ((Pf.const (-1)).mul hg)
 exact ⟨p, fun x => by rw [<- hp]; grind⟩
open Sp (Euc PtOk QC)
end Po
namespace Po
open Std (Cy BR Sm SmL)
open Sp (shr Nq stp HR Va Hi Tu Ih Qm LK remR quoR)
def Cd (M D : Nat) (p : List Rat) : Prop := ∃ d : Int, d ≠ 0 /\ d.natAbs <= D /\ ∀ c ∈ p, ∃ z : Int, z.natAbs <= M /\ c * (d : Rat) = (z : Rat)
theorem Cd.up {M D M' D' : Nat} {p : List Rat} (h : Cd M D p) (a : M <= M') (b : D <= D') : Cd M' D' p := by
 obtain ⟨d, d0, hd, hp⟩ := h
 exact ⟨d, d0, ⋯, fun c hc => let ⟨z, h1, h2⟩ := hp c hc; ⟨z, ⋯, h2⟩⟩
theorem Cd.sub {M D : Nat} {p q : List Rat} (h : Cd M D p) (s : ∀ c ∈ q, c ∈ p) : Cd M D q := by
 obtain ⟨d, d0, hd, hp⟩ := h
 exact ⟨d, d0, hd, fun c hc => hp c (s c hc)⟩
theorem cast_ne {d : Int} (h : d ≠ 0) : (d : Rat) ≠ 0 := fun z => h (by
 have : ((d : Int) : Rat) = ((0 : Int) : Rat) := z
 exact Rat.intCast_inj.mp this)
theorem Nt {z d : Int} {c : Rat} {A : Nat} (h0 : d ≠ 0) (e : c * (d : Rat) = (z : Rat)) (h1 : z.natAbs < 2 ^ A) (h2 : d.natAbs < 2 ^ A) : Sm A c := by
 have hc : c = Rat.divInt z d := by
  rw [Rat.divInt_eq_div, <- e]
  have := cast_ne h0
  grind
 obtain ⟨x, y⟩ := Std.Yq5 (q := c) (n := z) (d := d) h0 hc
 exact ⟨⋯, ⋯⟩
theorem Cd.sm {M D A : Nat} {p : List Rat} (h : Cd M D p) (h1 : M < 2 ^ A) (h2 : D < 2 ^ A) : SmL A p := fun c hc => by
 obtain ⟨d, d0, hd, hp⟩ := h
 obtain ⟨z, hz, e⟩ := hp c hc
 exact Nt d0 e ⋯ ⋯
def Cb (t : Nat) (p : List Rat) : Prop := Cd (2 ^ t) (2 ^ t) p
theorem Cb.up {t u : Nat} {p : List Rat} (h : Cb t p) (l : t <= u) : Cb u p := Cd.up h (Nat.pow_le_pow_right ⋯ l) (Nat.pow_le_pow_right ⋯ l)
theorem Cb.sm {t A : Nat} {p : List Rat} (h : Cb t p) (l : t < A) : SmL A p := Cd.sm h (Nat.pow_lt_pow_right ⋯ l) (Nat.pow_lt_pow_right ⋯ l)
theorem Km {p : List Rat} {c : Rat} (h : c ∈ BR p) : c ∈ p := Std.Km h
open Sp (Euc)
end Po
namespace Le
abbrev Row := List Rat
def dot : Row -> Row -> Rat
 | a :: r, b :: v => a * b + dot r v
 | _, _ => 0
def zsub (p : Rat) (h r : Row) : Row := zipWith (fun o t => o - p * t) r h
def zdiv (q : Rat) (r : Row) : Row := r.map (· / q)
theorem Uk {v : Row} : dot [] v = 0 := by cases v <;> rfl
theorem dot_nil' {r : Row} : dot r [] = 0 := by cases r <;> rfl
theorem zsub_len {p : Rat} {h r : Row} : (zsub p h r).length = min r.length h.length := by simp [zsub]
theorem zdiv_len {q : Rat} {r : Row} : (zdiv q r).length = r.length := by simp [zdiv]
theorem Ui {r : Row} {j : Nat} : r.getD j 0 = (r[j]?).getD 0 := getD_eq_getElem?_getD
theorem Qa {p : Rat} {h r : Row} {j : Nat} (l : r.length = h.length) : (zsub p h r).getD j 0 = r.getD j 0 - p * h.getD j 0 := by
 rw [Ui, Ui, Ui]
 unfold zsub
 rw [List.getElem?_zipWith]
 by_cases hj : j < r.length
 ·rw [getElem?_eq_getElem hj, getElem?_eq_getElem ⋯]
  rfl
 ·rw [getElem?_eq_none ⋯, getElem?_eq_none (l := h) ⋯]
  show (0 : Rat) = 0 - p * 0
  grind
theorem zdiv_get {q : Rat} {r : Row} {j : Nat} : (zdiv q r).getD j 0 = r.getD j 0 / q := by
 rw [Ui, Ui]
 unfold zdiv
 rw [getElem?_map]
 cases r[j]? with
 | none => show (0 : Rat) = 0 / q; grind
 | some x => rfl
def rowAt (A : List Row) (i : Nat) : Row := A.getD i []
theorem Gf {A : List Row} {i : Nat} : rowAt A i = (A[i]?).getD [] := getD_eq_getElem?_getD
theorem rowAt_in {A : List Row} {i : Nat} (h : i < A.length) : A[i]? = some (rowAt A i) := by
 rw [Gf, getElem?_eq_getElem h]
 rfl
def swap (A : List Row) (h a : Nat) : List Row := (A.set h (rowAt A a)).set a (rowAt A h)
theorem Uz {A : List Row} {h a : Nat} : (swap A h a).length = A.length := by simp [swap]
theorem Jz {A : List Row} {h a i : Nat} (hh : h < A.length) (ha : a < A.length) : rowAt (swap A h a) i = if i = a then rowAt A h else if i = h then rowAt A a else rowAt A i := by
 rw [Gf]
 unfold swap
 by_cases h1 : i = a
 ·subst h1
  rw [if_pos rfl, getElem?_set_self (by rw [length_set]; exact ha)]
  rfl
 ·rw [if_neg h1, getElem?_set_ne (Ne.symm h1)]
  by_cases h2 : i = h
  ·subst h2
   rw [if_pos rfl, getElem?_set_self hh]
   rfl
  ·rw [if_neg h2, getElem?_set_ne (Ne.symm h2), <- Gf]
def head (A : List Row) (h c : Nat) : Row := zdiv ((rowAt A h).getD c 0) (rowAt A h)
def elim (h c : Nat) (A : List Row) : List Row := A.mapIdx fun i r => if i = h then head A h c else zsub (r.getD c 0) (head A h c) r
theorem Vr {h c : Nat} {A : List Row} : (elim h c A).length = A.length := by simp [elim]
theorem J5 {h c i : Nat} {A : List Row} (hi : i < A.length) : rowAt (elim h c A) i = if i = h then head A h c else zsub ((rowAt A i).getD c 0) (head A h c) (rowAt A i) := by
 have e : (elim h c A)[i]? = some (if i = h then head A h c else zsub ((rowAt A i).getD c 0) (head A h c) (rowAt A i)) := by
  unfold elim
  rw [List.getElem?_mapIdx, rowAt_in hi]
  rfl
 rw [Gf, e]
 rfl
def Wid (n : Nat) (A : List Row) : Prop := ∀ i, i < A.length -> (rowAt A i).length = n
theorem wid_swap {n : Nat} {A : List Row} {h a : Nat} (w : Wid n A) (hh : h < A.length) (ha : a < A.length) : Wid n (swap A h a) := by
 intro i hi
 rw [Uz] at hi
 rw [Jz hh ha]
 split
 ·exact w h hh
 ·split
  ·exact w a ha
  ·exact w i hi
theorem QT {n : Nat} {A : List Row} {h c : Nat} (w : Wid n A) (hh : h < A.length) : (head A h c).length = n := by
 unfold head
 rw [zdiv_len]
 exact w h hh
theorem wid_elim {n : Nat} {A : List Row} {h c : Nat} (w : Wid n A) (hh : h < A.length) : Wid n (elim h c A) := by
 intro i hi
 rw [Vr] at hi
 rw [J5 hi]
 split
 ·exact QT w hh
 ·rw [zsub_len, w i hi, QT w hh, Nat.min_self]
def Zer (A : List Row) (v : Row) : Prop := ∀ i, i < A.length -> dot (rowAt A i) v = 0
structure Std (m n c : Nat) (A : List Row) (L : List Nat) : Prop where
 len : A.length = m
 wid : Wid n A
 cn : c <= n
 lt : ∀ x ∈ L, x < c
 up : L.Pairwise (· < ·)
 lm : L.length <= m
 unit : ∀ k, k < L.length -> ∀ i, i < m -> (rowAt A i).getD (L.getD k 0) 0 = if i = k then 1 else 0
 low : ∀ i, L.length <= i -> i < m -> ∀ j, j < c -> (rowAt A i).getD j 0 = 0
theorem Std.skip {m n c : Nat} {A : List Row} {L : List Nat} (s : Std m n c A L) (cn : c < n) (h : ∀ i, L.length <= i -> i < m -> (rowAt A i).getD c 0 = 0) : Std m n (c + 1) A L :=
 ⟨s.len, s.wid, cn, fun x hx => Nat.lt_succ_of_lt (s.lt x hx), s.up, s.lm, s.unit, fun i h1 h2 j hj => by
  by_cases e : j = c
  ·rw [e]; exact h i h1 h2
  ·exact s.low i h1 h2 j ⋯⟩
theorem Std.swap {m n c a : Nat} {A : List Row} {L : List Nat} (s : Std m n c A L) (h1 : L.length <= a) (h2 : a < m) : Std m n c (swap A L.length a) L := by
 have hh : L.length < A.length := by rw [s.len]; omega
 have ha : a < A.length := by rw [s.len]; exact h2
 refine ⟨by rw [Uz]; exact s.len, wid_swap s.wid hh ha, s.cn, s.lt, s.up, s.lm, fun k hk i hi => ?_, fun i hi hm j hj => ?_⟩
 ·rw [Jz hh ha]
  split
  ·rename_i e
   rw [s.unit k hk _ ⋯, if_neg ⋯, if_neg ⋯]
  ·split
   ·rw [s.unit k hk _ h2, if_neg ⋯, if_neg ⋯]
   ·exact s.unit k hk i hi
 ·rw [Jz hh ha]
  split
  ·exact s.low _ XqG ⋯ j hj
  ·split
   ·exact s.low a h1 h2 j hj
   ·exact s.low i hi hm j hj
theorem snoc_get {L : List Nat} {c k : Nat} (h : k < L.length) : (L ++ [c]).getD k 0 = L.getD k 0 := by
 rw [getD_eq_getElem?_getD, getD_eq_getElem?_getD, getElem?_append_left h]
theorem Yn {L : List Nat} {c : Nat} : (L ++ [c]).getD L.length 0 = c := by
 rw [getD_eq_getElem?_getD, getElem?_append_right XqG, Nat.sub_self]
 rfl
theorem Std.lead {m n c : Nat} {A : List Row} {L : List Nat} (s : Std m n c A L) (cn : c < n) (hm : L.length < m) (q : (rowAt A L.length).getD c 0 ≠ 0) : Std m n (c + 1) (elim L.length c A) (L ++ [c]) := by
 have hh : L.length < A.length := by rw [s.len]; exact hm
 have ln : ∀ i, i < m -> (rowAt A i).length = (head A L.length c).length := fun i hi => by rw [s.wid i (by rw [s.len]; exact hi), QT s.wid hh]
 have hg : ∀ j, (head A L.length c).getD j 0 = (rowAt A L.length).getD j 0 / (rowAt A L.length).getD c 0 := fun j => zdiv_get
 refine ⟨by rw [Vr]; exact s.len, wid_elim s.wid hh, cn, fun x hx => ?_, ?_, by rw [length_append]; exact hm, fun k hk i hi => ?_, fun i hi hm2 j hj => ?_⟩
 ·rcases mem_append.mp hx with h | h
  ·exact Nat.lt_succ_of_lt (s.lt x h)
  ·rw [mem_singleton.mp h]; exact Nat.lt_succ_self _
 ·refine List.pairwise_append.mpr ⟨s.up, List.pairwise_singleton _ _, fun x hx y hy => ?_⟩
  rw [mem_singleton.mp hy]
  exact s.lt x hx
 ·have hiA : i < A.length := by rw [s.len]; exact hi
  rw [J5 hiA]
  by_cases hk2 : k < L.length
  ·rw [snoc_get hk2]
   have z : (head A L.length c).getD (L.getD k 0) 0 = 0 := by
    rw [hg, s.unit k hk2 _ hm, if_neg ⋯]
    grind
   split
   ·rename_i e
    rw [z, if_neg ⋯]
   ·rw [Qa (ln i hi), z, s.unit k hk2 i hi]
    grind
  ·have e : k = L.length := by
    rw [length_append] at hk
    simp at hk
    omega
   subst e
   rw [Yn]
   have o : (head A L.length c).getD c 0 = 1 := by
    rw [hg]
    grind
   split
   ·exact o
   ·rw [Qa (ln i hi), o]
    grind
 ·rw [length_append] at hi
  simp at hi
  have hiA : i < A.length := by rw [s.len]; exact hm2
  rw [J5 hiA, if_neg ⋯, Qa (ln i hm2), hg]
  by_cases e : j = c
  ·subst e
   grind
  ·rw [s.low i ⋯ hm2 j ⋯, s.low L.length XqG hm j ⋯]
   grind
def Gd (t : Nat) (A : List Row) : Prop := ∃ d : Int, d ≠ 0 /\ d.natAbs < 2 ^ t /\ ∀ i, i < A.length -> ∀ c ∈ rowAt A i, ∃ z : Int, z.natAbs < 2 ^ t /\ c * (d : Rat) = (z : Rat)
theorem Gd.up {t u : Nat} {A : List Row} (g : Gd t A) (h : t <= u) : Gd u A := by
 obtain ⟨d, d0, hd, hp⟩ := g
 have l := Nat.pow_le_pow_right (n := 2) ⋯ h
 exact ⟨d, d0, ⋯, fun i hi c hc => let ⟨z, h1, h2⟩ := hp i hi c hc; ⟨z, ⋯, h2⟩⟩
theorem mul_pow {a b t u : Nat} (h1 : a < 2 ^ t) (h2 : b < 2 ^ u) : a * b < 2 ^ (t + u) := Std.mul_lt h1 h2
theorem Gd.sm {t i : Nat} {A : List Row} (g : Gd t A) (hi : i < A.length) : Std.SmL t (rowAt A i) := fun c hc => by
 obtain ⟨d, d0, hd, hp⟩ := g
 obtain ⟨z, h1, h2⟩ := hp i hi c hc
 exact Po.Nt d0 h2 h1 hd
def fstW (A : List Row) (c : Nat) : Nat -> Nat -> Option Nat
 | _, 0 => none
 | h, n + 1 => if (rowAt A h).getD c 0 ≠ 0 then some h else fstW A c (h + 1) n
def stepC (c : Nat) (s : List Row × List Nat) : List Row × List Nat := match fstW s.1 c s.2.length (s.1.length - s.2.length) with
 | none => s
 | some a => (elim s.2.length c (swap s.1 s.2.length a), s.2 ++ [c])
def clr (A : List Row) : Nat -> List Row × List Nat
 | 0 => (A, [])
 | c + 1 => stepC c (clr A c)
structure Clr (t n c : Nat) (A : List Row) : Prop where
 std : Std A.length n c (clr A c).1 (clr A c).2
 zer : ∀ v, Zer (clr A c).1 v ↔ Zer A v
 gd : Gd (2 ^ (clr A c).2.length * (t + 1) - 1) (clr A c).1
theorem Qi {r : Row} {n j : Nat} (h : j < n) : (r.take n).getD j 0 = r.getD j 0 := by
 rw [Ui, Ui, List.getElem?_take, if_pos h]
def tk (n : Nat) (A : List Row) : List Row := A.map (·.take n)
def elimD (h c : Nat) (B : List Row) : List Row := B.mapIdx fun i r => if h < i then zsub (r.getD c 0 / (rowAt B h).getD c 0) (rowAt B h) r else r
def stepD (c : Nat) (s : List Row × Nat) : List Row × Nat := match fstW s.1 c s.2 (s.1.length - s.2) with
 | none => s
 | some a => (elimD s.2 c (swap s.1 s.2 a), s.2 + 1)
theorem Zz : ∀ {r v s u : Row}, r.length = v.length -> dot (r ++ s) (v ++ u) = dot r v + dot s u
 | [], [], s, u, _ => by
  show dot s u = 0 + dot s u
  grind
 | a :: r, b :: v, s, u, h => by
  show a * b + dot (r ++ s) (v ++ u) = (a * b + dot r v) + dot s u
  rw [Zz (by simpa using h)]
  grind
 | [], _ :: _, _, _, h => by simp at h
 | _ :: _, [], _, _, h => by simp at h
def ones (i n : Nat) : Row := (List.range n).map fun j => if j = i then 1 else 0
def movN (A : List Row) (L : List Nat) (f w : Nat) : Nat -> Row
 | 0 => ones f w
 | k + 1 => (movN A L f w k).set (L.getD k 0) (-(rowAt A k).getD f 0)
def mov (A : List Row) (L : List Nat) (f w : Nat) : Row := movN A L f w L.length
section
variable {m n w : Nat} {A : List Row} {L : List Nat}
def ans (A : List Row) (w : Nat) : Row := (List.range w).map fun k => (rowAt A k).getD w 0
end
def aug (R : List Row) (b : Row) : List Row := zipWith (fun r y => r ++ [y]) R b
def augS (B : List Row) : List Row := B.mapIdx fun i r => r ++ ones i B.length
def col (B : List Row) (c : Nat) : Row := B.map (·.getD c 0)
end Le
namespace Lq
open PySem L2 PyProof.Rows Mi Std Le
def k_ONE : D := (.tup [(.int 1), (.int 1)])
structure Mat (Z : List O) (av : List Nat) (a : Nat) (M : List Row) (rs : List Nat) : Prop where
 at_ : Z[a]? = some (.lst (rs.map .ref))
 len : rs.length = M.length
 row : ∀ i, i < M.length -> ∃ r, rs[i]? = some r /\ r ∉ av /\ Z[r]? = some (.lst (Std.frs (rowAt M i)))
theorem Mat.gr {Z Z' : List O} {av : List Nat} {a : Nat} {M : List Row} {rs : List Nat} (h : Mat Z av a M rs) (g : Gr0 Z Z') : Mat Z' av a M rs :=
 ⟨g.at_ _ _ h.at_, h.len, fun i hi => let ⟨r, h1, h2, h3⟩ := h.row i hi; ⟨r, h1, h2, g.at_ _ _ h3⟩⟩
theorem Mat.off {Z : List O} {av : List Nat} {a l : Nat} {M : List Row} {rs : List Nat} {o : O} (h : Mat Z av a M rs) (hl : l ∈ av) (hn : l ≠ a) : Mat (Z.set l o) av a M rs :=
 ⟨by rw [getElem?_set_ne hn]; exact h.at_, h.len, fun i hi => let ⟨r, h1, h2, h3⟩ := h.row i hi; ⟨r, h1, h2, by rw [getElem?_set_ne fun (z : l = r) => h2 (z ▸ hl)]; exact h3⟩⟩
theorem Mat.put {Z : List O} {av : List Nat} {a i r : Nat} {M : List Row} {rs : List Nat} {row : Row} (h : Mat Z av a M rs) (ha : a ∈ av) (hr : r ∉ av) (er : Z[r]? = some (.lst (Std.frs row))) : Mat (Z.set a (.lst ((rs.map .ref).set i (.ref r)))) av a (M.set i row) (rs.set i r) := by
 refine ⟨by rw [Ce h.at_, List.map_set], by rw [length_set, length_set]; exact h.len, fun k hk => ?_⟩
 rw [length_set] at hk
 by_cases e : i = k
 ·subst e
  refine ⟨r, getElem?_set_self (by rw [h.len]; exact hk), hr, ?_⟩
  rw [getElem?_set_ne fun (z : a = r) => hr (z ▸ ha), er, Gf, getElem?_set_self hk]
  rfl
 ·obtain ⟨q, h1, h2, h3⟩ := h.row k hk
  refine ⟨q, by rw [getElem?_set_ne e]; exact h1, h2, ?_⟩
  rw [getElem?_set_ne fun (z : a = q) => h2 (z ▸ ha), Gf, getElem?_set_ne e, <- Gf]
  exact h3
def lotF (a b w c : Nat) : List (Str × D) := [("lines", .ref a), ("shares", .ref b), ("wide", .int w), ("leaders", .ref c)]
structure Lt (Z : List O) (l a b c w : Nat) (M S : List Row) (L rs ss : List Nat) : Prop where
 obj : Z[l]? = some (.ins "Lot" (lotF a b w c))
 lin : Mat Z [l, a, b, c] a M rs
 shr : Mat Z [l, a, b, c] b S ss
 led : Z[c]? = some (.lst (L.map fun (x : Nat) => D.int x))
 ne : [l, a, b, c].Nodup
section
variable {Z Z' : List O} {l a b c w : Nat} {M S : List Row} {L rs ss : List Nat}
theorem Lt.gr (h : Lt Z l a b c w M S L rs ss) (g : Gr0 Z Z') : Lt Z' l a b c w M S L rs ss := ⟨g.at_ _ _ h.obj, h.lin.gr g, h.shr.gr g, g.at_ _ _ h.led, h.ne⟩
theorem Lt.nes (h : Lt Z l a b c w M S L rs ss) : l ≠ a /\ l ≠ b /\ l ≠ c /\ a ≠ b /\ a ≠ c /\ b ≠ c := by
 have := h.ne
 simp [nodup_cons] at this
 exact ⟨this.1.1, this.1.2.1, this.1.2.2, this.2.1.1, this.2.1.2, this.2.2⟩
theorem Lt.app (h : Lt Z l a b c w M S L rs ss) {x : Nat} : Lt (Z.set c (.lst ((L.map fun (x : Nat) => D.int x) ++ [.int x]))) l a b c w M S (L ++ [x]) rs ss := by
 obtain ⟨n1, n2, n3, n4, n5, n6⟩ := h.nes
 exact ⟨by rw [getElem?_set_ne (Ne.symm n3)]; exact h.obj, h.lin.off (by simp) (Ne.symm n5), h.shr.off (by simp) (Ne.symm n6), by rw [Ce h.led, map_append]; rfl, h.ne⟩
theorem Lt.fresh (h : Lt Z l a b c w M S L rs ss) : Z.length ∉ [l, a, b, c] := by
 have h1 := (XqB h.obj).1
 have h2 := (XqB h.lin.at_).1
 have h3 := (XqB h.shr.at_).1
 have h4 := (XqB h.led).1
 simp
 omega
end
theorem Gm {s : CS} {r : CB} {Y : Mi.Env} {Z : List O} {S : SR -> List O -> Prop} (Q : Mi.Env -> List O -> Prop) (h1 : Ws (s.run Y) Z (fun x Z' => ∃ Y', x = .nx Y' /\ Q Y' Z')) (h2 : ∀ Y' Z', Q Y' Z' -> Ws (r.run Y') Z' S) : Ws ((Af s r).run Y) Z S := by
 rw [HH]
 refine h1.mono ?_
 rintro x Z' ⟨Y', rfl, q⟩
 exact h2 Y' Z' q
def Kp (av : List Nat) (Z Z' : List O) : Prop := Z.length <= Z'.length /\ ∀ j o, j ∉ av -> Z[j]? = some o -> Z'[j]? = some o
theorem Kp.refl {av : List Nat} {Z : List O} : Kp av Z Z := ⟨XqG, fun _ _ _ h => h⟩
theorem Kp.trans {av : List Nat} {a b c : List O} (x : Kp av a b) (y : Kp av b c) : Kp av a c := ⟨Nat.le_trans x.1 y.1, fun j o n h => y.2 j o n (x.2 j o n h)⟩
theorem Kp.set {av : List Nat} {Z : List O} {l : Nat} {o : O} (h : l ∈ av) : Kp av Z (Z.set l o) := ⟨by simp, fun j o' n e => by rw [getElem?_set_ne fun (z : l = j) => n (z ▸ h)]; exact e⟩
theorem Kp.gr {av : List Nat} {Z Z' : List O} (g : Gr0 Z Z') : Kp av Z Z' := ⟨g.len, fun j o _ h => g.at_ j o h⟩
def dr (n : Nat) (A : List Row) : List Row := A.map (·.drop n)
def shr (sh : Bool) (m : Nat) : List Row := (List.range m).map fun i => if sh then ones i m else []
def f1 (x : D) : List (Str × D) := [("lines", x)]
def f2 (x y : D) : List (Str × D) := [("lines", x), ("shares", y)]
def f3 (x y z : D) : List (Str × D) := [("lines", x), ("shares", y), ("wide", z)]
theorem atD_end {ds : List D} {n : Nat} {d : D} (hl : ds.length = n + 1) (h : ds[n]? = some d) : atD ds (-1) = Mi.M.ret d := by
 have e : ds = ds.take n ++ [d] := by
  have h2 := take_succ (l := ds) (i := n)
  rw [h, take_of_length_le ⋯] at h2
  exact h2
 rw [e]
 exact Hr
theorem Uv {w : Wk} {g : CG} {f : Mi.Env -> M Bool} {e : Mi.Env -> M D} {Y : Mi.Env} {Z : List O} {P : D -> List O -> Prop} {E : Ex -> List O -> Prop} {a : Type} (xs : List a) (c : a -> D) (p : a -> Bool) (φ : a -> D)
  (hn : xs.length <= w.fuel) (hz : xs.length <= sizeLine) (src : ∀ i acc, w.get i (Z ++ [.lst acc]) = some (xs[i]?.map c))
  (step : ∀ x ∈ xs, ∀ acc, ∃ Y1, g.run (c x) Y (Z ++ [.lst acc]) = some (Y1, Z ++ [.lst acc]) /\ Wp (f Y1) (Z ++ [.lst acc]) (fun b Z2 => b = p x /\ Z2 = Z ++ [.lst acc]) (fun _ _ => False) /\
   (p x = true -> Wp (e Y1) (Z ++ [.lst acc]) (fun y Z3 => y = φ x /\ Z3 = Z ++ [.lst acc]) (fun _ _ => False)))
  (q : P (.ref Z.length) (Z ++ [.lst ((xs.filter p).map φ)])) : Wp (lcM w g f e Y) Z P E := by
 refine V5 xs.length (fun i acc Z' => i <= xs.length /\ acc = ((xs.take i).filter p).map φ /\ Z' = Z ++ [.lst acc]) hn ⟨Nat.zero_le _, rfl, rfl⟩ ?_ ?_
 ·rintro i acc _ hi ⟨_, rfl, rfl⟩
  have hx := getElem?_eq_getElem hi
  have tk : xs.take (i + 1) = xs.take i ++ [xs[i]] := by rw [take_succ, hx]; rfl
  obtain ⟨Y1, h1, h2, h3⟩ := step xs[i] (getElem_mem _) (((xs.take i).filter p).map φ)
  refine ⟨c xs[i], by rw [src, hx]; rfl, Y1, _, h1, h2.mono ?_ fun _ _ z => z⟩
  rintro b _ ⟨rfl, rfl⟩
  by_cases hp : p xs[i] = true
  ·rw [if_pos hp]
   refine (h3 hp).mono ?_ fun _ _ z => z
   rintro y _ ⟨rfl, rfl⟩
   refine ⟨((xs.take i).filter p).map φ, Ax, ?_, hi, ?_, ?_⟩
   ·have := length_filter_le p (xs.take i)
    rw [length_take] at this
    rw [length_map]
    omega
   ·rw [tk, filter_append, map_append]
    simp [hp]
   ·rw [Ge]
    rfl
  ·rw [if_neg hp]
   refine ⟨((xs.take i).filter p).map φ, hi, ?_, rfl⟩
   rw [tk, filter_append]
   simp [hp]
 ·rintro acc _ ⟨_, rfl, rfl⟩
  rw [take_length]
  refine ⟨?_, q⟩
  rw [src, getElem?_eq_none XqG]
  rfl
theorem KD {l n i : Nat} {Z : List O} {ds : List D} (h : Z[l]? = some (.lst ds)) : (wkL l n).get i Z = some ds[i]? := by
 show (match Z[l]? with
  | some (.lst ds) => some ds[i]?
  | _ => none) = _
 rw [h]
def pI (x : Nat) : PyData := .int x
theorem U7 {Z : List O} {n : Nat} : ∀ ps : List Nat, Fb (see Z (n + 1)) (ps.map fun (x : Nat) => D.int x) = some (ps.map pI)
 | [] => rfl
 | p :: r => by
  show (match see Z (n + 1) (.int p), Fb (see Z (n + 1)) (r.map fun (x : Nat) => D.int x) with | some a, some b => _ | _, _ => _) = _
  rw [U7 r]
  rfl
theorem U5 {ps : List Nat} : SeqAt.shaped (.list (ps.map pI)) = true := by
 have h1 : PyData.canLayAll0 (ps.map pI) = true := by
  induction ps with
  | nil => rfl
  | cons p r ih => simp [PyData.canLayAll0, pI, PyData.canLay0] at ih ⊢; exact ih
 have h2 : PyData.depthAll (ps.map pI) <= 1 := by
  induction ps with
  | nil => simp [PyData.depthAll]
  | cons p r ih =>
   have e : PyData.depthAll ((p :: r).map pI) = max (PyData.depth (pI p)) (PyData.depthAll (r.map pI)) := rfl
   have e2 : PyData.depth (pI p) = 0 := by simp [pI, PyData.depth]
   have ih := ih (by simp [PyData.canLayAll0, pI, PyData.canLay0] at h1 ⊢; exact h1)
   rw [e, e2]
   omega
 unfold SeqAt.shaped
 have e : PyData.depth (.list (ps.map pI)) = PyData.depthAll (ps.map pI) + 1 := by simp [PyData.depth]
 have e2 : PyData.canLay0 (.list (ps.map pI)) = PyData.canLayAll0 (ps.map pI) := by simp [PyData.canLay0]
 rw [e, e2, h1]
 simp
 omega
def free (L : List Nat) (w : Nat) : List Nat := (List.range w).filter fun x => !decide (x ∈ L)
theorem Kp.more {av bv : List Nat} {Z Z' : List O} (k : Kp av Z Z') (h : ∀ x ∈ av, x ∈ bv) : Kp bv Z Z' := ⟨k.1, fun j o n e => k.2 j o (fun z => n (h j z)) e⟩
theorem Tf {a : Type} {xs : List a} {k : Nat} : Mi.cutD xs none (some (k : Int)) = xs.take k := by
 unfold Mi.cutD
 rw [HT.sIx_none, HT.sIx_nat, List.drop_zero, Nat.sub_zero]
 by_cases h : k <= xs.length
 ·rw [Nat.min_eq_left h]
 ·rw [Nat.min_eq_right ⋯, take_of_length_le XqG, take_of_length_le ⋯]
def toldN (R : List Row) (q : Row) (w i : Nat) : D := .tup [.str "none", .tup (Std.frs ((rowAt (clr (augS (aug R q)) w).1 i).drop (w + 1)))]
def told (R : List Row) (q : Row) (w : Nat) : D := match fstW (clr (aug R q) w).1 w (clr (aug R q) w).2.length (R.length - (clr (aug R q) w).2.length) with
 | some i => toldN R q w i
 | none => match free (clr (aug R q) w).2 w with
  | f :: _ => .tup [.str "many", .tup (Std.frs (mov (clr (aug R q) w).1 (clr (aug R q) w).2 f w))]
  | [] => .tup [.str "one", .tup (Std.frs (ans (clr (aug R q) w).1 w))]
end Lq
namespace Lw
open Std hiding c_l_sum BJ Dr Ew
open PySem L2 PyProof.Rows Mi Le Lq
def c_l_take : CB := (Af (FJ (fun _ => 100) (Tt (Ba .NotEq neD (cIx (Ae 0) (cStr "own")) (Ft aNil)) (HQ (Ba .Eq eqD (cIx (cIx (Ae 0) (cStr "own")) (cInt 0)) (cInt 0)))) (Af (CP (cM "list" "pop" popAD (cIx (Ae 0) (cStr "own")) (Aa (cInt 0) aNil)))
 bNil))
 (Af (sIf (Ba .NotEq neD (cIx (Ae 0) (cStr "own")) (Ft aNil)) (Af (Bv (gN 4) (Az .Mod modD (cIx (cIx (Ae 0) (cStr "own")) (cInt 0)) (Ae 1)))
 (Af (Bv (gS (cIx (Ae 0) (cStr "own")) (cInt 0)) (Az .FloorDiv fdivD (cIx (cIx (Ae 0) (cStr "own")) (cInt 0)) (Ae 1)))
 (Af (Cr (Ae 4))
 bNil))) bNil)
 (Af (Bv (gS (Ae 0) (cStr "turn")) (Az .Add addD (cIx (Ae 0) (cStr "turn")) (cInt 1)))
 (Af (Bv (gN 2) (cIx (Ae 0) (cStr "turn")))
 (Af (Bv (gN 3) (Az .Mod modD (Az .Mult mulD (Az .Add addD (cIx (Ae 0) (cStr "seed")) (Az .Mult mulD (Az .Mult mulD (cInt 7919) (Ae 2)) (Ae 2))) (cInt 48271)) (cInt 2305843009213693907)))
 (Af (Bv (gN 3) (Az .Mod modD (Az .Mult mulD (Ae 3) (Az .Add addD (Az .Add addD (Az .Mod modD (Ae 3) (cInt 999983)) (Az .Mult mulD (cInt 131) (Ae 2))) (cInt 3))) (cInt 2305843009213693921)))
 (Af (Cr (Az .Mod modD (Az .Add addD (Az .FloorDiv fdivD (Ae 3) (cInt 89)) (Az .FloorDiv fdivD (Ae 3) (cInt 1000033))) (Ae 1)))
 bNil)))))))
def Be : List D -> M D := mir 5 2 c_l_take.run
def c_l_of : CB := (Af (Cr (cIx (Ae 1) (Am "_law_take" Be (Aa (Ae 0) (Aa (cB "len" lenD (Aa (Ae 1) aNil)) aNil)))))
 bNil)
def Dd : List D -> M D := mir 2 2 c_l_of.run
def Vz : CB := (Af (Jy 3 4 (cB "abs" absD (Aa (Ae 0) aNil)) (cB "abs" absD (Aa (Ae 1) aNil)))
 (Af (FJ (fun Y => gas 4 Y) (Ba .NotEq neD (Ae 4) (cInt 0)) (Af (Jy 3 4 (Ae 4) (Az .Mod modD (Ae 3) (Ae 4)))
 bNil))
 (Af (Bv (gN 2) (cIf (Ba .Gt gtD (Ae 1) (cInt 0)) (cInt 1) (Ie (cInt 1))))
 (Af (Cr (Bg (Aa (Az .FloorDiv fdivD (Az .Mult mulD (Ae 0) (Ae 2)) (Ae 3)) (Aa (Az .FloorDiv fdivD (Az .Mult mulD (Ae 1) (Ae 2)) (Ae 3)) aNil))))
 bNil))))
def Hn : List D -> M D := mir 5 2 Vz.run
def c_l_sum : CB := (Af (Cr (Am "_law_frac" Hn (Aa (Az .Add addD (Az .Mult mulD (cIx (Ae 0) (cInt 0)) (cIx (Ae 1) (cInt 1))) (Az .Mult mulD (cIx (Ae 1) (cInt 0)) (cIx (Ae 0) (cInt 1)))) (Aa (Az .Mult mulD (cIx (Ae 0) (cInt 1)) (cIx (Ae 1) (cInt 1))) aNil))))
 bNil)
def BJ : List D -> M D := mir 2 2 c_l_sum.run
def Vx : CB := (Af (Cr (Am "_law_frac" Hn (Aa (Az .Mult mulD (cIx (Ae 0) (cInt 0)) (cIx (Ae 1) (cInt 1))) (Aa (Az .Mult mulD (cIx (Ae 0) (cInt 1)) (cIx (Ae 1) (cInt 0))) aNil))))
 bNil)
def Vf : List D -> M D := mir 2 2 Vx.run
def Dr : CB := (Af (Bv (gN 1) (Am "_law_frac" Hn (Aa (Az .Sub subD (Am "_law_take" Be (Aa (Ae 0) (Aa (cInt 19) aNil))) (cInt 9)) (Aa (Am "_law_of" Dd (Aa (Ae 0) (Aa (Ft (Aa (cInt 1) (Aa (cInt 1) (Aa (cInt 1) (Aa (cInt 2) (Aa (cInt 3) (Aa (cInt 7) aNil))))))) aNil))) aNil))))
 (Af (Cr (Am "_law_of" Dd (Aa (Ae 0) (Aa (Ft (Aa (Ae 1) (Aa (Ae 1) (Aa (Ae 1) (Aa (Bg (Aa (cInt 0) (Aa (cInt 1) aNil))) (Aa (Bg (Aa (cInt 1) (Aa (cInt 1) aNil))) (Aa (Am "_law_frac" Hn (Aa (Az .Sub subD (Am "_law_take" Be (Aa (Ae 0) (Aa (cInt 1999999) aNil))) (cInt 999999)) (Aa (cInt 999983) aNil))) aNil))))))) aNil))))
 bNil))
def Ew : List D -> M D := mir 2 1 Dr.run
def wkv (o : Nat) (s c : Int) : List (Key × D) := [(.inr ("own" : Str), .ref o), (.inr ("seed" : Str), .int s), (.inr ("turn" : Str), .int c)]
theorem Tr {o : Nat} {s c : Int} : valD (wkv o s c) (.inr ("own" : Str)) = some (.ref o) := rfl
theorem w_seed {o : Nat} {s c : Int} : valD (wkv o s c) (.inr ("seed" : Str)) = some (.int s) := rfl
theorem w_turn {o : Nat} {s c : Int} : valD (wkv o s c) (.inr ("turn" : Str)) = some (.int c) := rfl
theorem w_put {o : Nat} {s c d : Int} : G7 (wkv o s c) (.inr ("turn" : Str)) (.int d) = wkv o s d := rfl
theorem w_len {o : Nat} {s c : Int} : (wkv o s c).length = 3 := rfl
def ils (xs : List Nat) : List D := xs.map fun (x : Nat) => D.int x
structure WellX (Z : List O) (l o n : Nat) (xs : List Nat) : Prop where
 ne : o ≠ l
 own : Z[o]? = some (.lst (ils xs))
 len : xs.length <= 63
 dct : ∃ s c : Int, Z[l]? = some (.dct (wkv o s c)) /\ 0 <= s /\ s < 2305843009213693951 /\ 0 <= c /\ c <= n
def Well (Z : List O) (l o n : Nat) : Prop := ∃ xs, WellX Z l o n xs
theorem WellX.gr {Z Z' : List O} {l o n : Nat} {xs : List Nat} (h : WellX Z l o n xs) (g : Gr0 Z Z') : WellX Z' l o n xs := by
 obtain ⟨s, c, h1, h2⟩ := h.dct
 exact ⟨h.ne, g.at_ _ _ h.own, h.len, s, c, g.at_ _ _ h1, h2⟩
theorem Well.gr {Z Z' : List O} {l o n : Nat} (h : Well Z l o n) (g : Gr0 Z Z') : Well Z' l o n := let ⟨xs, k⟩ := h; ⟨xs, k.gr g⟩
theorem Well.up {Z : List O} {l o n m : Nat} (h : Well Z l o n) (hm : n <= m) : Well Z l o m := by
 obtain ⟨xs, k⟩ := h
 obtain ⟨s, c, h1, h2, h3, h4, h5⟩ := k.dct
 exact ⟨xs, k.ne, k.own, k.len, s, c, h1, h2, h3, h4, ⋯⟩
theorem MN {ps : List Nat} {a b : Nat} {Z : List O} {E : Ex -> List O -> Prop} {P : D -> List O -> Prop} (ha : Z[a]? = some (.lst (ils ps))) (hb : Z[b]? = some (.lst [])) : Wp (neD (.ref a) (.ref b)) Z P E ↔ P (.bl (!decide (ps = []))) Z := by
 have h1 : see Z 65 (.ref a) = some (.list (ps.map pI)) := by
  show (match Z[a]? with | some (.lst ds) => _ | some (.dct ds) => _ | _ => _) = _
  rw [ha]
  show (Fb (see Z 64) (ps.map fun (x : Nat) => D.int x)).map PyData.list = _
  rw [U7]
  rfl
 have h2 : see Z 65 (.ref b) = some (.list []) := by
  show (match Z[b]? with | some (.lst ds) => _ | some (.dct ds) => _ | _ => _) = _
  rw [hb]
  rfl
 have e : neD (.ref a) (.ref b) Z = some (.ok (.bl (!decide (ps = []))), Z) := by
  show XJ true (.ref a) (.ref b) Z = _
  unfold XJ
  rw [h1, h2]
  have s2 : SeqAt.shaped (.list []) = true := U5 (ps := [])
  simp only [U5, s2, and_self, if_true]
  cases ps <;> simp [PyData.eqv, PyData.eqvAll]
 constructor
 ·rintro ⟨r, Z', e2, q⟩
  rw [e] at e2
  cases e2
  exact q
 ·exact fun q => ⟨_, _, e, q⟩
theorem WellX.put {Z : List O} {l o n : Nat} {xs ys : List Nat} (h : WellX Z l o n xs) (hl : ys.length <= 63) : WellX (Z.set o (.lst (ils ys))) l o n ys := by
 obtain ⟨s, c, h1, h2⟩ := h.dct
 exact ⟨h.ne, Ce h.own, hl, s, c, by rw [getElem?_set_ne h.ne]; exact h1, h2⟩
theorem Bs {Z : List O} {l o n : Nat} {many : Int} {E : Ex -> List O -> Prop} (h : Well Z l o n) (hn : n <= 1000000) (h0 : 0 < many) (h9 : many.natAbs.log2 < 400000) :
  Wp (Be [.ref l, .int many]) Z (fun r Z' => (∃ d, r = .int d /\ 0 <= d /\ d < many) /\ Well Z' l o (n + 1) /\ Kp [l, o] Z Z') E := by
 unfold Be c_l_take
 have hs := sizeLine_eq
 rw [Ig]
 refine ⟨rfl, ?_⟩
 refine Gm (fun Y Z' => (∃ xs, WellX Z' l o n xs /\ (xs = [] \/ ∃ x r, xs = x :: r /\ x ≠ 0)) /\ Kp [l, o] Z Z' /\ Y = [some (.ref l), some (.int many), none, none, none]) ?_ ?_
 ·obtain ⟨xs, h⟩ := h
  rw [s_while]
  have loop : ∀ (f : Nat) (xs : List Nat) (Z1 : List O), xs.length < f -> WellX Z1 l o n xs -> Kp [l, o] Z Z1 -> Ws (whl ((Tt (Ba .NotEq neD (cIx (Ae 0) (cStr "own")) (Ft aNil)) (HQ (Ba .Eq eqD (cIx (cIx (Ae 0) (cStr "own")) (cInt 0)) (cInt 0)))).run) ((Af (CP (cM "list" "pop" popAD (cIx (Ae 0) (cStr "own")) (Aa (cInt 0) aNil))) bNil).run) f [some (.ref l), some (.int many), none, none, none]) Z1 (fun x Z' => ∃ Y', x = .nx Y' /\ (∃ xs, WellX Z' l o n xs /\ (xs = [] \/ ∃ x r, xs = x :: r /\ x ≠ 0)) /\ Kp [l, o] Z Z' /\ Y' = [some (.ref l), some (.int many), none, none, none]) := by
   intro f
   induction f with
   | zero => intro xs Z1 hf _ _; omega
   | succ f ih =>
    intro xs Z1 hf w kp
    obtain ⟨s, c, d1, d2, d3, d4, d5⟩ := w.dct
    rw [Hu]
    walk_at "mi"
    refine ⟨_, d1, ?_⟩
    rw [Tr]
    dsimp only
    rw [Aj]
    refine ⟨Nat.zero_le _, ?_⟩
    have g := Gr0.app Z1 [O.lst []]
    have w2 := w.gr g
    have kp2 := kp.trans (Kp.gr g)
    have d6 := g.at_ _ _ d1
    rw [MN w2.own (by rw [Ax]; rfl)]
    generalize Z1 ++ [O.lst []] = Z2 at w2 kp2 d6 ⊢
    cases xs with
    | nil =>
     walk_at "mi"
     exact ⟨_, rfl, ⟨[], w2, .inl rfl⟩, kp2, rfl⟩
    | cons x r =>
     have hne : decide (x :: r = []) = false := by simp
     rw [hne]
     walk_at "mi"
     refine ⟨_, d6, ?_⟩
     rw [Tr]
     dsimp only
     rw [Aj, EY, Cq, DG w2.own]
     have a0 : atD (ils (x :: r)) 0 = Mi.M.ret (.int x) := Dy
     rw [a0, Aj]
     walk_at "mi"
     by_cases hx : x = 0
     ·rw [if_pos ⋯]
      refine ⟨_, d6, ?_⟩
      rw [Tr]
      dsimp only
      rw [Aj]
      walk_at "mi"
      refine ⟨_, w2.own, ?_⟩
      rw [show (0 : Int) = ((0 : Nat) : Int) by rfl, Qh (j := 0) w2.own rfl ∅]
      have hl := w2.len
      rw [length_cons] at hl hf
      exact ih r _ ⋯ (w2.put (ys := r) ⋯) (kp2.trans (Kp.set (by simp)))
     ·rw [if_neg ⋯]
      exact ⟨_, rfl, ⟨x :: r, w2, .inr ⟨x, r, rfl, hx⟩⟩, kp2, rfl⟩
  exact loop 100 xs Z (by have := h.len; omega) h Kp.refl
 rintro _ Z1 ⟨⟨xs, w, hx⟩, kp, rfl⟩
 obtain ⟨s, c, d1, d2, d3, d4, d5⟩ := w.dct
 walk_at "mi"
 refine ⟨_, d1, ?_⟩
 rw [Tr]
 dsimp only
 rw [Aj]
 refine ⟨Nat.zero_le _, ?_⟩
 have g := Gr0.app Z1 [O.lst []]
 have w2 := w.gr g
 have kp2 := kp.trans (Kp.gr g)
 have d6 := g.at_ _ _ d1
 rw [MN w2.own (by rw [Ax]; rfl)]
 generalize Z1 ++ [O.lst []] = Z2 at w2 kp2 d6 ⊢
 rcases hx with rfl | ⟨x, r, rfl, hx⟩
 ·rw [show decide (([] : List Nat) = []) = true from rfl]
  walk_at "mi"
  refine ⟨_, d6, ?_⟩
  rw [w_turn]
  dsimp only
  rw [Aj]
  walk_at "mi"
  refine ⟨_, d6, by rw [w_len]; omega, ?_⟩
  rw [w_put]
  have d7 : (Z2.set l (.dct (wkv o s (c + 1))))[l]? = some (.dct (wkv o s (c + 1))) := Ce d6
  have w3 : Well (Z2.set l (.dct (wkv o s (c + 1)))) l o (n + 1) := ⟨[], w2.ne, by rw [getElem?_set_ne (Ne.symm w2.ne)]; exact w2.own, w2.len, s, c + 1, d7, d2, d3, ⋯, ⋯⟩
  have kp3 := kp2.trans (Kp.set (av := [l, o]) (l := l) (o := .dct (wkv o s (c + 1))) (by simp))
  generalize Z2.set l (.dct (wkv o s (c + 1))) = Z3 at d7 w3 kp3 ⊢
  refine ⟨_, d7, ?_⟩
  rw [w_turn]
  dsimp only
  rw [Aj]
  walk_at "mi"
  refine ⟨_, d7, ?_⟩
  rw [w_seed]
  dsimp only
  rw [Aj]
  walk_at "mi"
  refine ⟨BX ⋯ ⋯, BX ⋯ ⋯, Fg ⋯ ⋯, ⋯, ⋯, BX ⋯ ⋯, ?_, ⋯, ∅, ∅, ⋯, ⟨_, rfl, Int.fmod_nonneg_of_pos _ h0, Int.fmod_lt_of_pos _ h0⟩, w3, kp3⟩
  generalize (s + 7919 * (c + 1) * (c + 1)) * 48271 = z
  have y1 := Int.fmod_nonneg_of_pos z (b := 2305843009213693907) ⋯
  have y2 := Int.fmod_lt_of_pos z (b := 2305843009213693907) ⋯
  exact BX ⋯ ⋯
 ·have hne : decide (x :: r = []) = false := by simp
  rw [hne]
  obtain ⟨m, rfl⟩ := Int.eq_ofNat_of_zero_le (show 0 <= many by omega)
  have a0 : atD (ils (x :: r)) 0 = Mi.M.ret (.int x) := Dy
  have m0 : (m : Int) ≠ 0 := by omega
  have dv : Mx (m : Int) := m0
  walk_at "mi"
  refine ⟨_, d6, ?_⟩
  rw [Tr]
  dsimp only
  rw [Aj, EY, Cq, DG w2.own, a0, Aj]
  walk_at "mi"
  refine ⟨m0, _, d6, ?_⟩
  rw [Tr]
  dsimp only
  rw [Aj, EY, Cq, DG w2.own, a0, Aj]
  walk_at "mi"
  refine ⟨dv, _, d6, ?_⟩
  rw [Tr]
  dsimp only
  rw [Aj]
  have e : (ils (x :: r)).set 0 (.int ((x : Int).fdiv (m : Int))) = ils (x / m :: r) := by
   rw [Std.Jh]
   rfl
  refine ⟨_, Tw w2.own (n := 0) (ixN_nat (j := 0) (by simp [ils])), ⟨_, rfl, Int.fmod_nonneg_of_pos _ h0, Int.fmod_lt_of_pos _ h0⟩, ?_, kp2.trans (Kp.set (by simp))⟩
  rw [e]
  have hl := w2.len
  exact Well.up ⟨_, w2.put (by simpa using hl)⟩ (Nat.le_succ n)
theorem run_of {Z : List O} {l o n k : Nat} {ds : List D} {E : Ex -> List O -> Prop} (h : Well Z l o n) (hn : n <= 1000000) (hk : Z[k]? = some (.lst ds)) (hko : k ∉ [l, o]) (h0 : 0 < ds.length) (h9 : ds.length <= 1000) :
  Wp (Dd [.ref l, .ref k]) Z (fun r Z' => r ∈ ds /\ Well Z' l o (n + 1) /\ Kp [l, o] Z Z') E := by
 unfold Dd c_l_of
 have hs := sizeLine_eq
 walk_at "mi"
 refine ⟨_, hk, Wp.go (Bs h hn (show (0 : Int) < ds.length by omega) (Nat.lt_of_le_of_lt (Nat.log2_le_self _) ⋯)) ?_⟩
 rintro _ Z' ⟨⟨d, rfl, hd0, hd1⟩, w, kp⟩
 obtain ⟨y, hy, e⟩ := V2 hd0 hd1
 rw [EY, Cq, DG (kp.2 _ _ hko hk), e, Aj]
 exact ⟨hy, w, kp⟩
theorem Qx {p q : Int} {Z : List O} {E : Ex -> List O -> Prop} (h : q ≠ 0) : Wp (Hn [.int p, .int q]) Z (fun r Z' => r = fr (Rat.divInt p q) /\ Z' = Z) E := by
 have loop : ∀ (n a b : Nat) (S : SR -> List O -> Prop), b < n -> S (.nx [some (.int p), some (.int q), none, some (.int (Nat.gcd a b)), some (.int 0)]) Z ->
   Ws (whl (Ba .NotEq neD (Ae 4) (cInt 0)).run (Af (Jy 3 4 (Ae 4) (Az .Mod modD (Ae 3) (Ae 4))) bNil).run n [some (.int p), some (.int q), none, some (.int a), some (.int b)]) Z S := by
  intro n
  induction n with
  | zero => intro a b S h; omega
  | succ n ih =>
   intro a b S h k
   rw [Hu]
   walk_at "mi"
   by_cases hb : b = 0
   ·subst hb
    simp [decide_eq_true] at k ⊢
    exact k
   ·have hd : decide ((b : Int) = 0) = false := decide_eq_false ⋯
    rw [hd]
    simp only [Bool.not_false, if_true, Trn]
    have hb' : (b : Int) ≠ 0 := by omega
    refine ⟨hb', ?_⟩
    rw [Jg]
    refine ih b (a % b) S (Nat.lt_of_lt_of_le (Nat.mod_lt a ⋯) ⋯) ?_
    rw [<- QV hb]
    exact k
 unfold Hn Vz
 walk_at "mi"
 show Ws (whl _ _ ((q.natAbs : Int).natAbs + 1) _) Z _
 refine loop _ p.natAbs q.natAbs _ (by simp) ?_
 have hg : 0 < Nat.gcd p.natAbs q.natAbs := Nat.gcd_pos_of_pos_right _ ⋯
 have hd : Mx (Nat.gcd p.natAbs q.natAbs : Nat) := by show ((Nat.gcd p.natAbs q.natAbs : Nat) : Int) ≠ 0; omega
 walk_at "mi"
 have hs := sizeLine_eq
 refine ⟨fun hn => ⟨Fg ⋯ ⋯, hd, Fg ⋯ ⋯, hd, ⋯, ?_⟩, fun hn => ⟨Fg ⋯ ⋯, hd, Fg ⋯ ⋯, hd, ⋯, ?_⟩⟩
 ·rw [Int.mul_comm p 1, Int.mul_comm q 1]
  exact Gg h (Fj h ⋯ (.inl rfl))
 ·rw [Int.mul_comm p (-1), Int.mul_comm q (-1)]
  exact Gg h (Fj h ⋯ (.inr rfl))
theorem div_val (p q : Rat) : p / q = Rat.divInt (p.num * q.den) (p.den * q.num) := by
 rw [Rat.div_def, Rat.inv_def]
 conv => lhs; rw [<- Rat.num_divInt_den p]
 exact Rat.divInt_mul_divInt _ _
theorem run_sum {A B : Nat} {p q : Rat} {Z : List O} {E : Ex -> List O -> Prop} (hp : Sm A p) (hq : Sm B q) (hA : 0 < A) (hB : 0 < B) (hC : A + B <= 1000000) : Wp (BJ [fr p, fr q]) Z (fun r Z' => r = fr (p + q) /\ Z' = Z) E := by
 unfold BJ c_l_sum
 rw [fr, fr]
 have m1 : Dh p.num q.den := Bu (A := A) (B := B) hp.1 (by rw [Int.natAbs_natCast]; exact hq.2) hA hB ⋯
 have m2 : Dh q.num p.den := Bu (A := B) (B := A) hq.1 (by rw [Int.natAbs_natCast]; exact hp.2) hB hA ⋯
 have m3 : Dh p.den q.den := Bu (A := A) (B := B) (by rw [Int.natAbs_natCast]; exact hp.2) (by rw [Int.natAbs_natCast]; exact hq.2) hA hB ⋯
 walk_at "mi*"
 refine Wp.go (Qx (Int.mul_ne_zero (GP p) (GP q))) ?_
 rintro _ _ ⟨rfl, rfl⟩
 exact ⟨by rw [<- Rj], rfl⟩
theorem RD {A B : Nat} {p q : Rat} {Z : List O} {E : Ex -> List O -> Prop} (hp : Sm A p) (hq : Sm B q) (hA : 0 < A) (hB : 0 < B) (hC : A + B <= 1000000) (q0 : q ≠ 0) : Wp (Vf [fr p, fr q]) Z (fun r Z' => r = fr (p / q) /\ Z' = Z) E := by
 unfold Vf Vx
 rw [fr, fr]
 have m1 : Dh p.num q.den := Bu (A := A) (B := B) hp.1 (by rw [Int.natAbs_natCast]; exact hq.2) hA hB ⋯
 have m3 : Dh p.den q.num := Bu (A := A) (B := B) (by rw [Int.natAbs_natCast]; exact hp.2) hq.1 hA hB ⋯
 walk_at "mi*"
 refine Wp.go (Qx (Int.mul_ne_zero (GP p) (fun z => q0 (Rat.num_eq_zero.mp z)))) ?_
 rintro _ _ ⟨rfl, rfl⟩
 exact ⟨by rw [<- div_val], rfl⟩
def Q (j b : Nat) (x : Rat) : Prop := ∃ z : Int, z.natAbs < 2 ^ b /\ x * (((41999286 : Int) ^ j : Int) : Rat) = (z : Rat)
abbrev Drawn (x : Rat) : Prop := Q 1 29 x
theorem Q.up {j b c : Nat} {x : Rat} (h : Q j b x) (hc : b <= c) : Q j c x := let ⟨z, h1, h2⟩ := h; ⟨z, Nat.lt_of_lt_of_le h1 (Nat.pow_le_pow_right ⋯ hc), h2⟩
theorem Q.more {j b : Nat} {x : Rat} (h : Q j b x) : Q (j + 1) (b + 26) x := by
 obtain ⟨z, h1, h2⟩ := h
 refine ⟨z * 41999286, ?_, ?_⟩
 ·rw [Int.natAbs_mul, Nat.pow_add]
  exact Nat.mul_lt_mul_of_lt_of_le h1 ∅ ∅
 ·rw [Int.pow_succ, Rat.intCast_mul, Rat.intCast_mul, <- Rat.mul_assoc, h2]
theorem Q.mul {i j b c : Nat} {x y : Rat} (h : Q i b x) (k : Q j c y) : Q (i + j) (b + c) (x * y) := by
 obtain ⟨z, h1, h2⟩ := h
 obtain ⟨u, k1, k2⟩ := k
 refine ⟨z * u, ?_, ?_⟩
 ·rw [Int.natAbs_mul]
  exact Std.mul_lt h1 k1
 ·rw [Int.pow_add, Rat.intCast_mul, Rat.intCast_mul, <- h2, <- k2]
  grind
theorem Q.add {j b : Nat} {x y : Rat} (h : Q j b x) (k : Q j b y) : Q j (b + 1) (x + y) := by
 obtain ⟨z, h1, h2⟩ := h
 obtain ⟨u, k1, k2⟩ := k
 refine ⟨z + u, ?_, ?_⟩
 ·rw [Nat.pow_succ]
  omega
 ·rw [Rat.intCast_add, Rat.add_mul, h2, k2]
theorem q0 {j b : Nat} : Q j b 0 := ⟨0, Nat.pow_pos ⋯, Rat.zero_mul _⟩
theorem q1 : Drawn 1 := ⟨41999286, ∅, Rat.one_mul _⟩
theorem Q.sm {j b : Nat} {x : Rat} (h : Q j b x) (hj : 26 * j <= b) (hb : 0 < b) : Sm b x := by
 obtain ⟨z, h1, h2⟩ := h
 have hp : ((41999286 : Int) ^ j).natAbs < 2 ^ b /\ (41999286 : Int) ^ j ≠ 0 := by
  have e : ((41999286 : Int) ^ j).natAbs = 41999286 ^ j := by rw [Int.natAbs_pow]; rfl
  refine ⟨?_, Int.pow_ne_zero ∅⟩
  rw [e]
  by_cases j0 : j = 0
  ·subst j0
   exact Nat.one_lt_two_pow ⋯
  ·refine Nat.lt_of_lt_of_le (Nat.pow_lt_pow_left (show 41999286 < 2 ^ 26 by decide) j0) ?_
   rw [<- Nat.pow_mul]
   exact Nat.pow_le_pow_right ⋯ hj
 exact Po.Nt hp.2 h2 h1 hp.1
theorem Well.fresh {Z : List O} {l o n : Nat} (h : Well Z l o n) : Z.length ∉ [l, o] := by
 obtain ⟨xs, k⟩ := h
 obtain ⟨s, c, h1, _⟩ := k.dct
 have a := (XqB k.own).1
 have b := (XqB h1).1
 simp
 omega
theorem p60_ok : ∃ P : Nat, (10 : Int) ^ Int.toNat 60 = (P : Int) /\ 0 < P /\ P < 2 ^ 200 := ⟨10 ^ 60, by rw [Int.natCast_pow]; rfl, Nat.pow_pos ⋯, ∅⟩
theorem p18_ok : ∃ P : Nat, (10 : Int) ^ Int.toNat 18 = (P : Int) := ⟨10 ^ 18, by rw [Int.natCast_pow]; rfl⟩
def Cm (t : Nat) (r : Row) : Prop := ∃ d : Int, d ≠ 0 /\ d.natAbs < 2 ^ t /\ ∀ c ∈ r, ∃ z : Int, z.natAbs < 2 ^ t /\ c * (d : Rat) = (z : Rat)
theorem Cm.sm {t : Nat} {r : Row} (h : Cm t r) : SmL t r := fun c hc => by
 obtain ⟨d, d0, d1, hd⟩ := h
 obtain ⟨z, z1, z2⟩ := hd c hc
 exact Po.Nt d0 z2 z1 d1
theorem gd_mem {r : Row} {i : Nat} (h : i < r.length) : r.getD i 0 ∈ r := by
 rw [Std.gd_in h]
 exact getElem_mem h
theorem dot1 {a b : Rat} : dot [a] [b] = a * b := by
 show a * b + dot [] [] = a * b
 rw [Uk]
 grind
theorem dot_step {r v : Row} {i : Nat} (h1 : i < r.length) (h2 : i < v.length) : dot (r.take (i + 1)) (v.take (i + 1)) = dot (r.take i) (v.take i) + r.getD i 0 * v.getD i 0 := by
 rw [Std.Qi h1, Std.Qi h2, Zz (by rw [length_take, length_take]; omega), dot1]
theorem Cm.dot {t u : Nat} {r v : Row} (h : Cm t r) (k : Cm u v) : ∃ D : Int, D ≠ 0 /\ D.natAbs < 2 ^ (t + u) /\ ∀ i, i <= r.length -> i <= v.length -> ∃ z : Int, z.natAbs <= i * 2 ^ (t + u) /\ Le.dot (r.take i) (v.take i) * (D : Rat) = (z : Rat) := by
 obtain ⟨d, d0, d1, hd⟩ := h
 obtain ⟨e, e0, e1, he⟩ := k
 refine ⟨d * e, Int.mul_ne_zero d0 e0, by rw [Int.natAbs_mul]; exact Std.mul_lt d1 e1, fun i => ?_⟩
 induction i with
 | zero =>
  intro _ _
  refine ⟨0, by simp, ?_⟩
  rw [take_zero, Uk]
  exact Rat.zero_mul _
 | succ i ih =>
  intro hr hv
  obtain ⟨z, z1, z2⟩ := ih ⋯ ⋯
  obtain ⟨x, x1, x2⟩ := hd (r.getD i 0) (gd_mem ⋯)
  obtain ⟨y, y1, y2⟩ := he (v.getD i 0) (gd_mem ⋯)
  refine ⟨z + x * y, ?_, ?_⟩
  ·have h1 := Std.mul_lt x1 y1
   have h2 : (x * y).natAbs = x.natAbs * y.natAbs := Int.natAbs_mul _ _
   have h3 : (z + x * y).natAbs <= z.natAbs + (x * y).natAbs := Int.natAbs_add_le _ _
   rw [Nat.succ_mul]
   omega
  ·rw [dot_step ⋯ ⋯]
   rw [Rat.intCast_mul] at z2 ⊢
   rw [Rat.intCast_add, Rat.intCast_mul, <- z2, <- x2, <- y2]
   grind
theorem Cm.part {t u : Nat} {r v : Row} (h : Cm t r) (k : Cm u v) {i : Nat} (h1 : i <= r.length) (h2 : i <= v.length) (h9 : i < 1024) : Sm (t + u + 10) (Le.dot (r.take i) (v.take i)) := by
 obtain ⟨D, d0, d1, hd⟩ := h.dot k
 obtain ⟨z, z1, z2⟩ := hd i h1 h2
 have e : 2 ^ (t + u + 10) = 1024 * 2 ^ (t + u) := by rw [Nat.pow_add, Nat.mul_comm]
 have p : 0 < 2 ^ (t + u) := Nat.pow_pos ⋯
 refine Po.Nt d0 z2 ?_ ?_
 ·rw [e]
  exact Nat.lt_of_le_of_lt z1 ((Nat.mul_lt_mul_right p).mpr h9)
 ·rw [e]
  omega
theorem Cm.up {t u : Nat} {r : Row} (h : Cm t r) (hu : t <= u) : Cm u r := by
 obtain ⟨d, d0, d1, hd⟩ := h
 have p := Std.pow_le hu
 refine ⟨d, d0, ⋯, fun c hc => ?_⟩
 obtain ⟨z, z1, z2⟩ := hd c hc
 exact ⟨z, ⋯, z2⟩
theorem Q.lift {j b : Nat} {x : Rat} (h : Q j b x) : ∀ m, Q (j + m) (b + 26 * m) x
 | 0 => h
 | m + 1 => by
  have := (Q.lift h m).more
  rw [show b + 26 * (m + 1) = b + 26 * m + 26 by omega]
  exact this
theorem Q.to {j b i c : Nat} {x : Rat} (h : Q j b x) (hj : j <= i) (hb : b + 26 * (i - j) <= c) : Q i c x := by
 have := (h.lift (i - j)).up hb
 rwa [show j + (i - j) = i by omega] at this
theorem Q.dot {i j b c : Nat} : ∀ {r v : Row}, (∀ x ∈ r, Q i b x) -> (∀ x ∈ v, Q j c x) -> Q (i + j) (b + c + r.length) (Le.dot r v)
 | [], v, _, _ => by rw [Uk]; exact q0
 | a :: r, [], _, _ => by rw [dot_nil']; exact q0
 | a :: r, d :: v, h, k => by
  have ih := Q.dot (r := r) (v := v) (fun x hx => h x (mem_cons_of_mem _ hx)) (fun x hx => k x (mem_cons_of_mem _ hx))
  have h1 := ((h a mem_cons_self).mul (k d mem_cons_self)).up (c := b + c + r.length) ⋯
  exact h1.add ih
theorem Cm.of {j b : Nat} {r : Row} (h : ∀ x ∈ r, Q j b x) (hj : 26 * j <= b) (hb : 0 < b) : Cm b r := by
 refine ⟨(41999286 : Int) ^ j, Int.pow_ne_zero ∅, ?_, fun c hc => h c hc⟩
 have e : ((41999286 : Int) ^ j).natAbs = 41999286 ^ j := by rw [Int.natAbs_pow]; rfl
 rw [e]
 by_cases j0 : j = 0
 ·subst j0
  exact Nat.one_lt_two_pow ⋯
 ·refine Nat.lt_of_lt_of_le (Nat.pow_lt_pow_left (show 41999286 < 2 ^ 26 by decide) j0) ?_
  rw [<- Nat.pow_mul]
  exact Nat.pow_le_pow_right ⋯ hj
theorem Well.put {Z : List O} {l o n j : Nat} {x : O} (h : Well Z l o n) (hj : j ∉ [l, o]) : Well (Z.set j x) l o n := by
 obtain ⟨xs, w⟩ := h
 obtain ⟨s, c, h1, h2⟩ := w.dct
 have n1 : j ≠ l := fun z => hj (by rw [z]; simp)
 have n2 : j ≠ o := fun z => hj (by rw [z]; simp)
 exact ⟨xs, w.ne, by rw [getElem?_set_ne n2]; exact w.own, w.len, s, c, by rw [getElem?_set_ne n1]; exact h1, h2⟩
theorem _root_.Lq.Kp.new {av : List Nat} {a b : List O} {o : O} {L : Nat} (k : Kp av a b) (h : a.length <= L) : Kp av a (b.set L o) := ⟨by simpa using k.1, fun j p n e => by
 have := (XqB e).1
 rw [getElem?_set_ne ⋯]
 exact k.2 j p n e⟩
end Lw
namespace Lw
open Std hiding c_l_sum BJ Dr Ew
open PySem L2 PyProof.Rows Mi Le Lq
def V6 (R : List Row) (q : Row) (w : Nat) : Str := if (fstW (clr (aug R q) w).1 w (clr (aug R q) w).2.length (R.length - (clr (aug R q) w).2.length)).isSome then "none" else if (clr (aug R q) w).2.length = w then "one" else "many"
theorem Vu {a : Type} {xs : List a} {k : Nat} : Mi.cutD xs (some (k : Int)) none = xs.drop k := by
 unfold Mi.cutD
 rw [HT.sIx_none, HT.sIx_nat]
 by_cases h : k <= xs.length
 ·rw [Nat.min_eq_left h, take_of_length_le (by rw [length_drop]; omega)]
 ·rw [Nat.min_eq_right ⋯, List.drop_eq_nil_of_le XqG, List.drop_eq_nil_of_le ⋯]
  simp
structure ToldIs (R : List Row) (q : Row) (w U : Nat) (y : Row) : Prop where
 cm : Cm U y
 one : (V6 R q w = "none" /\ told R q w = .tup [.str "none", .tup (Std.frs y)] /\ y.length = R.length /\ (∀ j, j < w -> dot (col R j) y = 0) /\ dot q y ≠ 0) \/
  (V6 R q w = "many" /\ told R q w = .tup [.str "many", .tup (Std.frs y)] /\ y.length = w /\ y ≠ replicate w 0 /\ ∀ i, i < R.length -> dot (rowAt R i) y = 0) \/
  (V6 R q w = "one" /\ told R q w = .tup [.str "one", .tup (Std.frs y)] /\ y.length = w /\ ∀ i, i < R.length -> dot (rowAt R i) y = q.getD i 0)
theorem U6 {ps : List Rat} {Z : List O} : see Z 65 (.tup (Std.frs ps)) = some (.tuple (ps.map pF)) := by
 show (Fb (see Z 64) (Std.frs ps)).map PyData.tuple = _
 rw [Std.Qq]
 rfl
theorem Qo {ps : List Rat} : SeqAt.shaped (.tuple (ps.map pF)) = true := by
 have h1 := Std.QK ps
 have h2 := Std.Rb ps
 unfold SeqAt.shaped
 have e : PyData.depth (.tuple (ps.map pF)) = PyData.depthAll (ps.map pF) + 1 := by simp [PyData.depth]
 have e2 : PyData.canLay0 (.tuple (ps.map pF)) = PyData.canLayAll0 (ps.map pF) := by simp [PyData.canLay0]
 rw [e, e2, h1]
 simp
 omega
theorem wp_run {a : Type} {m : Mi.M a} {d : a} {Z : List O} {P : a -> List O -> Prop} {E : Ex -> List O -> Prop} (h : m Z = some (.ok d, Z)) : Wp m Z P E ↔ P d Z := ⟨fun ⟨r, Z', e, q⟩ => by rw [h] at e; cases e; exact q, fun q => ⟨_, _, h, q⟩⟩
def Slv (R : List Row) (q x : Row) (w : Nat) : Prop := x.length = w /\ ∀ i, i < R.length -> dot (rowAt R i) x = q.getD i 0
def Ker (R : List Row) (v : Row) (w : Nat) : Prop := v.length = w /\ ∀ i, i < R.length -> dot (rowAt R i) v = 0
inductive Sem (R : List Row) (q : Row) (w : Nat) : Prop
 | no (h : V6 R q w = "none") (n : ¬ ∃ x, Slv R q x w)
 | many (h : V6 R q w = "many") (x : ∃ x, Slv R q x w) (v : ∃ v, Ker R v w /\ v ≠ replicate w 0)
 | one (h : V6 R q w = "one") (x : ∃ x, Slv R q x w) (v : ∀ v, Ker R v w -> v = replicate w 0)
end Lw
namespace Mi
open PySem L2 PyProof.Rows
variable [Tb]
def Jj (kvs : List (Key × D)) (k : Key) : List (Key × D) := kvs.filter fun kv => decide (kv.1 ≠ k)
theorem Bo.drop {K : PySem.W.Frag} {α : List Addr} {H : Hp} : ∀ {ds : List (Key × D)} {ws : List (Key × V)} (k : Key), Bo K α H ds ws -> Bo K α H (Jj ds k) (dropK ws k)
 | [], _, k, r => by
  cases (show _ = [] from r)
  exact rfl
 | (k1, d) :: ds, ws, k, r => by
  obtain ⟨v, vr, e, a, b⟩ := r
  subst e
  have i := Bo.drop k b
  unfold Jj dropK at i ⊢
  by_cases h : k1 = k
  ·rw [List.filter_cons_of_neg (by simpa using h), List.filter_cons_of_neg (by simpa using h)]
   exact i
  ·rw [List.filter_cons_of_pos (by simpa using h), List.filter_cons_of_pos (by simpa using h)]
   exact ⟨v, _, rfl, a, i⟩
def dpopD : D -> List D -> M D := fun x ds Z => match x, ds with
 | .ref l, [y] => match Z[l]? with
  | some (.dct kvs) => match keyD y with
   | some k => match valD kvs k with
    | some d => some (.ok d, Z.set l (.dct (Jj kvs k)))
    | none => none
   | none => none
  | _ => none
 | _, _ => none
theorem wp_dpop {l : Nat} {y d : D} {k : Key} {kvs : List (Key × D)} {Z : List O} {P : D -> List O -> Prop} {E : Ex -> List O -> Prop} (h : Z[l]? = some (.dct kvs)) (hk : keyD y = some k) (hv : valD kvs k = some d) : Wp (dpopD (.ref l) [y]) Z P E ↔ P d (Z.set l (.dct (Jj kvs k))) := by
 have e : dpopD (.ref l) [y] Z = some (.ok d, Z.set l (.dct (Jj kvs k))) := by
  dsimp only [dpopD]
  rw [h]
  dsimp only
  rw [hk]
  dsimp only
  rw [hv]
 exact wp_run e
end Mi
namespace Rn
inductive Tel where
 | ht (v : Rat) | st (i : Rat) | sl (g p : Rat)
structure Lw (κ : Type) where
 nm : PySem.Str
 a : κ
 b : κ
 t : Tel
variable {κ : Type} [DecidableEq κ]
def Tel.isH : Tel -> Bool
 | .ht _ => true
 | _ => false
def Tel.isS : Tel -> Bool
 | .st _ => true
 | _ => false
def meets (t : Tel) (u i : Rat) : Prop := match t with
 | .ht v => u = v
 | .st x => i = x
 | .sl g p => i = g * u + p
abbrev Fl := PySem.Str -> Rat
abbrev Hg (κ : Type) := κ -> Rat
def one (F : Fl) (k : κ) (l : Lw κ) : Rat := (if l.a = k then F l.nm else 0) - (if l.b = k then F l.nm else 0)
def out (ls : List (Lw κ)) (F : Fl) (k : κ) : Rat := (ls.map (one F k)).sum
inductive Cn (ls : List (Lw κ)) : κ -> κ -> Prop
 | refl (k : κ) : Cn ls k k
 | fwd {k : κ} {l : Lw κ} : Cn ls k l.a -> l ∈ ls -> Cn ls k l.b
 | bwd {k : κ} {l : Lw κ} : Cn ls k l.b -> l ∈ ls -> Cn ls k l.a
theorem Cn.trans {ls : List (Lw κ)} {x y z : κ} (h : Cn ls x y) (k : Cn ls y z) : Cn ls x z := by
 induction k with
 | refl => exact h
 | fwd _ hl ih => exact .fwd ih hl
 | bwd _ hl ih => exact .bwd ih hl
theorem Cn.symm {ls : List (Lw κ)} {x y : κ} (h : Cn ls x y) : Cn ls y x := by
 induction h with
 | refl => exact .refl _
 | fwd _ hl ih => exact Cn.trans (.bwd (.refl _) hl) ih
 | bwd _ hl ih => exact Cn.trans (.fwd (.refl _) hl) ih
theorem Cn.mono {ls ms : List (Lw κ)} {x y : κ} (h : Cn ls x y) (s : ∀ l ∈ ls, l ∈ ms) : Cn ms x y := by
 induction h with
 | refl => exact .refl _
 | fwd _ hl ih => exact .fwd ih (s _ hl)
 | bwd _ hl ih => exact .bwd ih (s _ hl)
theorem Cn.edge {ls : List (Lw κ)} {l : Lw κ} (h : l ∈ ls) : Cn ls l.a l.b := .fwd (.refl _) h
theorem Cn.keeps {ls : List (Lw κ)} {x y : κ} {H : Hg κ} (h : Cn ls x y) (e : ∀ l ∈ ls, H l.a = H l.b) : H x = H y := by
 induction h with
 | refl => rfl
 | fwd _ hl ih => rw [ih, e _ hl]
 | bwd _ hl ih => rw [ih, <- e _ hl]
inductive Fo : List (Lw κ) -> Prop
 | nil : Fo []
 | cons {l : Lw κ} {ls : List (Lw κ)} : Fo ls -> ¬ Cn ls l.a l.b -> Fo (l :: ls)
structure Sol (K : List κ) (bs : κ) (ls : List (Lw κ)) (H : Hg κ) (F : Fl) : Prop where
 base : H bs = 0
 knot : ∀ k ∈ K, out ls F k = 0
 law : ∀ l ∈ ls, meets l.t (H l.a - H l.b) (F l.nm)
def hts (ls : List (Lw κ)) : List (Lw κ) := ls.filter fun l => l.t.isH
def nst (ls : List (Lw κ)) : List (Lw κ) := ls.filter fun l => !l.t.isS
structure Fine (K : List κ) (bs : κ) (ls : List (Lw κ)) : Prop where
 nd : K.Nodup
 inb : bs ∈ K
 ends : ∀ l ∈ ls, l.a ∈ K /\ l.b ∈ K
 fo : Fo (hts ls).reverse
 lots : ∀ k ∈ K, Cn (nst ls) bs k
 pos : ∀ l ∈ ls, ∀ g p, l.t = .sl g p -> 0 < g
end Rn
namespace Rn
variable {κ : Type} [DecidableEq κ]
structure Pc where
 lo : Option Rat
 hi : Option Rat
 g : Rat
 p : Rat
def Pc.at_ (c : Pc) (u : Rat) : Rat := c.g * u + c.p
structure Bt (ps : List Pc) : Prop where
 ne : 0 < ps.length
 first : ∀ c, ps[0]? = some c -> c.lo = none
 last : ∀ c, ps[ps.length - 1]? = some c -> c.hi = none
 step : ∀ (k : Nat) c d, ps[k]? = some c -> ps[k + 1]? = some d -> ∃ e, c.hi = some e /\ d.lo = some e /\ c.at_ e = d.at_ e
 pos : ∀ c ∈ ps, 0 < c.g
 asc : ∀ c ∈ ps, ∀ e e', c.lo = some e -> c.hi = some e' -> e <= e'
theorem Pc.mono {c : Pc} (h : 0 < c.g) {u v : Rat} (l : u <= v) : c.at_ u <= c.at_ v := by
 unfold Pc.at_
 have := Rat.mul_nonneg (a := c.g) (b := v - u) (Rat.le_of_lt h) (by grind)
 grind
inductive Pn (κ : Type) where
 | str (l : Lw κ)
 | bnt (nm : PySem.Str) (a b : κ) (ps : List Pc)
def Pn.law : Pn κ -> Nat -> Lw κ
 | .str l, _ => l
 | .bnt nm a b ps, k => ⟨nm, a, b, match ps[k]? with
  | some c => .sl c.g c.p
  | none => .sl 1 0⟩
def Pn.many : Pn κ -> Nat
 | .str _ => 1
 | .bnt _ _ _ ps => ps.length
def Pn.ok : Pn κ -> Prop
 | .str _ => True
 | .bnt _ _ _ ps => Bt ps
theorem law_ends (x : Pn κ) (j k : Nat) : (x.law j).nm = (x.law k).nm /\ (x.law j).a = (x.law k).a /\ (x.law j).b = (x.law k).b := by
 cases x <;> exact ⟨rfl, rfl, rfl⟩
end Rn
namespace Rg
open Rn
variable {κ : Type} [DecidableEq κ]
abbrev Up (κ : Type) := κ -> Option (Nat × κ × Int)
structure Sp (κ : Type) where
 fr : κ
 at_ : Nat
 to : κ
 way : Int
inductive Ld (up : Up κ) : κ -> List (Sp κ) -> κ -> Prop
 | root {k : κ} : up k = none -> Ld up k [] k
 | step {k k' r : κ} {a : Nat} {w : Int} {s : List (Sp κ)} : up k = some (a, k', w) -> Ld up k' s r -> Ld up k (⟨k, a, k', w⟩ :: s) r
theorem Ld.fn {up : Up κ} {k r r' : κ} {s s' : List (Sp κ)} (h : Ld up k s r) (h' : Ld up k s' r') : s = s' /\ r = r' := by
 induction h generalizing s' r' with
 | root e =>
  cases h' with
  | root _ => exact ⟨rfl, rfl⟩
  | step e' _ => rw [e] at e'; cases e'
 | step e _ ih =>
  cases h' with
  | root e' => rw [e] at e'; cases e'
  | step e' h' =>
   rw [e] at e'
   cases e'
   obtain ⟨rfl, rfl⟩ := ih h'
   exact ⟨rfl, rfl⟩
theorem Ld.top {up : Up κ} {k r : κ} {s : List (Sp κ)} (h : Ld up k s r) : up r = none := by
 induction h with
 | root e => exact e
 | step _ _ ih => exact ih
theorem Ld.mid {up : Up κ} {k r : κ} {s : List (Sp κ)} (h : Ld up k s r) {p : Sp κ} (hp : p ∈ s) : up p.fr = some (p.at_, p.to, p.way) /\ ∃ s', Ld up p.fr s' r /\ s'.length <= s.length /\ ∃ s'', Ld up p.to s'' r /\ s''.length < s.length := by
 induction h with
 | root _ => cases hp
 | @step k k' r a w s e h ih =>
  rcases mem_cons.mp hp with rfl | hp
  ·exact ⟨e, _, .step e h, XqG, s, h, by simp⟩
  ·obtain ⟨e1, s', h1, l1, s'', h2, l2⟩ := ih hp
   exact ⟨e1, s', h1, by simp; omega, s'', h2, by simp; omega⟩
theorem Ld.nd {up : Up κ} {k r : κ} {s : List (Sp κ)} (h : Ld up k s r) : (s.map Sp.fr ++ [r]).Nodup := by
 induction h with
 | root _ => simp
 | @step k k' r a w s e h ih =>
  rw [map_cons, cons_append, nodup_cons]
  refine ⟨fun hm => ?_, ih⟩
  rcases mem_append.mp hm with hm | hm
  ·obtain ⟨p, hp, e2⟩ := mem_map.mp hm
   obtain ⟨_, s', h1, l1, _⟩ := h.mid hp
   have e2 : p.fr = k := e2
   rw [e2] at h1
   have := (h1.fn (.step e h)).1
   rw [this] at l1
   simp at l1
   omega
  ·have := h.top
   have e3 : k = r := mem_singleton.mp hm
   rw [e3, this] at e
   cases e
def Run (k r : κ) : List (Sp κ) -> Prop
 | [] => k = r
 | p :: s => p.fr = k /\ Run p.to r s
theorem Ld.run {up : Up κ} {k r : κ} {s : List (Sp κ)} (h : Ld up k s r) : Run k r s := by
 induction h with
 | root _ => rfl
 | step _ _ ih => exact ⟨rfl, ih⟩
theorem Run.app {k m r : κ} {s s' : List (Sp κ)} (h : Run k m s) (h' : Run m r s') : Run k r (s ++ s') := by
 induction s generalizing k with
 | nil => have h : k = m := h; rw [h]; exact h'
 | cons p s ih => exact ⟨h.1, ih h.2⟩
theorem Run.part {k r : κ} {s s' : List (Sp κ)} (h : Run k r (s ++ s')) : ∃ m, Run k m s /\ Run m r s' := by
 induction s generalizing k with
 | nil => exact ⟨k, rfl, h⟩
 | cons p s ih =>
  obtain ⟨m, h1, h2⟩ := ih h.2
  exact ⟨m, ⟨h.1, h1⟩, h2⟩
structure Tn (up up' : Up κ) (k : κ) (s : List (Sp κ)) : Prop where
 at0 : up' k = none
 back : ∀ p ∈ s, up' p.to = some (p.at_, p.fr, 0 - p.way)
 oth : ∀ x, x ≠ k -> (∀ p ∈ s, x ≠ p.to) -> up' x = up x
theorem Tn.low {up up' : Up κ} {k r : κ} {s : List (Sp κ)} (h : Ld up k s r) (b : ∀ p ∈ s, up' p.to = some (p.at_, p.fr, 0 - p.way)) (t : ∃ u, Ld up' k u z) : (∀ p ∈ s, (∃ u, Ld up' p.fr u z) /\ ∃ u, Ld up' p.to u z) /\ ∃ u, Ld up' r u z := by
 induction h with
 | root _ => exact ⟨fun p hp => (by cases hp), t⟩
 | @step k k' r a w s e h ih =>
  obtain ⟨u, t⟩ := t
  have t2 : ∃ u, Ld up' k' u z := ⟨_, .step (b ⟨k, a, k', w⟩ (mem_cons_self ..)) t⟩
  obtain ⟨i1, i2⟩ := ih (fun p hp => b p (mem_cons_of_mem _ hp)) t2
  refine ⟨fun p hp => ?_, i2⟩
  rcases mem_cons.mp hp with rfl | hp
  ·exact ⟨⟨u, t⟩, t2⟩
  ·exact i1 p hp
theorem Tn.lead {up up' : Up κ} {k r : κ} {s : List (Sp κ)} (h : Ld up k s r) (t : Tn up up' k s) {x z : κ} {sx : List (Sp κ)} (hx : Ld up x sx z) : ∃ u, Ld up' x u (if z = r then k else z) := by
 have k0 : ∃ u, Ld up' k u k := ⟨[], .root t.at0⟩
 obtain ⟨l1, l2⟩ := Tn.low h t.back k0
 -- what lies on the knot's way
 have on : ∀ {x z : κ} {sx : List (Sp κ)}, Ld up x sx z -> (x = k \/ ∃ p ∈ s, x = p.to) -> z = r /\ ∃ u, Ld up' x u k := by
  intro x z sx hx o
  rcases o with rfl | ⟨p, hp, rfl⟩
  ·exact ⟨(hx.fn h).2, k0⟩
  ·obtain ⟨_, _, _, _, s'', h2, _⟩ := h.mid hp
   exact ⟨(hx.fn h2).2, (l1 p hp).2⟩
 induction hx with
 | @root x e =>
  by_cases o : x = k \/ ∃ p ∈ s, x = p.to
  ·obtain ⟨rfl, u⟩ := on (.root e) o
   rw [if_pos rfl]
   exact u
  ·have e2 : up' x = none := by
    rw [t.oth x (fun z => o (.inl z)) fun p hp z => o (.inr ⟨p, hp, z⟩)]
    exact e
   have : x ≠ r := by
    rintro rfl
    cases h with
    | root _ => exact o (.inl rfl)
    | @step _ k' _ a w s e1 h =>
     refine o (.inr ?_)
     have : ∀ {k k' r : κ} {a : Nat} {w : Int} {s : List (Sp κ)}, Ld up k' s r -> ∃ p ∈ (⟨k, a, k', w⟩ :: s : List (Sp κ)), r = p.to := by
      intro k k' r a w s h
      induction h generalizing k a w with
      | root _ => exact ⟨_, mem_cons_self .., rfl⟩
      | @step k' k'' r a' w' s e h ih =>
       obtain ⟨p, hp, e⟩ := ih (k := k') (a := a') (w := w')
       exact ⟨p, mem_cons_of_mem _ hp, e⟩
     exact this h
   rw [if_neg this]
   exact ⟨[], .root e2⟩
 | @step x x' z a w sx e hx ih =>
  by_cases o : x = k \/ ∃ p ∈ s, x = p.to
  ·obtain ⟨rfl, u⟩ := on (.step e hx) o
   rw [if_pos rfl]
   exact u
  ·have e2 : up' x = some (a, x', w) := by
    rw [t.oth x (fun z => o (.inl z)) fun p hp z => o (.inr ⟨p, hp, z⟩)]
    exact e
   obtain ⟨u, h2⟩ := ih
   exact ⟨_, .step e2 h2⟩
theorem Ld.put {up : Up κ} {k m z : κ} {a : Nat} {w : Int} {sm : List (Sp κ)} (e : up k = none) (hm : Ld up m sm z) (ne : z ≠ k) {x r : κ} {sx : List (Sp κ)} (hx : Ld up x sx r) : ∃ u, Ld (fun y => if y = k then some (a, m, w) else up y) x u (if r = k then z else r) := by
 have oth : ∀ {x r : κ} {sx : List (Sp κ)}, Ld up x sx r -> r ≠ k -> ∃ u, Ld (fun y => if y = k then some (a, m, w) else up y) x u r := by
  intro x r sx hx n
  induction hx with
  | @root x e1 => exact ⟨[], .root (by show (if x = k then some (a, m, w) else up x) = none; rw [if_neg n]; exact e1)⟩
  | @step x x' r b v sx e1 hx ih =>
   obtain ⟨u, h⟩ := ih n
   refine ⟨_, .step (a := b) (w := v) (k' := x') ?_ h⟩
   show (if x = k then some (a, m, w) else up x) = _
   rw [if_neg (by rintro rfl; rw [e] at e1; cases e1)]
   exact e1
 obtain ⟨um, hm'⟩ := oth hm ne
 induction hx with
 | @root x e1 =>
  by_cases n : x = k
  ·rw [if_pos n]
   refine ⟨_, .step (a := a) (w := w) (k' := m) ?_ hm'⟩
   show (if x = k then some (a, m, w) else up x) = _
   rw [if_pos n]
  ·rw [if_neg n]
   exact oth (.root e1) n
 | @step x x' r b v sx e1 hx ih =>
  obtain ⟨u, h⟩ := ih
  refine ⟨_, .step (a := b) (w := v) (k' := x') ?_ h⟩
  show (if x = k then some (a, m, w) else up x) = _
  rw [if_neg (by rintro rfl; rw [e] at e1; cases e1)]
  exact e1
def Wy (ls : List (Lw κ)) (n : Nat) (k : κ) (a : Nat) (k' : κ) (w : Int) : Prop := ∃ l, ls[a]? = some l /\ l.t.isH = true /\ a < n /\ ((w = 1 /\ k = l.a /\ k' = l.b) \/ (w = -1 /\ k = l.b /\ k' = l.a))
open Classical in
noncomputable def closes (ls : List (Lw κ)) (i : Nat) : Bool := match ls[i]? with
 | some l => l.t.isH && decide (Cn (hts (ls.take i)) l.a l.b)
 | none => false
theorem Ld.on {up : Up κ} {k r : κ} {s : List (Sp κ)} (h : Ld up k s r) {x k' : κ} {a : Nat} {w : Int} (o : x = k \/ ∃ p ∈ s, x = p.to) (e : up x = some (a, k', w)) : (⟨x, a, k', w⟩ : Sp κ) ∈ s := by
 induction h with
 | root e1 =>
  rcases o with rfl | ⟨p, hp, _⟩
  ·rw [e1] at e; cases e
  ·cases hp
 | @step k k2 r b v s e1 h ih =>
  rcases o with rfl | ⟨p, hp, rfl⟩
  ·rw [e1] at e
   cases e
   exact mem_cons_self ..
  ·refine mem_cons_of_mem _ (ih ?_)
   rcases mem_cons.mp hp with rfl | hp
   ·exact .inl rfl
   ·exact .inr ⟨p, hp, rfl⟩
theorem Tn.fn {up up1 up2 : Up κ} {k : κ} {s : List (Sp κ)} (h1 : Tn up up1 k s) (h2 : Tn up up2 k s) : up1 = up2 := by
 funext x
 by_cases hk : x = k
 ·rw [hk, h1.at0, h2.at0]
 ·by_cases o : ∃ p ∈ s, x = p.to
  ·obtain ⟨p, hp, rfl⟩ := o
   rw [h1.back p hp, h2.back p hp]
  ·rw [h1.oth x hk fun p hp e => o ⟨p, hp, e⟩, h2.oth x hk fun p hp e => o ⟨p, hp, e⟩]
inductive Bd (ls : List (Lw κ)) : Nat -> Up κ -> Prop
 | zero : Bd ls 0 (fun _ => none)
 | skip {n : Nat} {up : Up κ} {l : Lw κ} : Bd ls n up -> ls[n]? = some l -> l.t.isH ≠ true -> Bd ls (n + 1) up
 | close {n : Nat} {up : Up κ} {l : Lw κ} : Bd ls n up -> ls[n]? = some l -> Cn (hts (ls.take n)) l.a l.b -> Bd ls (n + 1) up
 | join {n : Nat} {up up' : Up κ} {l : Lw κ} {s : List (Sp κ)} {r : κ} : Bd ls n up -> ls[n]? = some l -> l.t.isH = true -> ¬ Cn (hts (ls.take n)) l.a l.b -> Ld up l.a s r -> Tn up up' l.a s -> Bd ls (n + 1) (fun y => if y = l.a then some (n, l.b, 1) else up' y)
theorem Bd.fn {ls : List (Lw κ)} {n : Nat} {up up' : Up κ} (h : Bd ls n up) (h' : Bd ls n up') : up = up' := by
 induction h generalizing up' with
 | zero =>
  cases h'
  rfl
 | skip _ e z ih =>
  cases h' with
  | skip b _ _ => exact ih b
  | close b _ _ => exact ih b
  | join b e2 z2 _ _ _ => rw [e] at e2; cases e2; exact absurd z2 z
 | close _ e c ih =>
  cases h' with
  | skip b _ _ => exact ih b
  | close b _ _ => exact ih b
  | join b e2 _ c2 _ _ => rw [e] at e2; cases e2; exact absurd c c2
 | join _ e z c d t ih =>
  cases h' with
  | skip b e2 z2 => rw [e] at e2; cases e2; exact absurd z z2
  | close b e2 c2 => rw [e] at e2; cases e2; exact absurd c2 c
  | join b e2 _ _ d2 t2 =>
   rw [e] at e2
   cases e2
   have := ih b
   subst this
   obtain ⟨rfl, _⟩ := d.fn d2
   rw [t.fn t2]
structure Gv (ls : List (Lw κ)) (n : Nat) (up : Up κ) : Prop where
 all : ∀ k, ∃ s r, Ld up k s r
 val : ∀ k a k' w, up k = some (a, k', w) -> Wy ls n k a k' w
 cn : ∀ {x y r r' : κ} {s s' : List (Sp κ)}, Ld up x s r -> Ld up y s' r' -> (r = r' ↔ Cn (hts (ls.take n)) x y)
 tree : ∀ i l, i < n -> ls[i]? = some l -> l.t.isH = true -> closes ls i = false -> ∃ k k' w, up k = some (i, k', w)
 bd : Bd ls n up
theorem QS {ls : List (Lw κ)} {n : Nat} {l : Lw κ} (h : ls[n]? = some l) : hts (ls.take (n + 1)) = if l.t.isH = true then hts (ls.take n) ++ [l] else hts (ls.take n) := by
 have e : ls.take (n + 1) = ls.take n ++ [l] := by
  rw [take_succ, h]
  rfl
 unfold hts
 rw [e, filter_append]
 by_cases z : l.t.isH = true
 ·rw [if_pos z]
  simp [z]
 ·rw [if_neg z]
  simp [z]
theorem Wy.up {ls : List (Lw κ)} {n : Nat} {k k' : κ} {a : Nat} {w : Int} (h : Wy ls n k a k' w) : Wy ls (n + 1) k a k' w := by
 obtain ⟨l, h1, h2, h3, h4⟩ := h
 exact ⟨l, h1, h2, ⋯, h4⟩
theorem Gv.skip {ls : List (Lw κ)} {n : Nat} {up : Up κ} {l : Lw κ} (g : Gv ls n up) (h : ls[n]? = some l) (z : l.t.isH ≠ true) : Gv ls (n + 1) up := by
 refine ⟨g.all, fun k a k' w e => (g.val k a k' w e).up, fun h1 h2 => ?_, fun i l2 hi e1 e2 e3 => ?_, .skip g.bd h z⟩
 ·rw [QS h, if_neg z]
  exact g.cn h1 h2
 ·by_cases e : i = n
  ·subst e
   rw [h] at e1
   cases e1
   exact absurd e2 z
  ·exact g.tree i l2 ⋯ e1 e2 e3
theorem Zq4 {ls : List (Lw κ)} {l : Lw κ} {x y : κ} : Cn (ls ++ [l]) x y ↔ Cn ls x y \/ (Cn ls x l.a /\ Cn ls l.b y) \/ (Cn ls x l.b /\ Cn ls l.a y) := by
 constructor
 ·intro c
  induction c with
  | refl => exact .inl (.refl _)
  | @fwd l' _ hl ih =>
   rcases mem_append.mp hl with hl | hl
   ·rcases ih with i | ⟨i, j⟩ | ⟨i, j⟩
    ·exact .inl (.fwd i hl)
    ·exact .inr (.inl ⟨i, .fwd j hl⟩)
    ·exact .inr (.inr ⟨i, .fwd j hl⟩)
   ·cases mem_singleton.mp hl
    rcases ih with i | ⟨i, j⟩ | ⟨i, j⟩
    ·exact .inr (.inl ⟨i, .refl _⟩)
    ·exact .inr (.inl ⟨i, .refl _⟩)
    ·exact .inl i
  | @bwd l' _ hl ih =>
   rcases mem_append.mp hl with hl | hl
   ·rcases ih with i | ⟨i, j⟩ | ⟨i, j⟩
    ·exact .inl (.bwd i hl)
    ·exact .inr (.inl ⟨i, .bwd j hl⟩)
    ·exact .inr (.inr ⟨i, .bwd j hl⟩)
   ·cases mem_singleton.mp hl
    rcases ih with i | ⟨i, j⟩ | ⟨i, j⟩
    ·exact .inr (.inr ⟨i, .refl _⟩)
    ·exact .inl i
    ·exact .inr (.inr ⟨i, .refl _⟩)
 ·have m : ∀ {x y : κ}, Cn ls x y -> Cn (ls ++ [l]) x y := fun c => c.mono fun l h => mem_append_left _ h
  have e : Cn (ls ++ [l]) l.a l.b := .edge (mem_append_right _ (mem_singleton.mpr rfl))
  rintro (c | ⟨c, d⟩ | ⟨c, d⟩)
  ·exact m c
  ·exact (m c).trans (e.trans (m d))
  ·exact (m c).trans (e.symm.trans (m d))
theorem Gv.close {ls : List (Lw κ)} {n : Nat} {up : Up κ} {l : Lw κ} (g : Gv ls n up) (h : ls[n]? = some l) (c : Cn (hts (ls.take n)) l.a l.b) : Gv ls (n + 1) up := by
 refine ⟨g.all, fun k a k' w e => (g.val k a k' w e).up, fun h1 h2 => ?_, fun i l2 hi e1 e2 e3 => ?_, .close g.bd h c⟩
 ·rw [QS h]
  split
  ·rw [Zq4, g.cn h1 h2]
   refine ⟨.inl, ?_⟩
   rintro (i | ⟨i, j⟩ | ⟨i, j⟩)
   ·exact i
   ·exact i.trans (c.trans j)
   ·exact i.trans (c.symm.trans j)
  ·exact g.cn h1 h2
 ·by_cases e : i = n
  ·subst e
   rw [h] at e1
   cases e1
   unfold closes at e3
   rw [h] at e3
   simp only [e2, Bool.true_and, decide_eq_false_iff_not] at e3
   exact absurd c e3
  ·exact g.tree i l2 ⋯ e1 e2 e3
theorem Gv.join {ls : List (Lw κ)} {n : Nat} {up up' : Up κ} {l : Lw κ} {s sb : List (Sp κ)} {r rb : κ} (g : Gv ls n up) (h : ls[n]? = some l) (z : l.t.isH = true) (ha : Ld up l.a s r) (hb : Ld up l.b sb rb) (ne : r ≠ rb) (t : Tn up up' l.a s) : Gv ls (n + 1) (fun y => if y = l.a then some (n, l.b, 1) else up' y) := by
 have far : rb ≠ l.a := fun e => by
  have : up rb = none := hb.top
  rw [e] at this
  exact ne (((Ld.root this).fn ha).2 ▸ e.symm)
 obtain ⟨ub, hb'⟩ := t.lead ha hb
 rw [if_neg (Ne.symm ne)] at hb'
 -- where each leads up to now
 have ld : ∀ {x z : κ} {sx : List (Sp κ)}, Ld up x sx z -> ∃ u, Ld (fun y => if y = l.a then some (n, l.b, 1) else up' y) x u (if z = r then rb else z) := by
  intro x z sx hx
  obtain ⟨u, h1⟩ := t.lead ha hx
  obtain ⟨v, h2⟩ := Ld.put (a := n) (w := 1) t.at0 hb' far h1
  refine ⟨v, ?_⟩
  by_cases e : z = r
  ·rw [if_pos e] at h2 ⊢
   rw [if_pos rfl] at h2
   exact h2
  ·rw [if_neg e] at h2 ⊢
   have : z ≠ l.a := by
    rintro rfl
    exact e ((Ld.root hx.top).fn ha).2
   rw [if_neg this] at h2
   exact h2
 refine ⟨fun k => ?_, fun k a k' w e => ?_, fun {x y r1 r2 s1 s2} h1 h2 => ?_, fun i l2 hi e1 e2 e3 => ?_, .join g.bd h z (fun c => ne ((g.cn ha hb).mpr c)) ha t⟩
 ·obtain ⟨s, z, hz⟩ := g.all k
  obtain ⟨u, hu⟩ := ld hz
  exact ⟨u, _, hu⟩
 ·have e : (if k = l.a then some (n, l.b, 1) else up' k) = some (a, k', w) := e
  by_cases i : k = l.a
  ·rw [if_pos i] at e
   cases e
   exact ⟨l, h, z, ⋯, .inl ⟨rfl, i, rfl⟩⟩
  ·rw [if_neg i] at e
   by_cases o : ∃ p ∈ s, k = p.to
   ·obtain ⟨p, hp, rfl⟩ := o
    rw [t.back p hp] at e
    cases e
    obtain ⟨l2, w1, w2, w3, w4⟩ := g.val _ _ _ _ (ha.mid hp).1
    refine ⟨l2, w1, w2, ⋯, ?_⟩
    rcases w4 with ⟨q1, q2, q3⟩ | ⟨q1, q2, q3⟩
    ·exact .inr ⟨by rw [q1]; rfl, q3, q2⟩
    ·exact .inl ⟨by rw [q1]; rfl, q3, q2⟩
   ·rw [t.oth k i fun p hp e => o ⟨p, hp, e⟩] at e
    exact (g.val _ _ _ _ e).up
 ·obtain ⟨t1, z1, k1⟩ := g.all x
  obtain ⟨t2, z2, k2⟩ := g.all y
  obtain ⟨u1, m1⟩ := ld k1
  obtain ⟨u2, m2⟩ := ld k2
  rw [(h1.fn m1).2, (h2.fn m2).2, QS h, if_pos z, Zq4, <- g.cn k1 k2, <- g.cn k1 ha, <- g.cn hb k2, <- g.cn k1 hb, <- g.cn ha k2]
  by_cases e1 : z1 = r
  ·by_cases e2 : z2 = r
   ·rw [if_pos e1, if_pos e2]
    exact ⟨fun _ => .inl (e1.trans e2.symm), fun _ => rfl⟩
   ·rw [if_pos e1, if_neg e2]
    refine ⟨fun e => .inr (.inl ⟨e1, e⟩), ?_⟩
    rintro (e | ⟨_, e⟩ | ⟨_, e⟩)
    ·exact absurd (e.symm.trans e1) e2
    ·exact e
    ·exact absurd e.symm e2
  ·by_cases e2 : z2 = r
   ·rw [if_neg e1, if_pos e2]
    refine ⟨fun e => .inr (.inr ⟨e, e2.symm⟩), ?_⟩
    rintro (e | ⟨e, _⟩ | ⟨e, _⟩)
    ·exact absurd (e.trans e2) e1
    ·exact absurd e e1
    ·exact e
   ·rw [if_neg e1, if_neg e2]
    refine ⟨.inl, ?_⟩
    rintro (e | ⟨e, _⟩ | ⟨_, e⟩)
    ·exact e
    ·exact absurd e e1
    ·exact absurd e.symm e2
 ·by_cases e : i = n
  ·subst e
   exact ⟨l.a, l.b, 1, by rw [if_pos rfl]⟩
  ·obtain ⟨k, k', w, e4⟩ := g.tree i l2 ⋯ e1 e2 e3
   by_cases o : k = l.a \/ ∃ p ∈ s, k = p.to
   ·have hp := ha.on o e4
    have b := t.back _ hp
    have f : k' ≠ l.a := by
     rintro rfl
     obtain ⟨_, _, _, _, s'', h2, l2⟩ := ha.mid hp
     have := (h2.fn ha).1
     rw [this] at l2
     omega
    exact ⟨k', k, 0 - w, by show (if k' = l.a then _ else up' k') = _; rw [if_neg f]; exact b⟩
   ·have f : k ≠ l.a := fun e => o (.inl e)
    refine ⟨k, k', w, ?_⟩
    show (if k = l.a then _ else up' k) = _
    rw [if_neg f, t.oth k f fun p hp e => o (.inr ⟨p, hp, e⟩)]
    exact e4
noncomputable def closing (ls : List (Lw κ)) (n : Nat) : List Nat := (List.range n).filter (closes ls)
def telV (t : Tel) (w : Int) : Rat := match t with
 | .ht v => if 0 < w then v else 0 - v
 | _ => 0
def stepV (ls : List (Lw κ)) (p : Nat × Int) : Rat := match ls[p.1]? with
 | some l => telV l.t p.2
 | none => 0
theorem Ii {ls : List (Lw κ)} {a : Nat} {w : Int} {l : Lw κ} (h : ls[a]? = some l) : stepV ls (a, w) = telV l.t w := by
 unfold stepV
 dsimp only
 rw [h]
def Ql (ls : List (Lw κ)) (s : List (Nat × Int)) : Rat := (s.map (stepV ls)).sum
def ways (s : List (Sp κ)) : List (Nat × Int) := s.map fun p => (p.at_, p.way)
def Pot (l : Lw κ) (H : Hg κ) : Prop := match l.t with
 | .ht v => H l.a - H l.b = v
 | _ => True
theorem step_pot {ls : List (Lw κ)} {n : Nat} {k k' : κ} {a : Nat} {w : Int} {H : Hg κ} (h : Wy ls n k a k' w) (m : ∀ l, ls[a]? = some l -> Pot l H) : stepV ls (a, w) = H k - H k' := by
 obtain ⟨l, h1, h2, _, h4⟩ := h
 have m := m l h1
 rw [Ii h1]
 unfold Pot at m
 cases e : l.t with
 | ht v =>
  rw [e] at m
  have m : H l.a - H l.b = v := m
  rcases h4 with ⟨rfl, rfl, rfl⟩ | ⟨rfl, rfl, rfl⟩
  ·show (if (0 : Int) < 1 then v else 0 - v) = _
   rw [if_pos ∅, <- m]
  ·show (if (0 : Int) < -1 then v else 0 - v) = _
   rw [if_neg ∅, <- m]
   grind
 | st v => rw [e] at h2; cases h2
 | sl g p => rw [e] at h2; cases h2
theorem Yl {ls : List (Lw κ)} {n : Nat} {H : Hg κ} {k r : κ} {s : List (Sp κ)} (u : Run k r s) (h : ∀ p ∈ s, Wy ls n p.fr p.at_ p.to p.way) (m : ∀ p ∈ s, ∀ l, ls[p.at_]? = some l -> Pot l H) : Ql ls (ways s) = H k - H r := by
 induction s generalizing k with
 | nil =>
  have u : k = r := u
  rw [u]
  show (0 : Rat) = _
  grind
 | cons p s ih =>
  have i := ih u.2 (fun q hq => h q (mem_cons_of_mem _ hq)) (fun q hq => m q (mem_cons_of_mem _ hq))
  have e := step_pot (h p (mem_cons_self ..)) (m p (mem_cons_self ..))
  have : Ql ls (ways (p :: s)) = stepV ls (p.at_, p.way) + Ql ls (ways s) := rfl
  rw [this, i, e, u.1]
  grind
theorem flip_v {ls : List (Lw κ)} {a : Nat} {w : Int} (h : w = 1 \/ w = -1) : stepV ls (a, 0 - w) = 0 - stepV ls (a, w) := by
 cases e : ls[a]? with
 | none =>
  have z : ∀ w, stepV ls (a, w) = 0 := fun w => by
   unfold stepV
   dsimp only
   rw [e]
  rw [z, z]
  grind
 | some l =>
  rw [Ii e, Ii e]
  cases l.t with
  | ht v =>
   rcases h with rfl | rfl
   ·show (if (0 : Int) < 0 - 1 then v else 0 - v) = 0 - (if (0 : Int) < 1 then v else 0 - v)
    rw [if_neg ∅, if_pos ∅]
   ·show (if (0 : Int) < 0 - -1 then v else 0 - v) = 0 - (if (0 : Int) < -1 then v else 0 - v)
    rw [if_pos ∅, if_neg ∅]
    grind
  | st v => show (0 : Rat) = 0 - 0; grind
  | sl g p => show (0 : Rat) = 0 - 0; grind
theorem sum_flip {ls : List (Lw κ)} {s : List (Nat × Int)} (h : ∀ p ∈ s, p.2 = 1 \/ p.2 = -1) : Ql ls (s.reverse.map fun p => (p.1, 0 - p.2)) = 0 - Ql ls s := by
 unfold Ql
 rw [List.map_reverse, List.map_reverse, List.sum_reverse]
 induction s with
 | nil => show (0 : Rat) = 0 - 0; grind
 | cons p s ih =>
  have i := ih fun q hq => h q (mem_cons_of_mem _ hq)
  have e := flip_v (ls := ls) (a := p.1) (h p (mem_cons_self ..))
  simp only [map_cons, sum_cons] at i ⊢
  rw [i, e]
  grind
open Classical in
theorem Gv.pot {ls : List (Lw κ)} {n : Nat} {up : Up κ} (g : Gv ls n up) : ∃ H : Hg κ, ∀ k a k' w, up k = some (a, k', w) -> ∀ l, ls[a]? = some l -> Pot l H := by
 refine ⟨fun k => Ql ls (ways (g.all k).choose), fun k a k' w e l hl => ?_⟩
 obtain ⟨r, hr⟩ := (g.all k).choose_spec
 obtain ⟨r', hr'⟩ := (g.all k').choose_spec
 have e2 := (hr.fn (.step e hr')).1
 obtain ⟨l', h1, h2, h3, h4⟩ := g.val _ _ _ _ e
 rw [h1] at hl
 cases hl
 have e3 : Ql ls (ways (g.all k).choose) = stepV ls (a, w) + Ql ls (ways (g.all k').choose) := by rw [e2]; rfl
 have e4 : stepV ls (a, w) = telV l.t w := Ii h1
 unfold Pot
 cases e5 : l.t with
 | ht v =>
  rw [e5] at e4
  have e4 : stepV ls (a, w) = if 0 < w then v else 0 - v := e4
  show Ql ls (ways (g.all l.a).choose) - Ql ls (ways (g.all l.b).choose) = v
  rcases h4 with ⟨rfl, rfl, rfl⟩ | ⟨rfl, rfl, rfl⟩
  ·rw [if_pos ∅] at e4
   grind
  ·rw [if_neg ∅] at e4
   grind
 | st v => trivial
 | sl g p => trivial
def trR {a : Type} [DecidableEq a] : List a -> List a -> List a × List a
 | x :: xs, y :: ys => if x = y then trR xs ys else (x :: xs, y :: ys)
 | xs, ys => (xs, ys)
def trim {a : Type} [DecidableEq a] (t b : List a) : List a × List a := ((trR t.reverse b.reverse).1.reverse, (trR t.reverse b.reverse).2.reverse)
theorem trR_ex {a : Type} [DecidableEq a] : ∀ (t b : List a), ∃ c, t = c ++ (trR t b).1 /\ b = c ++ (trR t b).2
 | [], b => ⟨[], rfl, rfl⟩
 | x :: xs, [] => ⟨[], rfl, rfl⟩
 | x :: xs, y :: ys => by
  by_cases h : x = y
  ·obtain ⟨c, h1, h2⟩ := trR_ex xs ys
   refine ⟨x :: c, ?_, ?_⟩
   ·rw [show trR (x :: xs) (y :: ys) = trR xs ys by simp [trR, h], cons_append, <- h1]
   ·rw [show trR (x :: xs) (y :: ys) = trR xs ys by simp [trR, h], cons_append, <- h2, h]
  ·exact ⟨[], by simp [trR, h], by simp [trR, h]⟩
theorem trim_ex {a : Type} [DecidableEq a] (t b : List a) : ∃ c, t = (trim t b).1 ++ c /\ b = (trim t b).2 ++ c := by
 obtain ⟨c, h1, h2⟩ := trR_ex t.reverse b.reverse
 refine ⟨c.reverse, ?_, ?_⟩
 ·have := congrArg List.reverse h1
  rw [List.reverse_reverse, List.reverse_append] at this
  exact this
 ·have := congrArg List.reverse h2
  rw [List.reverse_reverse, List.reverse_append] at this
  exact this
instance : DecidableEq (Sp κ) := fun x y => if h : x.fr = y.fr /\ x.at_ = y.at_ /\ x.to = y.to /\ x.way = y.way then isTrue (by cases x; cases y; simp_all) else isFalse (by rintro rfl; simp at h)
def UL (at_ : Nat) (t b : List (Sp κ)) : List (Nat × Int) := (at_, 1) :: (ways (trim t b).1 ++ (ways (trim t b).2).reverse.map fun p => (p.1, 0 - p.2))
theorem ring_sum {ls : List (Lw κ)} {n i : Nat} {up : Up κ} {l : Lw κ} {t b : List (Sp κ)} {r : κ} {H : Hg κ} (g : Gv ls n up) (hl : ls[i]? = some l) (ht : Ld up l.b t r) (hb : Ld up l.a b r) (m : ∀ k a k' w, up k = some (a, k', w) -> ∀ l, ls[a]? = some l -> Pot l H) : Ql ls (UL i t b) = telV l.t 1 - (H l.a - H l.b) := by
 obtain ⟨c, h1, h2⟩ := trim_ex t b
 have r1 := ht.run
 have r2 := hb.run
 have w1 : ∀ p ∈ t, Wy ls n p.fr p.at_ p.to p.way := fun p hp => g.val _ _ _ _ (ht.mid hp).1
 have w2 : ∀ p ∈ b, Wy ls n p.fr p.at_ p.to p.way := fun p hp => g.val _ _ _ _ (hb.mid hp).1
 have m1 : ∀ p ∈ t, ∀ l, ls[p.at_]? = some l -> Pot l H := fun p hp => m _ _ _ _ (ht.mid hp).1
 have m2 : ∀ p ∈ b, ∀ l, ls[p.at_]? = some l -> Pot l H := fun p hp => m _ _ _ _ (hb.mid hp).1
 rw [h1] at r1 w1 m1
 rw [h2] at r2 w2 m2
 obtain ⟨k1, a1, a2⟩ := r1.part
 obtain ⟨k2, b1, b2⟩ := r2.part
 have same : k1 = k2 := by
  cases c with
  | nil => have a2 : k1 = r := a2; have b2 : k2 = r := b2; rw [a2, b2]
  | cons p c => rw [<- a2.1, <- b2.1]
 subst same
 have s1 := Yl a1 (fun p hp => w1 p (mem_append_left _ hp)) (fun p hp => m1 p (mem_append_left _ hp))
 have s2 := Yl b1 (fun p hp => w2 p (mem_append_left _ hp)) (fun p hp => m2 p (mem_append_left _ hp))
 have s3 : Ql ls ((ways (trim t b).2).reverse.map fun p => (p.1, 0 - p.2)) = 0 - Ql ls (ways (trim t b).2) := sum_flip fun p hp => by
  obtain ⟨q, hq, rfl⟩ := mem_map.mp hp
  obtain ⟨_, _, _, _, z⟩ := w2 q (mem_append_left _ hq)
  rcases z with ⟨z, _⟩ | ⟨z, _⟩
  ·exact .inl z
  ·exact .inr z
 have s4 : Ql ls (UL i t b) = telV l.t 1 + (Ql ls (ways (trim t b).1) + Ql ls ((ways (trim t b).2).reverse.map fun p => (p.1, 0 - p.2))) := by
  unfold UL Ql
  rw [map_cons, sum_cons, map_append, List.sum_append, Ii hl]
 rw [s4, s3, s1, s2]
 grind
theorem Gv.fits {ls : List (Lw κ)} {up : Up κ} (g : Gv ls ls.length up) : (∀ i ∈ closing ls ls.length, ∀ l t b r r', ls[i]? = some l -> Ld up l.b t r -> Ld up l.a b r' -> Ql ls (UL i t b) = 0) ↔ ∃ H : Hg κ, ∀ l ∈ ls, Pot l H := by
 have same : ∀ i ∈ closing ls ls.length, ∀ l t b r r', ls[i]? = some l -> Ld up l.b t r -> Ld up l.a b r' -> r = r' := by
  intro i hi l t b r r' hl h1 h2
  obtain ⟨hi1, hi2⟩ := mem_filter.mp hi
  unfold closes at hi2
  rw [hl] at hi2
  simp only [and_eq_true, decide_eq_true_eq] at hi2
  refine ((g.cn h2 h1).mpr ?_).symm
  rw [take_length]
  refine hi2.2.mono fun x hx => ?_
  obtain ⟨x1, x2⟩ := mem_filter.mp hx
  exact mem_filter.mpr ⟨List.mem_of_mem_take x1, x2⟩
 constructor
 ·intro h
  obtain ⟨H, m⟩ := g.pot
  refine ⟨H, fun l hl => ?_⟩
  obtain ⟨i, hi, rfl⟩ := getElem_of_mem hl
  have e : ls[i]? = some ls[i] := getElem?_eq_getElem hi
  by_cases z : ls[i].t.isH = true
  ·by_cases c : closes ls i = true
   ·have hc : i ∈ closing ls ls.length := mem_filter.mpr ⟨List.mem_range.mpr hi, c⟩
    obtain ⟨t, r, ht⟩ := g.all ls[i].b
    obtain ⟨b, r', hb⟩ := g.all ls[i].a
    have s := h i hc _ t b r r' e ht hb
    have := same i hc _ t b r r' e ht hb
    subst this
    rw [ring_sum g e ht hb m] at s
    unfold Pot
    cases e2 : ls[i].t with
    | ht v =>
     rw [e2] at s
     have s : (if (0 : Int) < 1 then v else 0 - v) - (H ls[i].a - H ls[i].b) = 0 := s
     rw [if_pos ∅] at s
     show H ls[i].a - H ls[i].b = v
     grind
    | st v => trivial
    | sl g p => trivial
   ·obtain ⟨k, k', w, e4⟩ := g.tree i _ hi e z (by simpa using c)
    exact m _ _ _ _ e4 _ e
  ·unfold Pot
   cases e2 : ls[i].t with
   | ht v => rw [e2] at z; exact absurd rfl z
   | st v => trivial
   | sl g p => trivial
 ·rintro ⟨H, m⟩ i hi l t b r r' hl h1 h2
  have := same i hi l t b r r' hl h1 h2
  subst this
  rw [ring_sum g hl h1 h2 fun k a k' w e l hl => m l (mem_of_getElem? hl)]
  have := m l (mem_of_getElem? hl)
  obtain ⟨hi1, hi2⟩ := mem_filter.mp hi
  unfold closes at hi2
  rw [hl] at hi2
  simp only [and_eq_true, decide_eq_true_eq] at hi2
  unfold Pot at this
  cases e2 : l.t with
  | ht v =>
   rw [e2] at this
   have this : H l.a - H l.b = v := this
   show (if (0 : Int) < 1 then v else 0 - v) - (H l.a - H l.b) = 0
   rw [if_pos ∅]
   grind
  | st v => rw [e2] at hi2; exact absurd hi2.1 (by simp [Tel.isH])
  | sl g p => rw [e2] at hi2; exact absurd hi2.1 (by simp [Tel.isH])
end Rg
namespace Mi
open PySem L2 PyProof.Rows
section
variable {w : Wk} {g : CG} {f : Env -> M Bool} {a e : Env -> M D} {Y : Env} {Z : List O} {P : D -> List O -> Prop} {E : Ex -> List O -> Prop}
end
end Mi
namespace Mi
open PySem PySem.Spec L2 PyProof.Rows
variable [Tb]
def KEs (K : PySem.W.Frag) : List (Str × D) -> List DictEntry -> Prop
 | [], es => es = []
 | (k, d) :: r, es => ∃ e s, es = e :: s /\ (∃ t, e.key = .str k t) /\ CR K d e.val /\ KEs K r s
theorem KEs.len {K : PySem.W.Frag} : ∀ {r : List (Str × D)} {es : List DictEntry}, KEs K r es -> es.length = r.length
 | [], _, h => by rw [show _ = [] from h]; rfl
 | (k, d) :: r, _, ⟨e, s, q, _, _, g⟩ => by rw [q, length_cons, length_cons, g.len]
section
variable {Kn : Kno} {k : Nat}
end
section
variable {X : Cx}
end
end Mi
namespace Mi
open PySem L2 PyProof.Rows
section
variable {Y : Env} {Z : List O} {P : D -> List O -> Prop} {E : Ex -> List O -> Prop}
end
section
variable {Z : List O} {E : Ex -> List O -> Prop}
end
theorem Uq {a : Type} (φ : a -> Bool) : ∀ ds : List a, Zq7 (ds.map fun d => .bl (φ d)) = some (ds.map φ)
 | [] => rfl
 | d :: ds => by rw [map_cons]; unfold Zq7; rw [Uq φ ds]; rfl
end Mi
namespace Mi
open PySem L2 PyProof.Rows
variable [Tb]
def initOfF (st : Stmt) : Option (Str × Str × Str × Str) := match defBody st with
 | [.Expr (.Call (.Attribute (.Name bn _) m p2) [.Name sf _, .Constant (.str _) _ _] [] p5) _, .Assign [.Attribute (.Name sf2 _) fl _] (.Name pm _) _] => if m = "__init__" /\ (p2.endLine == p5.line) = true /\ sf2 = sf then some (bn, sf, fl, pm) else none
 | _ => none
structure InitStF (st : Stmt) (bn sf fl pm : Str) : Prop where
 body : initOfF st = some (bn, sf, fl, pm)
 sc : FnScope [sf, pm] [sf, pm] (defScope st)
 vis : seen (defScope st) sf = true
 vip : seen (defScope st) pm = true
 glo : (defScope st).names.lookup bn = some .globalImplicit
 us : unmarked sf = true
 up : unmarked pm = true
 ub : unmarked bn = true
structure ExcKF (K : PySem.W.Frag) (mg : Str -> Option Value) (e : Str) (st : Stmt) (bn sf fl pm : Str) : Prop where
 ex : ∃ (C fI B : Addr) (fd : FuncData) (q : Str), mg e = some (.ref C) /\ OexC K C /\ PySem.W.findIn K (.ref C) "__init__" = some (some (.ref fI)) /\ PySem.W.typeIn K (.ref fI) = some (.type "function") /\ Fun K "__init__" q st fI fd /\ Binds K fd [sf, pm] [] /\
  mg bn = some (.ref B) /\ PySem.W.readsIn K B (.type "type") = true /\ PySem.W.specialIn K (.ref B) "__getattribute__" = some (some (.builtin "type.__getattribute__")) /\
  PySem.W.findCls K (.ref B) (.type "type") "__init__" = some (.val (.builtin "ValueError.__init__")) /\ PySem.W.findIn K (.ref C) fl = some none
end Mi
namespace Mi
open PySem L2 PyProof.Rows
variable [Tb]
theorem RepE.clear {K : PySem.W.Frag} {α : List Addr} {H : Hp} {Y : Env} {σ : L2.St} (e : RepE K α H Y σ) (i : Nat) (o : Option V) : RepE K α H (Y.set i (Option.none : Option D)) (σ.set i o) :=
 ⟨by simp [e.len], fun j d' h => by
  by_cases hj : j = i
  ·subst hj
   have hl := (XqB h).1
   rw [length_set] at hl
   rw [getElem?_set_self hl] at h
   cases h
  ·rw [getElem?_set_ne (Ne.symm hj)] at h
   obtain ⟨w, h1, h2⟩ := e.at_ j d' h
   exact ⟨w, by rw [getElem?_set_ne (Ne.symm hj)]; exact h1, h2⟩⟩
inductive Hv where
 | txt (s : Str)
 | non
 | fld (fl : Str)
 | lfld (fl : Str)
end Mi
namespace Mi
open PySem L2 PyProof.Rows
section
variable {Y : Env} {Z : List O} {P : D -> List O -> Prop} {E : Ex -> List O -> Prop} {S : SR -> List O -> Prop}
end
theorem wp_lc_gr {g : CG} {f : Env -> M Bool} {e : Env -> M D} {Y : Env} {Z : List O} {P : D -> List O -> Prop} {E : Ex -> List O -> Prop} {w : Wk} {a : Type} (ds : List a) (c : a -> D) (φ : a -> D) (hz : ds.length <= 1000000) (hf : ds.length <= w.fuel) (src : ∀ i Z', Gr0 Z Z' -> w.get i Z' = some (ds[i]?.map c))
  (step : ∀ d ∈ ds, ∀ Z', Gr0 Z Z' -> ∃ Y1, g.run (c d) Y Z' = some (Y1, Z') /\ Wp (f Y1) Z' (fun b Z2 => b = true /\ Z2 = Z') (fun _ _ => False) /\ Wp (e Y1) Z' (fun y Z3 => y = φ d /\ Gr0 Z' Z3) (fun _ _ => False))
  (q : ∀ Z3, Gr0 Z Z3 -> Z3[Z.length]? = some (.lst (ds.map φ)) -> P (.ref Z.length) Z3) : Wp (lcM w g f e Y) Z P E := by
 have hs := sizeLine_eq
 refine V5 ds.length (fun i acc Z' => i <= ds.length /\ acc = (ds.take i).map φ /\ Gr0 Z Z' /\ Z'[Z.length]? = some (.lst acc)) hf ⟨Nat.zero_le _, by simp, Gr0.app _ _, Ax⟩ ?_ ?_
 ·rintro i acc Z' hi ⟨_, rfl, g1, a1⟩
  obtain ⟨Y1, s1, s2, s3⟩ := step ds[i] (getElem_mem hi) Z' g1
  refine ⟨c ds[i], (by rw [src _ _ g1, getElem?_eq_getElem hi]; rfl), Y1, _, s1, s2.mono ?_ fun _ _ z => z⟩
  rintro b _ ⟨rfl, rfl⟩
  rw [if_pos rfl]
  refine s3.mono ?_ fun _ _ z => z
  rintro y Z3 ⟨rfl, g3⟩
  have a3 := g3.at_ _ _ a1
  refine ⟨_, a3, by rw [length_map, length_take]; omega, hi, ?_, ?_, Ce a3⟩
  ·rw [take_succ, getElem?_eq_getElem hi, map_append]; rfl
  ·exact Gr.off (((g1.trans g3).gr (l := Z.length)).trans (Gr.set _ _ _)) XqG
 ·rintro acc Z' ⟨_, rfl, g1, a1⟩
  rw [take_length] at a1
  exact ⟨by rw [src _ _ g1]; rw [getElem?_eq_none XqG]; rfl, q _ g1 a1⟩
def putsT (acc : List Str) (zs : List Str) : List Str := zs.foldl putT acc
section
variable {Z : List O} {E : Ex -> List O -> Prop}
end
end Mi
namespace Mi
open PySem L2 PyProof.Rows
section
variable {Z : List O} {E : Ex -> List O -> Prop}
end
end Mi
namespace Mi
open PySem L2 PyProof.Rows
variable [Tb]
def tplD : List D -> M D
 | [.ref l] => M.bnd (M.lst l) fun ds => M.ret (.tpl ds)
 | _ => M.stop
theorem ok_tpl : GZ (.type "tuple") tplD := by
 intro X _
 refine ⟨_, Um, ?_⟩
 intro mg E α H Z Z' ds xs q Q s r run aft
 unfold tplD at run
 split at run
 ·obtain ⟨v, vr, e, r1, r2⟩ := r
  cases (show vr = [] from r2)
  subst e
  obtain ⟨xs, h1, run⟩ := Ec run
  obtain ⟨p1, v1, e1, a1, b1, c1⟩ := Dm s r1 h1
  subst e1
  refine ⟨p1, v1, rfl, SqL.of b1, fun l o hl hd => ?_⟩
  cases run
  exact aft α _ _ (Ext.lay hl) (s.lay hl) ⟨l, v1, rfl, ⟨o, upd_same, hd⟩, c1.up (Ext.lay hl)⟩
 ·cases run
mutual
def Rc : D -> D
 | .tup ds => .tup (HF ds)
 | .tpl ds => .tup (HF ds)
 | .non => .non
 | .bl b => .bl b
 | .int i => .int i
 | .str x => .str x
 | .fro ds => .fro ds
 | .ref l => .ref l
 | .fn x => .fn x
def HF : List D -> List D
 | [] => []
 | d :: ds => Rc d :: HF ds
end
mutual
theorem Rep.deep {K : PySem.W.Frag} {α : List Addr} {H : Hp} : ∀ {d : D} {v : V}, Rep K α H d v -> Rep K α H (Rc d) v
 | .tup ds, _, ⟨p, vs, e, t, r⟩ => ⟨p, vs, e, t, Bh.deep r⟩
 | .tpl ds, _, ⟨p, vs, e, t, r⟩ => ⟨p, vs, e, t.sq, Bh.deep r⟩
 | .non, _, r => r
 | .bl _, _, r => r
 | .int _, _, r => r
 | .str _, _, r => r
 | .fro _, _, r => r
 | .ref _, _, r => r
 | .fn _, _, r => r
theorem Bh.deep {K : PySem.W.Frag} {α : List Addr} {H : Hp} : ∀ {ds : List D} {vs : List V}, Bh K α H ds vs -> Bh K α H (HF ds) vs
 | [], _, h => h
 | _ :: _, _, ⟨v, r, e, a, b⟩ => ⟨v, r, e, Rep.deep a, Bh.deep b⟩
end
def X7 (a : CE) : CE := ⟨fun Y => M.bnd (a.run Y) fun d => M.ret (Rc d), a.chk⟩
section
variable {Kn : Kno} {k : Nat}
theorem g_deep {a : CE} (ha : GE Kn k a) : GE Kn k (X7 a) := by
 intro X W cb bs e h
 refine PE.imp (ha X W cb bs e h) ?_
 rintro σ H Q ⟨α, Y, Z, q, Z', g, run, aft⟩
 have run : M.bnd (a.run Y) (fun d => M.ret (Rc d)) Z = some (q, Z') := run
 refine Bp g run aft fun d v α1 H1 Z1 g1 k1 r1 run1 aft1 => ?_
 cases run1
 exact aft1 α1 v H1 (Ext.refl _ _) g1.s r1.deep
end
section
variable {Z : List O} {P : D -> List O -> Prop} {E : Ex -> List O -> Prop} {Y : Env}
omit [Tb]
theorem r_deep {a : CE} : (X7 a).run Y = M.bnd (a.run Y) fun d => M.ret (Rc d) := rfl
theorem o_tplL {l : Nat} : tplD [.ref l] = M.bnd (M.lst l) fun ds => M.ret (.tpl ds) := rfl
end
end Mi
namespace Gq
open PySem L2 PyProof.Rows Mi Std Lq
def Vj : D := (.str "base")
def k_CUT : D := (.str "cut")
def Jc : D := (.str "height")
def Vi : D := (.str "ring")
def JK : D := (.str "slope")
def Jb : D := (.str "stream")
def Ph : D := (.tup [(.int 0), (.int 1)])
def PQ : CB := (Af (Bv (gN 2) (Ft (Aa (Bg (Aa (Ae 0) (Aa (M5 "ZERO" Ph) aNil))) aNil)))
 (Af (Qs (gT (Ak (gN 3) (Ak (gN 4) gsNil)) 2) (iA (Ae 1)) (Af (Bv (gT (Ak (gN 5) (Ak (gN 6) gsNil)) 2) (cIx (Ae 2) (Ie (cInt 1))))
 (Af (CP (cM "list" "append" appD (Ae 2) (Aa (Bg (Aa (Ae 4) (Aa (Am "plus" JZ (Aa (Ae 6) (Aa (Am "times" Du (Aa (Am "minus" Eu (Aa (Ae 5) (Aa (Ae 4) aNil))) (Aa (Ae 3) aNil))) aNil))) aNil))) aNil)))
 bNil)))
 (Af (Cr (Ae 2))
 bNil)))
def JG : List D -> M D := mir 7 2 PQ.run
def PN : CB := (Af (Cr (cB "len" lenD (Aa (cLc (iA (Ae 0)) (gT (Ak (gN 2) (Ak (gN 3) gsNil)) 2) (Xy (X8 (Am "less" Iw (Aa (Ae 2) (Aa (Ae 1) aNil))))) (Ae 2) [("edge", 2), ("slope", 3)]) aNil)))
 bNil)
def Hk : List D -> M D := mir 4 2 PN.run
def Mz : CB := (Af (Bv (gT (Ak (gN 5) (Ak (gN 6) gsNil)) 2) (cIx (Ae 0) (cInt 3)))
 (Af (Bv (gN 1) (Am "lines_of" JG (Aa (Ae 5) (Aa (Ae 6) aNil))))
 (Af (Bv (gN 2) (cIx (cIx (Ae 1) (Am "piece_of" Hk (Aa (Ae 6) (Aa (M5 "ZERO" Ph) aNil)))) (cInt 1)))
 (Af (Bv (gN 3) (Az .Add addD (Az .Add addD (Ft (Aa cNon aNil)) (cLc (iA (Ae 6)) (gT (Ak (gN 11) (Ak (gN 9) gsNil)) 2) fNil (Ae 11) [("edge", 11), ("slope", 9)])) (Ft (Aa cNon aNil))))
 (Af (Bv (gN 4) (Ft aNil))
 (Af (Qs (gT (Ak (gN 7) (Ak (gN 8) (Ak (gT (Ak (gN 9) (Ak (gN 10) gsNil)) 2) gsNil))) 3) (iZp3 (Ae 3) (Gx (Ae 3) (YW (cInt 1)) oNo) (Ae 1)) (Af (CP (cM "list" "append" appD (Ae 4) (Aa (Bg (Aa (Ae 7) (Aa (Ae 8) (Aa (Ae 9) (Aa (Am "minus" Eu (Aa (Ae 10) (Aa (Ae 2) aNil))) aNil))))) aNil)))
 bNil))
 (Af (Cr (cB "tuple" tupleD (Aa (Ae 4) aNil)))
 bNil)))))))
def HX : List D -> M D := mir 12 1 Mz.run
def Vv : CB := (Af (Bv (gN 1) (M5 "NOUGHT" k_NOUGHT))
 (Af (Qs (gN 2) (iA (Ae 0)) (Af (Bv (gN 1) (Am "plus" JZ (Aa (Ae 1) (Aa (Ae 2) aNil))))
 bNil))
 (Af (Cr (Ae 1))
 bNil)))
def Ve : List D -> M D := mir 3 1 Vv.run
def Gu : CB := (Af (Bv (gN 2) (Ft aNil))
 (Af (FJ (fun _ => 100) (Ba .In (inD false) (Ae 1) (cFld "Grove" "ups" (Ae 0))) (Af (Bv (gT (Ak (gN 3) (Ak (gN 4) (Ak (gN 5) gsNil))) 3) (cIx (cFld "Grove" "ups" (Ae 0)) (Ae 1)))
 (Af (CP (cM "list" "append" appD (Ae 2) (Aa (Bg (Aa (Ae 1) (Aa (Ae 3) (Aa (Ae 4) (Aa (Ae 5) aNil))))) aNil)))
 (Af (Bv (gN 1) (Ae 4))
 bNil))))
 (Af (Cr (Ae 2))
 bNil)))
def Eb : List D -> M D := mir 6 2 Gu.run
def FT : CB := (Af (Bv (gN 2) (cMeth "Grove" "way_up" Eb (Ae 0) (Aa (Ae 1) aNil)))
 (Af (Qs (gT (Ak (gN 3) (Ak (gN 4) (Ak (gN 5) (Ak (gN 6) gsNil)))) 4) (iA (Ae 2)) (Af (CP (cM "dict" "pop" dpopD (cFld "Grove" "ups" (Ae 0)) (Aa (Ae 3) aNil)))
 bNil))
 (Af (Qs (gT (Ak (gN 3) (Ak (gN 4) (Ak (gN 5) (Ak (gN 6) gsNil)))) 4) (iA (Ae 2)) (Af (Bv (gS (cFld "Grove" "ups" (Ae 0)) (Ae 5)) (Bg (Aa (Ae 4) (Aa (Ae 3) (Aa (Az .Sub subD (cInt 0) (Ae 6)) aNil)))))
 bNil))
 bNil)))
def FQ : List D -> M D := mir 7 2 FT.run
def Gk : CB := (Af (Bv (gT (Ak (gN 2) (Ak (gN 3) (Ak (gN 4) (Ak (gN 5) gsNil)))) 4) (Ae 0))
 (Af (sIf (Ba .Eq eqD (Ae 2) (cStr "bent")) (Af (Bv (gT (Ak (gN 6) (Ak (gN 7) (Ak (gN 8) (Ak (gN 9) gsNil)))) 4) (cIx (Am "pieces_of" HX (Aa (Ae 0) aNil)) (Ae 1)))
 (Af (Cr (Bg (Aa (Ae 3) (Aa (Ae 4) (Aa (Bg (Aa (M5 "SLOPE_papers" JK) (Aa (Ae 8) (Aa (Ae 9) aNil)))) aNil)))))
 bNil)) bNil)
 (Af (sIf (Ba .Eq eqD (Ae 2) (cStr "resist")) (Af (Cr (Bg (Aa (Ae 3) (Aa (Ae 4) (Aa (Bg (Aa (M5 "SLOPE_papers" JK) (Aa (Am "over" Gp (Aa (M5 "ONE" k_ONE) (Aa (cIx (Ae 5) (cInt 0)) aNil))) (Aa (M5 "NOUGHT" k_NOUGHT) aNil)))) aNil)))))
 bNil) bNil)
 (Af (sIf (wOr (Ba .Eq eqD (Ae 2) (cStr "height")) (wOr1 (Ba .Eq eqD (Ae 2) (cStr "stream")))) (Af (Cr (Bg (Aa (Ae 3) (Aa (Ae 4) (Aa (Bg (Aa (Ae 2) (Aa (cIx (Ae 5) (cInt 0)) aNil))) aNil)))))
 bNil) bNil)
 (Af (sIf (wOr (Ba .Eq eqD (Ae 2) (cStr "coil")) (wOr1 (Tt (Ba .NotEq neD (Ae 2) (cStr "keep")) (HQ (X8 (cIx (Ae 5) (Ie (cInt 1)))))))) (Af (Cr (Bg (Aa (Ae 3) (Aa (Ae 4) (Aa (Bg (Aa (M5 "HEIGHT" Jc) (Aa (M5 "NOUGHT" k_NOUGHT) aNil))) aNil)))))
 bNil) bNil)
 (Af (Cr (Bg (Aa (Ae 3) (Aa (Ae 4) (Aa (Bg (Aa (M5 "STREAM" Jb) (Aa (M5 "NOUGHT" k_NOUGHT) aNil))) aNil)))))
 bNil))))))
def Bm : List D -> M D := mir 10 2 Gk.run
end Gq
namespace Rz
open Le
theorem Vc {a : Type} [DecidableEq a] : ∀ {l m : List a}, l.Nodup -> (∀ x ∈ l, x ∈ m) -> l.length <= m.length
 | [], m, _, _ => Nat.zero_le _
 | x :: r, m, h, k => by
  have h' := nodup_cons.mp h
  have hx := k x mem_cons_self
  have ih := Vc (l := r) (m := m.erase x) h'.2 fun y hy => by
   have ne : y ≠ x := fun e => h'.1 (e ▸ hy)
   exact (List.mem_erase_of_ne ne).mpr (k y (mem_cons_of_mem _ hy))
  rw [List.length_erase_of_mem hx] at ih
  have : 0 < m.length := List.length_pos_of_mem hx
  rw [length_cons]
  omega
theorem pigeon {a b : Type} [DecidableEq b] {f : a -> b} {A : List a} {B : List b} (hA : A.Nodup) (hl : B.length < A.length) (hf : ∀ x ∈ A, f x ∈ B) : ∃ x ∈ A, ∃ y ∈ A, x ≠ y /\ f x = f y := by
 refine Classical.byContradiction fun n => ?_
 have inj : ∀ x ∈ A, ∀ y ∈ A, f x = f y -> x = y := fun x hx y hy e => Classical.byContradiction fun ne => n ⟨x, hx, y, hy, ne, e⟩
 have nd : (A.map f).Nodup := by
  have go : ∀ l : List a, l.Nodup -> (∀ x ∈ l, x ∈ A) -> (l.map f).Nodup := by
   intro l
   induction l with
   | nil => intro _ _; exact nodup_nil
   | cons x r ih =>
    intro h hs
    have h' := nodup_cons.mp h
    refine nodup_cons.mpr ⟨fun hm => ?_, ih h'.2 fun y hy => hs y (mem_cons_of_mem _ hy)⟩
    obtain ⟨y, hy, e⟩ := mem_map.mp hm
    have := inj y (hs y (mem_cons_of_mem _ hy)) x (hs x mem_cons_self) e
    exact h'.1 (this ▸ hy)
  exact go A hA fun _ h => h
 have := Vc nd fun x hx => by
  obtain ⟨y, hy, rfl⟩ := mem_map.mp hx
  exact hf y hy
 rw [length_map] at this
 omega
def box (m : Nat) : Nat -> List (List Nat)
 | 0 => [[]]
 | n + 1 => (List.range m).flatMap fun x => (box m n).map (x :: ·)
theorem JF {m : Nat} : ∀ {n : Nat} {v : List Nat}, v ∈ box m n ↔ v.length = n /\ ∀ x ∈ v, x < m
 | 0, v => by
  unfold box
  rw [mem_singleton]
  constructor
  ·rintro rfl; exact ⟨rfl, fun x h => nomatch h⟩
  ·rintro ⟨h, _⟩; exact List.length_eq_zero_iff.mp h
 | n + 1, v => by
  unfold box
  rw [List.mem_flatMap]
  constructor
  ·rintro ⟨x, hx, hv⟩
   obtain ⟨u, hu, rfl⟩ := mem_map.mp hv
   obtain ⟨h1, h2⟩ := JF.mp hu
   refine ⟨by rw [length_cons, h1], fun y hy => ?_⟩
   rcases mem_cons.mp hy with e | hy
   ·rw [e]; exact List.mem_range.mp hx
   ·exact h2 y hy
  ·rintro ⟨h1, h2⟩
   cases v with
   | nil => cases h1
   | cons x u =>
    refine ⟨x, List.mem_range.mpr (h2 x mem_cons_self), mem_map.mpr ⟨u, JF.mpr ⟨by simpa using h1, fun y hy => h2 y (mem_cons_of_mem _ hy)⟩, rfl⟩⟩
theorem Th {m : Nat} : ∀ n, (box m n).Nodup
 | 0 => by unfold box; exact nodup_cons.mpr ⟨by simp, nodup_nil⟩
 | n + 1 => by
  unfold box
  have ih := Th (m := m) n
  have go : ∀ l : List Nat, l.Nodup -> (l.flatMap fun x => (box m n).map (x :: ·)).Nodup := by
   intro l
   induction l with
   | nil => intro _; exact nodup_nil
   | cons x r ihr =>
    intro h
    have h' := nodup_cons.mp h
    rw [List.flatMap_cons]
    refine nodup_append.mpr ⟨?_, ihr h'.2, fun a ha b hb e => ?_⟩
    ·have g2 : ∀ l : List (List Nat), l.Nodup -> (l.map (x :: ·)).Nodup := by
      intro l
      induction l with
      | nil => intro _; exact nodup_nil
      | cons u r ihu =>
       intro h
       have h' := nodup_cons.mp h
       refine nodup_cons.mpr ⟨fun hm => ?_, ihu h'.2⟩
       obtain ⟨w, hw, e⟩ := mem_map.mp hm
       injection e with _ e
       exact h'.1 (e ▸ hw)
     exact g2 _ ih
    ·obtain ⟨u, _, rfl⟩ := mem_map.mp ha
     obtain ⟨y, hy, hb⟩ := List.mem_flatMap.mp hb
     obtain ⟨w, _, rfl⟩ := mem_map.mp hb
     injection e with e _
     exact h'.1 (e ▸ hy)
  exact go _ List.nodup_range
theorem Uo {m : Nat} : ∀ n, (box m n).length = m ^ n
 | 0 => rfl
 | n + 1 => by
  unfold box
  have ih := Uo (m := m) n
  have go : ∀ l : List Nat, (l.flatMap fun x => (box m n).map (x :: ·)).length = l.length * m ^ n := by
   intro l
   induction l with
   | nil => simp
   | cons x r ihr => rw [List.flatMap_cons, length_append, length_map, ih, ihr, length_cons, Nat.succ_mul, Nat.add_comm]
  rw [go, List.length_range, Nat.pow_succ, Nat.mul_comm]
def iz : List Int -> List Int -> Int
 | x :: r, y :: v => x * y + iz r v
 | _, _ => 0
theorem iz_sub : ∀ {r v u : List Int}, v.length = u.length -> iz r (zipWith (· - ·) v u) = iz r v - iz r u
 | [], v, u, _ => by simp [iz]
 | x :: r, [], [], _ => by simp [iz]
 | x :: r, y :: v, z :: u, h => by
  have ih := iz_sub (r := r) (v := v) (u := u) (by simpa using h)
  rw [List.zipWith_cons_cons]
  unfold iz
  rw [ih, Int.mul_sub]
  omega
theorem Vk {N B : Nat} : ∀ {r v : List Int}, (∀ x ∈ r, x.natAbs <= N) -> (∀ y ∈ v, y.natAbs <= B) -> (iz r v).natAbs <= v.length * (N * B)
 | [], v, _, _ => by simp [iz]
 | x :: r, [], _, _ => by simp [iz]
 | x :: r, y :: v, h, k => by
  have ih := Vk (N := N) (B := B) (r := r) (v := v) (fun z hz => h z (mem_cons_of_mem _ hz)) (fun z hz => k z (mem_cons_of_mem _ hz))
  have h1 : (x * y).natAbs <= N * B := by
   rw [Int.natAbs_mul]
   exact Nat.mul_le_mul (h x mem_cons_self) (k y mem_cons_self)
  have h2 : (iz (x :: r) (y :: v)).natAbs <= (x * y).natAbs + (iz r v).natAbs := by
   show (x * y + iz r v).natAbs <= _
   exact Int.natAbs_add_le _ _
  rw [length_cons, Nat.succ_mul]
  omega
theorem siegel {N k : Nat} (hN : 0 < N) {rows : List (List Int)} (hk : rows.length = k) (hr : ∀ r ∈ rows, ∀ x ∈ r, x.natAbs <= N) :
  ∃ v : List Int, v.length = k + 1 /\ (∃ x ∈ v, x ≠ 0) /\ (∀ x ∈ v, x.natAbs <= (2 * ((k + 1) * N)) ^ k) /\ ∀ r ∈ rows, iz r v = 0 := by
 generalize hB : (2 * ((k + 1) * N)) ^ k = B
 generalize hS : (k + 1) * (N * B) = S
 let f : List Nat -> List Nat := fun v => rows.map fun r => (iz r (v.map Int.ofNat) + S).toNat
 have key : ((2 * S + 1)) ^ k < (B + 1) ^ (k + 1) := by
  have h1 : 2 * S + 1 <= (2 * ((k + 1) * N)) * (B + 1) := by
   rw [<- hS, Nat.mul_add, Nat.mul_one]
   have : 2 * ((k + 1) * (N * B)) = 2 * ((k + 1) * N) * B := by rw [Nat.mul_assoc 2, Nat.mul_assoc (k + 1)]
   rw [this]
   have : 0 < (k + 1) * N := Nat.mul_pos ⋯ hN
   omega
  calc (2 * S + 1) ^ k <= (2 * ((k + 1) * N) * (B + 1)) ^ k := Nat.pow_le_pow_left h1 k
   _ = B * (B + 1) ^ k := by rw [Nat.mul_pow, hB]
   _ < (B + 1) * (B + 1) ^ k := Nat.mul_lt_mul_of_pos_right ⋯ (Nat.pow_pos ⋯)
   _ = (B + 1) ^ (k + 1) := by rw [Nat.pow_succ, Nat.mul_comm]
 have bnd : ∀ v ∈ box (B + 1) (k + 1), ∀ r ∈ rows, (iz r (v.map Int.ofNat)).natAbs <= S := by
  intro v hv r hr'
  obtain ⟨h1, h2⟩ := JF.mp hv
  have := Vk (N := N) (B := B) (r := r) (v := v.map Int.ofNat) (hr r hr') fun y hy => by
   obtain ⟨z, hz, rfl⟩ := mem_map.mp hy
   have := h2 z hz
   show (Int.ofNat z).natAbs <= B
   simp
   omega
  rw [length_map, h1, hS] at this
  exact this
 obtain ⟨v, hv, u, hu, ne, e⟩ := pigeon (f := f) (A := box (B + 1) (k + 1)) (B := box (2 * S + 1) k) (Th _) (by rw [Uo, Uo]; exact key) (fun v hv => by
  refine JF.mpr ⟨by show (rows.map _).length = k; rw [length_map, hk], fun x hx => ?_⟩
  obtain ⟨r, hr', rfl⟩ := mem_map.mp hx
  have := bnd v hv r hr'
  omega)
 obtain ⟨lv, bv⟩ := JF.mp hv
 obtain ⟨lu, bu⟩ := JF.mp hu
 refine ⟨zipWith (· - ·) (v.map Int.ofNat) (u.map Int.ofNat), by simp [lv, lu], ?_, ?_, fun r hr' => ?_⟩
 ·refine Classical.byContradiction fun n => ne ?_
  have go : ∀ (v u : List Nat), v.length = u.length -> (∀ x ∈ zipWith (· - ·) (v.map Int.ofNat) (u.map Int.ofNat), x = 0) -> v = u := by
   intro v
   induction v with
   | nil => intro u h _; exact (List.length_eq_zero_iff.mp h.symm).symm
   | cons x r ih =>
    intro u h hz
    cases u with
    | nil => cases h
    | cons y s =>
     rw [map_cons, map_cons, List.zipWith_cons_cons] at hz
     have h1 := hz _ mem_cons_self
     have h2 := ih s (by simpa using h) fun x hx => hz x (mem_cons_of_mem _ hx)
     have h3 : x = y := by
      have : (Int.ofNat x : Int) - Int.ofNat y = 0 := h1
      simp only [Int.ofNat_eq_natCast] at this
      omega
     rw [h2, h3]
  exact go v u (by rw [lv, lu]) fun x hx => Classical.byContradiction fun hne => n ⟨x, hx, hne⟩
 ·intro x hx
  obtain ⟨i, hi, rfl⟩ := getElem_of_mem hx
  rw [List.getElem_zipWith, List.getElem_map, List.getElem_map]
  rw [List.length_zipWith, length_map, length_map] at hi
  have h1 := bv _ (getElem_mem (l := v) (n := i) ⋯)
  have h2 := bu _ (getElem_mem (l := u) (n := i) ⋯)
  simp only [Int.ofNat_eq_natCast]
  omega
 ·rw [iz_sub (by rw [length_map, length_map, lv, lu])]
  have h1 := bnd v hv r hr'
  have h2 := bnd u hu r hr'
  have h3 : (iz r (v.map Int.ofNat) + S).toNat = (iz r (u.map Int.ofNat) + S).toNat := by
   obtain ⟨i, hi, rfl⟩ := getElem_of_mem hr'
   have := congrArg (fun l => l[i]?) e
   simpa [f, getElem?_map, getElem?_eq_getElem hi] using this
  omega
end Rz
namespace Rz
open Le
structure Use (A0 : List Row) (π : List Nat) (A : List Row) (L : List Nat) : Prop where
 pin : ∀ i, i < A0.length -> π.getD i 0 < A0.length
 pl : π.length = A0.length
 led : ∀ v, (∀ m, m < L.length -> dot (rowAt A0 (π.getD m 0)) v = 0) -> ∀ i, i < L.length -> dot (rowAt A i) v = 0
 low : ∀ v, (∀ m, m < L.length -> dot (rowAt A0 (π.getD m 0)) v = 0) -> ∀ i, L.length <= i -> i < A0.length -> dot (rowAt A i) v = dot (rowAt A0 (π.getD i 0)) v
def place : List Nat -> List Rat -> Row -> Row
 | c :: cs, x :: xs, V => place cs xs (V.set c x)
 | _, _, V => V
structure Int_ (N : Nat) (r : Row) (D : Int) (z : Nat -> Int) : Prop where
 ne : D ≠ 0
 dN : D.natAbs <= N
 at_ : ∀ c, r.getD c 0 * (D : Rat) = (z c : Rat)
 zN : ∀ c, (z c).natAbs <= N
def Qb (X Y_ : Nat) (e : Rat) : Prop := ∃ a b : Int, b ≠ 0 /\ e * (b : Rat) = (a : Rat) /\ a.natAbs <= X /\ b.natAbs <= Y_
theorem Qb.up {X Y_ X' Yq' : Nat} {e : Rat} (h : Qb X Y_ e) (hx : X <= X') (hy : Y_ <= Yq') : Qb X' Yq' e := by
 obtain ⟨a, b, h1, h2, h3, h4⟩ := h
 exact ⟨a, b, h1, h2, ⋯, ⋯⟩
end Rz
namespace Lq
open PySem L2 PyProof.Rows Mi Std Le
open Rz
end Lq
namespace Mi
open PySem L2 PyProof.Rows
section
variable {g : CG} {b : CB} {n i l m : Nat} {Y : Env} {Z : List O} {S : SR -> List O -> Prop} {w : Wk}
end
end Mi
namespace Mi
open PySem L2 PyProof.Rows
end Mi
namespace Mi
open PySem L2 PyProof.Rows
end Mi
namespace Mi
open PySem L2 PyProof.Rows
variable [Tb]
def gL (r : CGs) (n : Nat) : CG := ⟨fun d Y Z => match d with
 | .ref l => match Z[l]? with
  | some (.lst ds) => if ds.length = n then r.run ds Y Z else none
  | _ => none
 | _ => none, fun I e => match e with
 | .Tuple es _ _ => decide (es.length = n) && (es.all noStar && r.chk I es)
 | _ => false⟩
section
variable {Kn : Kno} {k : Nat}
theorem g_gL {r : CGs} {n : Nat} (hr : GGs Kn k r) : GG Kn k (gL r n) := by
 intro X W cb b e h
 dsimp only [gL] at h
 split at h
 ·simp only [and_eq_true, decide_eq_true_eq] at h
  obtain ⟨h1, h2, h3⟩ := h
  obtain ⟨l1, l2⟩ := Ri (env := X.env) h2
  refine PG.imp (pg_lst (n := n) b.calm (hr X W cb b _ h3) (l1.trans h1) l2) ?_
  rintro v σ H Q ⟨α, Y, Z, d, Y', Z', g, w, run, q⟩
  cases d with
  | ref l =>
   dsimp only [gL] at run
   cases hm : Z[l]? with
   | none => rw [hm] at run; cases run
   | some o =>
    rw [hm] at run
    cases o with
    | lst ds =>
     dsimp only at run
     split at run
     ·rename_i hl
      obtain ⟨p, vs, e, _, t, w2⟩ := Dm g.s w hm
      exact ⟨p, vs, e, SqL.of t, w2.len.trans hl, α, Y, Z, ds, Y', Z', g, w2, run, q⟩
     ·cases run
    | _ => cases run
  | _ => cases run
 ·cases h
end
theorem ws_asgL {g : CGs} {n : Nat} {a : CE} {Y : Env} {Z : List O} {S : SR -> List O -> Prop} (h : Wp (a.run Y) Z (fun d Z' => ∃ l ds, d = .ref l /\ Z'[l]? = some (.lst ds) /\ ds.length = n /\ ∃ Y1 Z1, g.run ds Y Z' = some (Y1, Z1) /\ S (.nx Y1) Z1) (fun x Z' => S (.er x Y) Z')) : Ws ((Bv (gL g n) a).run Y) Z S := by
 rw [s_asg, K6]
 refine h.mono ?_ fun _ _ z => z
 rintro d Z' ⟨l, ds, rfl, hm, hl, Y1, Z1, e, q⟩
 refine ⟨.nx Y1, Z1, ?_, q⟩
 dsimp only [gL]
 rw [hm]
 dsimp only
 rw [if_pos hl, e]
end Mi
namespace Lw
open Std hiding c_l_sum BJ Dr Ew
open PySem L2 PyProof.Rows Mi Le Lq
end Lw
namespace Lw
open Std hiding c_l_sum BJ Dr Ew
open PySem L2 PyProof.Rows Mi Le Lq
open Rz (iz siegel)
end Lw
namespace Mi
open PySem L2 PyProof.Rows
mutual
def Tj (K : PySem.W.Frag) : D -> Value -> Bool
 | .non, .none => true
 | .bl b, .bool c => b == c
 | .int i, .int j _ => i == j
 | .str x, .str y _ => x == y
 | .tup ds, .ref a => match K.lookup a with
  | some ⟨.type c, _, .seq its _, _⟩ => c == "tuple" && (Nat.ble its.size 1000 && valsB K ds its.toList)
  | _ => false
 | _, _ => false
def valsB (K : PySem.W.Frag) : List D -> List Value -> Bool
 | [], [] => true
 | d :: ds, u :: us => Tj K d u && valsB K ds us
 | _, _ => false
end
section
variable [Tb] {K : PySem.W.Frag}
mutual
theorem Yc : ∀ {d : D} {u : Value}, Tj K d u = true -> CR K d u
 | .non, u, h => by cases u <;> first | exact cr_non | exact absurd h (by unfold Tj; exact Bool.false_ne_true)
 | .bl b, u, h => by
  cases u with
  | bool c =>
   unfold Tj at h
   rw [beq_iff_eq] at h
   subst h
   exact cr_bl
  | _ => exact absurd h (by unfold Tj; exact Bool.false_ne_true)
 | .int b, u, h => by
  cases u with
  | int c t =>
   unfold Tj at h
   rw [beq_iff_eq] at h
   subst h
   exact cr_int
  | _ => exact absurd h (by unfold Tj; exact Bool.false_ne_true)
 | .str b, u, h => by
  cases u with
  | str c t =>
   unfold Tj at h
   rw [beq_iff_eq] at h
   subst h
   exact cr_str
  | _ => exact absurd h (by unfold Tj; exact Bool.false_ne_true)
 | .tup ds, u, h => by
  cases u with
  | ref a =>
   unfold Tj at h
   split at h
   ·rename_i c od its n sl e
    rw [and_eq_true, and_eq_true, beq_iff_eq] at h
    obtain ⟨rfl, h1, h2⟩ := h
    exact cr_tup e (Nat.le_of_ble_eq_true h1) (valsB_ok h2)
   ·cases h
  | _ => exact absurd h (by unfold Tj; exact Bool.false_ne_true)
 | .fro ds, u, h => by cases u <;> exact absurd h (by unfold Tj; exact Bool.false_ne_true)
 | .ref l, u, h => by cases u <;> exact absurd h (by unfold Tj; exact Bool.false_ne_true)
 | .fn x, u, h => by cases u <;> exact absurd h (by unfold Tj; exact Bool.false_ne_true)
 | .tpl ds, u, h => by cases u <;> exact absurd h (by unfold Tj; exact Bool.false_ne_true)
theorem valsB_ok : ∀ {ds : List D} {us : List Value}, valsB K ds us = true -> CRs K ds us
 | [], [], _ => crs_nil
 | [], _ :: _, h => by unfold valsB at h; cases h
 | _ :: _, [], h => by unfold valsB at h; cases h
 | d :: ds, u :: us, h => by
  unfold valsB at h
  rw [and_eq_true] at h
  exact crs_cons (Yc h.1) (valsB_ok h.2)
end
end
def conB (K : PySem.W.Frag) (c : Str × D) : Bool := match PySem.W.nsIn K mainGlobals c.1 with
 | some (some u) => Tj K c.2 u
 | _ => false
theorem conB_ok [Tb] {K : PySem.W.Frag} {h : Heap} {mg : Str -> Option Value} (X : K.In h) (G : h.Ns mainGlobals mg) {x : Str} {d : D} (c : conB K (x, d) = true) : ∃ u, mg x = some u /\ CR K d u := by
 unfold conB at c
 split at c
 ·rename_i u e
  exact ⟨u, PySem.W.mg_of X G e, Yc c⟩
 ·cases c
abbrev AlM : Type := He.Al × Bool
def obsK (fa : List He.Fa) (fn : List He.FnD) (cs : List (Str × D)) (K : PySem.W.Frag) : AlM := (He.obsE fa fn K, cs.all (conB K))
def frontG (g : Addr -> Option Obj) : Nat -> List Addr -> List Addr
 | 0, as => as
 | n + 1, as => as ++ frontG g n (as.flatMap fun a => match g a with
  | some o => He.refsO o
  | none => [])
def obsM (n : Nat) (fa : List He.Fa) (fn : List He.FnD) (cs : List (Str × D)) (g : Addr -> Option Obj) : AlM := obsK fa fn cs (He.frG g (frontG g n [mainGlobals]))
structure SaysM (fa : List He.Fa) (fn : List He.FnD) (cs : List (Str × D)) (K : PySem.W.Frag) : Prop where
 e : He.SaysE fa fn K
 c : cs.all (conB K) = true
def hookM (n : Nat) (fa : List He.Fa) (fn : List He.FnD) (cs : List (Str × D)) : PySem.W.Hook where
 α := AlM
 obs := fun s => obsM n fa fn cs s.heap.get?
 val := fun _ => (He.valE fn, true)
 says := fun _ h => ∃ K : PySem.W.Frag, K.In h /\ SaysM fa fn cs K
 of := fun _ _ e => ⟨_, He.frG_in, congrArg (fun z : AlM => z.1) e, congrArg (fun z : AlM => z.2) e⟩
 keeps := fun _ _ _ ⟨K, hK, c⟩ k => ⟨K, PySem.W.Frag.In.keeps hK k, c⟩
theorem obsM_eq {n : Nat} {fa : List He.Fa} {fn : List He.FnD} {cs : List (Str × D)} {g : Addr -> Option Obj} {s : Shared} (h : ∀ a, g a = s.heap.get? a) : obsM n fa fn cs g = (hookM n fa fn cs).obs s := by
 have e : g = s.heap.get? := funext h
 rw [e] <;> rfl
section
variable {fa : List He.Fa} {fn : List He.FnD} {cs : List (Str × D)} {K : PySem.W.Frag}
theorem SaysM.con (c : SaysM fa fn cs K) (i : Nat) {p : Str × D} (h : cs[i]? = some p) : conB K p = true := all_eq_true.mp c.c p (mem_of_getElem? h)
theorem SaysM.fun_ {h : Heap} {mg : Str -> Option Value} (c : SaysM fa fn cs K) (X : K.In h) (G : h.Ns mainGlobals mg) (i j k : Nat) {x q : Str} {st : Stmt} (h1 : fn[i]? = some ⟨(x, none), x, q, defArgs st, defBody st, defScope st⟩) (h2 : fa[j]? = some (.glo x)) (h3 : fa[k]? = some (.keep x)) :
  ∃ f fd, Fun K x q st f fd /\ mg x = some (.ref f) := by
 obtain ⟨oc, od, osl, kV, doc, pm, an, cdv, ct, e1, e2⟩ := c.e.def_ i h1
 exact ⟨He.ga K x, _, ⟨⟨oc, od, kV, doc, pm, an, cdv, ct, osl, rfl, e1, e2⟩, He.keep_ok (c.e.fact k h3)⟩, He.glo_ok X G (c.e.fact j h2)⟩
end
theorem walkGE {l : PySem.W.OpenLaw} {n k : Nat} {q : Program} {loose : List Str} {XP : (Str -> Option Value) -> Heap -> Prop} {YP : World -> Heap -> Prop} {d : DefRec} {m : List D -> M D} {x : Str}
  (hn : l.most = some n) (hn2 : n <= sizeLine) (hdf : d.params.defaults = []) (hr : RoomB k callerA) (htree : l.prog.given.tree = none) (hi : importsNone q = true)
  (F : ∀ (w : World) (mg : Str -> Option Value) (fa : Addr) (h : Heap), YP w h -> h.Ns mainGlobals mg -> mg d.name = some (.ref fa) ->
   ∃ (K : PySem.W.Frag) (fd : FuncData) (_ : Tb), K.In h /\ Tb.T = [] /\ (∀ (s : Shared) (u : Value), BindsTo s fd ⟨[u], []⟩ [(x, u)]) /\
    ∀ base : Heap, K.In base -> base.Ns mainGlobals mg -> SysOk l.prog base -> FnG l.prog w K mg base k fa fd [x] (Tv K mg m))
  (hm : ∀ ns : List Int, ns.length <= n -> ∃ Z', m [scr ns] [] = some (.ok (.bl true), Z')) :
  PySem.W.WalkO q loose XP YP l.row.toRowW d [] (fun f vs => PySem.call f vs) := by
 refine Att.attach_call hn hdf fun w s₀ s₁ mg mb fa o pm cd doc a vs ns G Y_ ho hd hcd hmg hobj hints hlen hg => ?_
 obtain ⟨K, fd, tbI, KX, nT, hb, hF⟩ := F w mg fa _ Y_ G.T.g hmg
 exact lawGT (cs := []) KX G.T.g G.T.b G.T.builtins G.T.nolimit (G.T.seer hi) hg (fun p hp => (by cases hp)) (fun p hp => (by cases hp)) (fun p hp => (by cases hp)) G.T.bmain (fun p hp => (by rw [nT] at hp; cases hp)) hobj hints (Nat.le_trans hlen hn2) hr htree (fun base k1 k2 k3 _ => hF base k1 k2 k3) hb (hm ns hlen)
end Mi
namespace Tn
open PySem L2 PyProof.Rows Mi
def c_l_begin : CB := (Af (Jy 1 2 (Az .Add addD (cB "len" lenD (Aa (Ae 0) aNil)) (cInt 7)) (Ft aNil))
 (Af (Qs (gT (Ak (gN 3) (Ak (gN 4) gsNil)) 2) (iEn (Gx (Ae 0) oNo (YW (cInt 63)))) (Af (Bv (gN 1) (Az .Mod modD (Az .Add addD (Az .Add addD (Az .Mult mulD (Ae 1) (cInt 1000003)) (Az .Mod modD (Ae 4) (Az .Pow powD (cInt 10) (cInt 30)))) (Az .Mult mulD (cInt 31) (Ae 3))) (cInt 2305843009213693951)))
 (Af (sIf (Ba .GtE geD (cB "abs" absD (Aa (Ae 4) aNil)) (Az .Pow powD (cInt 10) (cInt 18))) (Af (CP (cM "list" "append" appD (Ae 2) (Aa (Az .Mod modD (cB "abs" absD (Aa (Ae 4) aNil)) (Az .Mult mulD (Az .Pow powD (cInt 10) (cInt 60)) (Az .Pow powD (cInt 10) (cInt 60)))) aNil)))
 bNil) bNil)
 bNil)))
 (Af (Cr (Ft (Aa (Ae 2) (Aa (Ae 1) (Aa (cInt 0) aNil)))))
 bNil)))
def BP : List D -> M D := mir 5 1 c_l_begin.run
def c_l_take : CB := (Af (FJ (fun _ => 100) (Tt (Ba .NotEq (eqnD true) (cIx (Ae 0) (cInt 0)) (Ft aNil)) (HQ (Ba .Eq eqD (cIx (cIx (Ae 0) (cInt 0)) (cInt 0)) (cInt 0)))) (Af (CP (cM "list" "pop" popAD (cIx (Ae 0) (cInt 0)) (Aa (cInt 0) aNil)))
 bNil))
 (Af (sIf (Ba .NotEq (eqnD true) (cIx (Ae 0) (cInt 0)) (Ft aNil)) (Af (Bv (gN 3) (Az .Mod modD (cIx (cIx (Ae 0) (cInt 0)) (cInt 0)) (Ae 1)))
 (Af (Bv (gS (cIx (Ae 0) (cInt 0)) (cInt 0)) (Az .FloorDiv fdivD (cIx (cIx (Ae 0) (cInt 0)) (cInt 0)) (Ae 1)))
 (Af (Cr (Ae 3))
 bNil))) bNil)
 (Af (Bv (gS (Ae 0) (cInt 2)) (Az .Add addD (cIx (Ae 0) (cInt 2)) (cInt 1)))
 (Af (Bv (gN 2) (Az .Mod modD (Az .Mult mulD (Az .Add addD (Az .Add addD (cIx (Ae 0) (cInt 1)) (Az .Mult mulD (Az .Mult mulD (cInt 65537) (cIx (Ae 0) (cInt 2))) (cIx (Ae 0) (cInt 2)))) (cInt 11)) (cInt 48271)) (cInt 2305843009213693921)))
 (Af (Bv (gN 2) (Az .Mod modD (Az .Mult mulD (Ae 2) (Az .Add addD (Az .Mod modD (Ae 2) (cInt 1000003)) (Az .Mult mulD (cInt 99991) (cIx (Ae 0) (cInt 2))))) (cInt 2305843009213693907)))
 (Af (Cr (Az .Mod modD (Az .Add addD (Az .FloorDiv fdivD (Ae 2) (cInt 97)) (Az .FloorDiv fdivD (Ae 2) (cInt 1000033))) (Ae 1)))
 bNil))))))
def Be : List D -> M D := mir 4 2 c_l_take.run
def c_l_of : CB := (Af (Cr (cIx (Ae 1) (Am "_law_take" Be (Aa (Ae 0) (Aa (cB "len" lenD (Aa (Ae 1) aNil)) aNil)))))
 bNil)
def Dd : List D -> M D := mir 2 2 c_l_of.run
def c_l_names : CB := (Af (Bv (gN 2) (cB "list" listXD (Aa (cStr "abcdefghijklmnopqrstuvwxyz") aNil)))
 (Af (Bv (gN 3) (cM "str" "join" joinD (cStr "") (Aa (cLc (iR1 (Am "_law_of" Dd (Aa (Ae 0) (Aa (Ft (Aa (cInt 0) (Aa (cInt 0) (Aa (cInt 1) (Aa (cInt 4) aNil))))) aNil)))) (gN 4) fNil (Am "_law_of" Dd (Aa (Ae 0) (Aa (cStr "abkz") aNil))) [("_law_k", 4)]) aNil)))
 (Af (Jy 5 6 (Am "_law_take" Be (Aa (Ae 0) (Aa (Az .Add addD (cB "len" lenD (Aa (Ae 3) aNil)) (cInt 1)) aNil))) (Ft aNil))
 (Af (Qs (gN 4) (iR1 (Ae 1)) (Af (CP (cM "list" "append" appD (Ae 6) (Aa (Az .Add addD (Az .Add addD (Gx (Ae 3) oNo (YW (Ae 5))) (cM "list" "pop" popAD (Ae 2) (Aa (Am "_law_take" Be (Aa (Ae 0) (Aa (cB "len" lenD (Aa (Ae 2) aNil)) aNil))) aNil))) (Gx (Ae 3) (YW (Ae 5)) oNo)) aNil)))
 bNil))
 (Af (Cr (Ae 6))
 bNil)))))
def GD : List D -> M D := mir 7 2 c_l_names.run
def c_l_fraction : CB := (Af (Jy 3 4 (cB "abs" absD (Aa (Ae 0) aNil)) (cB "abs" absD (Aa (Ae 1) aNil)))
 (Af (FJ (fun Y => gas 4 Y) (Ba .Gt gtD (Ae 4) (cInt 0)) (Af (Jy 3 4 (Ae 4) (Az .Mod modD (Ae 3) (Ae 4)))
 bNil))
 (Af (Bv (gN 2) (cIf (Ba .Gt gtD (Ae 1) (cInt 0)) (cInt 1) (Ie (cInt 1))))
 (Af (Cr (Bg (Aa (Az .FloorDiv fdivD (Az .Mult mulD (Ae 2) (Ae 0)) (Ae 3)) (Aa (Az .FloorDiv fdivD (Az .Mult mulD (Ae 2) (Ae 1)) (Ae 3)) aNil))))
 bNil))))
def Cv : List D -> M D := mir 5 2 c_l_fraction.run
def c_l_sum : CB := (Af (Cr (Am "_law_fraction" Cv (Aa (Az .Add addD (Az .Mult mulD (cIx (Ae 0) (cInt 0)) (cIx (Ae 1) (cInt 1))) (Az .Mult mulD (cIx (Ae 1) (cInt 0)) (cIx (Ae 0) (cInt 1)))) (Aa (Az .Mult mulD (cIx (Ae 0) (cInt 1)) (cIx (Ae 1) (cInt 1))) aNil))))
 bNil)
def BJ : List D -> M D := mir 2 2 c_l_sum.run
def c_l_is_below : CB := (Af (Cr (XM .Lt ltD (Az .Mult mulD (cIx (Ae 0) (cInt 0)) (cIx (Ae 1) (cInt 1))) (Az .Mult mulD (cIx (Ae 1) (cInt 0)) (cIx (Ae 0) (cInt 1)))))
 bNil)
def DW : List D -> M D := mir 2 2 c_l_is_below.run
def c_l_above : CB := (Af (Cr (Am "_law_fraction" Cv (Aa (Az .Add addD (cInt 1) (Am "_law_of" Dd (Aa (Ae 0) (Aa (Ft (Aa (cInt 0) (Aa (cInt 1) (Aa (cInt 2) (Aa (cInt 6) (Aa (cInt 98) (Aa (Am "_law_take" Be (Aa (Ae 0) (Aa (cInt 99) aNil))) aNil))))))) aNil)))) (Aa (Az .Add addD (cInt 1) (Am "_law_of" Dd (Aa (Ae 0) (Aa (Ft (Aa (cInt 0) (Aa (cInt 0) (Aa (cInt 1) (Aa (cInt 2) (Aa (cInt 98) aNil)))))) aNil)))) aNil))))
 bNil)
def BK : List D -> M D := mir 1 1 c_l_above.run
def c_l_any : CB := (Af (Bv (gT (Ak (gN 1) (Ak (gN 2) gsNil)) 2) (Am "_law_above" BK (Aa (Ae 0) aNil)))
 (Af (Cr (cIx (Ft (Aa (Bg (Aa (Ae 1) (Aa (Ae 2) aNil))) (Aa (Bg (Aa (Ae 1) (Aa (Ae 2) aNil))) (Aa (Bg (Aa (Ie (Ae 1)) (Aa (Ae 2) aNil))) (Aa (Bg (Aa (cInt 0) (Aa (cInt 1) aNil))) aNil))))) (Am "_law_take" Be (Aa (Ae 0) (Aa (cInt 4) aNil)))))
 bNil))
def Mg : List D -> M D := mir 3 1 c_l_any.run
def c_l_turn : CB := (Af (Bv (gN 5) (Am "_law_sum" BJ (Aa (Ae 4) (Aa (Am "_law_of" Dd (Aa (Ae 0) (Aa (Ft (Aa (Bg (Aa (Ie (cInt 1)) (Aa (cInt 1) aNil))) (Aa (Bg (Aa (Ie (cInt 1)) (Aa (cInt 2) aNil))) (Aa (Bg (Aa (Ie (cInt 3)) (Aa (cInt 1) aNil))) (Aa (Bg (Aa (cInt 0) (Aa (cInt 1) aNil))) (Aa (Bg (Aa (cInt 1) (Aa (cInt 1) aNil))) (Aa (Bg (Aa (Ie (cInt 2)) (Aa (cInt 1) aNil))) aNil))))))) aNil))) aNil))))
 (Af (Bv (gN 6) (Am "_law_sum" BJ (Aa (Ae 5) (Aa (Am "_law_of" Dd (Aa (Ae 0) (Aa (Ft (Aa (Bg (Aa (cInt 1) (Aa (cInt 1) aNil))) (Aa (Bg (Aa (cInt 1) (Aa (cInt 2) aNil))) (Aa (Bg (Aa (cInt 2) (Aa (cInt 1) aNil))) (Aa (Bg (Aa (cInt 4) (Aa (cInt 1) aNil))) aNil))))) aNil))) aNil))))
 (Af (Cr (Bg (Aa (cStr "turn") (Aa (Ae 1) (Aa (Ae 2) (Aa (Bg (Aa (Ae 3) (Aa (Ae 5) (Aa (Ae 6) (Aa (XM .Eq eqD (Am "_law_take" Be (Aa (Ae 0) (Aa (cInt 2) aNil))) (cInt 0)) aNil))))) aNil))))))
 bNil)))
def Hm : List D -> M D := mir 7 5 c_l_turn.run
def c_l_conducting : CB := (Af (sIf (Ba .Gt gtD (Am "_law_take" Be (Aa (Ae 0) (Aa (cInt 3) aNil))) (cInt 0)) (Af (Cr (Bg (Aa (cStr "resist") (Aa (Ae 1) (Aa (Ae 2) (Aa (Bg (Aa (Am "_law_above" BK (Aa (Ae 0) aNil)) aNil)) aNil))))))
 bNil) bNil)
 (Af (Bv (gN 3) (Am "_law_fraction" Cv (Aa (Az .Sub subD (Am "_law_take" Be (Aa (Ae 0) (Aa (cInt 9) aNil))) (cInt 4)) (Aa (Az .Add addD (cInt 1) (Am "_law_take" Be (Aa (Ae 0) (Aa (cInt 2) aNil)))) aNil))))
 (Af (Bv (gN 4) (Ft (Aa (Bg (Aa (Ae 3) (Aa (Am "_law_above" BK (Aa (Ae 0) aNil)) aNil))) aNil)))
 (Af (sIf (Ba .Eq eqD (Am "_law_take" Be (Aa (Ae 0) (Aa (cInt 2) aNil))) (cInt 0)) (Af (CP (cM "list" "append" appD (Ae 4) (Aa (Bg (Aa (Am "_law_sum" BJ (Aa (Ae 3) (Aa (Am "_law_of" Dd (Aa (Ae 0) (Aa (Ft (Aa (Bg (Aa (cInt 1) (Aa (cInt 1) aNil))) (Aa (Bg (Aa (cInt 1) (Aa (cInt 2) aNil))) (Aa (Bg (Aa (cInt 3) (Aa (cInt 1) aNil))) aNil)))) aNil))) aNil))) (Aa (Am "_law_above" BK (Aa (Ae 0) aNil)) aNil))) aNil)))
 bNil) bNil)
 (Af (Cr (Bg (Aa (cStr "bent") (Aa (Ae 1) (Aa (Ae 2) (Aa (Bg (Aa (Am "_law_above" BK (Aa (Ae 0) aNil)) (Aa (cB "tuple" tupleD (Aa (Ae 4) aNil)) aNil))) aNil))))))
 bNil)))))
def Cg : List D -> M D := mir 5 3 c_l_conducting.run
def c_l_net : CB := (Af (Yu 2 3 4 (Am "_law_names" GD (Aa (Ae 0) (Aa (cInt 8) aNil))) (Am "_law_names" GD (Aa (Ae 0) (Aa (cInt 4) aNil))) (Am "_law_take" Be (Aa (Ae 0) (Aa (cInt 4) aNil))))
 (Af (Yv (gL (Ak (gN 5) (Ak (gN 6) gsNil)) 2) (cLc (iR1 (cInt 2)) (gN 9) fNil (Am "_law_fraction" Cv (Aa (Az .Sub subD (Am "_law_take" Be (Aa (Ae 0) (Aa (cInt 9) aNil))) (cInt 4)) (Aa (Az .Add addD (cInt 1) (Am "_law_take" Be (Aa (Ae 0) (Aa (cInt 2) aNil)))) aNil))) [("_law_turn_here", 9)]))
 (Af (Bv (gN 1) (Ft (Aa (Bg (Aa (cStr "stream") (Aa (cIx (Ae 2) (cInt 0)) (Aa (Bg (Aa (cStr "base") (Aa (cIx (Ae 3) (cInt 0)) aNil))) (Aa (Bg (Aa (Am "_law_any" Mg (Aa (Ae 0) aNil)) aNil)) aNil))))) (Aa (Bg (Aa (cStr "resist") (Aa (cIx (Ae 2) (cInt 1)) (Aa (Bg (Aa (cIx (Ae 3) (cInt 0)) (Aa (cStr "base") aNil))) (Aa (Bg (Aa (Am "_law_above" BK (Aa (Ae 0) aNil)) aNil)) aNil))))) aNil))))
 (Af (sIf (Ba .Eq eqD (Am "_law_take" Be (Aa (Ae 0) (Aa (cInt 2) aNil))) (cInt 0)) (Af (Bv (gN 1) (Ft (Aa (Bg (Aa (cStr "height") (Aa (cIx (Ae 2) (cInt 0)) (Aa (Bg (Aa (cIx (Ae 3) (cInt 1)) (Aa (cStr "base") aNil))) (Aa (Bg (Aa (Am "_law_any" Mg (Aa (Ae 0) aNil)) aNil)) aNil))))) (Aa (Bg (Aa (cStr "resist") (Aa (cIx (Ae 2) (cInt 1)) (Aa (Bg (Aa (cIx (Ae 3) (cInt 1)) (Aa (cIx (Ae 3) (cInt 0)) aNil))) (Aa (Bg (Aa (Am "_law_above" BK (Aa (Ae 0) aNil)) aNil)) aNil))))) aNil))))
 bNil) bNil)
 (Af (CP (cM "list" "append" appD (Ae 1) (Aa (Bg (Aa (cStr "keep") (Aa (cIx (Ae 2) (cInt 2)) (Aa (Am "_law_of" Dd (Aa (Ae 0) (Aa (Ft (Aa (Bg (Aa (cIx (Ae 3) (cInt 0)) (Aa (cStr "base") aNil))) (Aa (Bg (Aa (cStr "base") (Aa (cIx (Ae 3) (cInt 0)) aNil))) aNil))) aNil))) (Aa (Bg (Aa (Am "_law_above" BK (Aa (Ae 0) aNil)) (Aa (Ae 5) aNil))) aNil))))) aNil)))
 (Af (CP (cM "list" "append" appD (Ae 1) (Aa (Am "_law_turn" Hm (Aa (Ae 0) (Aa (cIx (Ae 2) (cInt 3)) (Aa (Bg (Aa (cIx (Ae 3) (cInt 0)) (Aa (cIx (Ae 3) (cInt 2)) aNil))) (Aa (cIx (Ae 2) (cInt 2)) (Aa (Ae 5) aNil)))))) aNil)))
 (Af (CP (cM "list" "append" appD (Ae 1) (Aa (Am "_law_conducting" Cg (Aa (Ae 0) (Aa (cIx (Ae 2) (cInt 4)) (Aa (Bg (Aa (cIx (Ae 3) (cInt 2)) (Aa (cStr "base") aNil))) aNil)))) aNil)))
 (Af (sIf (Ba .Lt ltD (Ae 4) (cInt 2)) (Af (CP (cM "list" "append" appD (Ae 1) (Aa (Am "_law_conducting" Cg (Aa (Ae 0) (Aa (cIx (Ae 2) (cInt 5)) (Aa (Bg (Aa (cIx (Ae 3) (cInt 0)) (Aa (cIx (Ae 3) (cInt 3)) aNil))) aNil)))) aNil)))
 (Af (Bv (gN 7) (Am "_law_of" Dd (Aa (Ae 0) (Aa (Ft (Aa (Bg (Aa (cIx (Ae 3) (cInt 3)) (Aa (cStr "base") aNil))) (Aa (Bg (Aa (cStr "base") (Aa (cIx (Ae 3) (cInt 3)) aNil))) (Aa (Bg (Aa (cIx (Ae 3) (cInt 3)) (Aa (cIx (Ae 3) (cInt 2)) aNil))) (Aa (Bg (Aa (cIx (Ae 3) (cInt 2)) (Aa (cIx (Ae 3) (cInt 3)) aNil))) aNil))))) aNil))))
 (Af (CP (cM "list" "append" appD (Ae 1) (Aa (Bg (Aa (cIx (Ft (Aa (cStr "keep") (Aa (cStr "coil") aNil))) (Ae 4)) (Aa (cIx (Ae 2) (cInt 6)) (Aa (Ae 7) (Aa (Bg (Aa (Am "_law_above" BK (Aa (Ae 0) aNil)) (Aa (Ae 6) aNil))) aNil))))) aNil)))
 (Af (Bv (gT (Ak (gN 10) (Ak (gN 11) gsNil)) 2) (Am "_law_of" Dd (Aa (Ae 0) (Aa (Ft (Aa (Bg (Aa (cIx (Ae 2) (cInt 2)) (Aa (Ae 5) aNil))) (Aa (Bg (Aa (cIx (Ae 2) (cInt 6)) (Aa (Ae 6) aNil))) (Aa (Bg (Aa (cIx (Ae 2) (cInt 6)) (Aa (Ae 6) aNil))) aNil)))) aNil))))
 (Af (CP (cM "list" "append" appD (Ae 1) (Aa (Am "_law_turn" Hm (Aa (Ae 0) (Aa (cIx (Ae 2) (cInt 7)) (Aa (Bg (Aa (cIx (Ae 3) (cInt 0)) (Aa (cIx (Ae 3) (cInt 3)) aNil))) (Aa (Ae 10) (Aa (Ae 11) aNil)))))) aNil)))
 bNil))))) bNil)
 (Af (sIf (Ba .GtE geD (Ae 4) (cInt 2)) (Af (Bv (gN 8) (Bg (Aa (cStr "switch") (Aa (cIx (Ae 2) (cInt 5)) (Aa (Bg (Aa (cIx (Ae 3) (cInt 0)) (Aa (cIx (Ae 3) (cInt 3)) aNil))) (Aa (Bg (Aa (XM .Eq eqD (Am "_law_take" Be (Aa (Ae 0) (Aa (cInt 2) aNil))) (cInt 0)) aNil)) aNil))))))
 (Af (CP (cM "list" "append" appD (Ae 1) (Aa (cIf (Ba .Eq eqD (Ae 4) (cInt 2)) (Am "_law_turn" Hm (Aa (Ae 0) (Aa (cIx (Ae 2) (cInt 5)) (Aa (Bg (Aa (cIx (Ae 3) (cInt 0)) (Aa (cIx (Ae 3) (cInt 3)) aNil))) (Aa (cIx (Ae 2) (cInt 2)) (Aa (Ae 5) aNil)))))) (Ae 8)) aNil)))
 (Af (CP (cM "list" "append" appD (Ae 1) (Aa (Am "_law_conducting" Cg (Aa (Ae 0) (Aa (cIx (Ae 2) (cInt 6)) (Aa (Bg (Aa (cIx (Ae 3) (cInt 3)) (Aa (cStr "base") aNil))) aNil)))) aNil)))
 bNil))) bNil)
 (Af (Cr (cB "tuple" tupleD (Aa (cLc (iR1 (cB "len" lenD (Aa (Ae 1) aNil))) (gN 9) fNil (cM "list" "pop" popAD (Ae 1) (Aa (Am "_law_take" Be (Aa (Ae 0) (Aa (cB "len" lenD (Aa (Ae 1) aNil)) aNil))) aNil)) [("_law_turn_here", 9)]) aNil)))
 bNil))))))))))
def Mf : List D -> M D := mir 12 1 c_l_net.run
def c_l_wishes : CB := (Af (Bv (gT (Ak (gN 3) (Ak (gN 4) (Ak (gN 5) (Ak (gN 6) gsNil)))) 4) (cIx (Ae 0) (cInt 3)))
 (Af (Bv (gN 2) (cIx (cB "dict" dictL (Aa (Ae 1) aNil)) (Ae 3)))
 (Af (Cr (vOr (cNot (Am "_law_is_below" DW (Aa (Ae 2) (Aa (Ae 5) aNil)))) (vOne .Or (vAnd (Ae 6) (vOne .And (Am "_law_is_below" DW (Aa (Ae 4) (Aa (Ae 2) aNil))))))))
 bNil)))
def Hl : List D -> M D := mir 7 2 c_l_wishes.run
def c_l_over_all : CB := (Af (Bv (gN 2) (Ft aNil))
 (Af (Qs (gT (Ak (gN 3) (Ak (gN 4) (Ak (gN 5) (Ak (gN 6) gsNil)))) 4) (iA (Ae 0)) (Af (CP (cM "list" "append" appD (Ae 2) (Aa (Bg (Aa (Ae 3) (Aa (Ae 4) (Aa (Ae 5) (Aa (cIf (Ba .In (inD false) (Ae 4) (Ae 1)) (Az .Add addD (Gx (Ae 6) oNo (YW (cInt 3))) (Bg (Aa (cNot (cIx (Ae 6) (cInt 3))) aNil))) (Ae 6)) aNil))))) aNil)))
 bNil))
 (Af (Cr (cB "tuple" tupleD (Aa (Ae 2) aNil)))
 bNil)))
def DR : List D -> M D := mir 7 2 c_l_over_all.run
def c_l_told : CB := (Af (Cr (cB "tuple" tupleD (Aa (cB "sorted" sortGD (Aa (cLc (iA (Ae 0)) (gT (Ak (gN 2) (Ak (gN 3) (Ak (gN 4) (Ak (gN 5) gsNil)))) 4) (Xy (Ba .In (inD false) (Ae 3) (Ae 1))) (Bg (Aa (Ae 3) (Aa (cIx (Ae 5) (cInt 3)) aNil))) [("_law_kind", 2), ("_law_name", 3), ("_law_knots", 4), ("_law_values", 5)]) aNil)) aNil)))
 bNil)
def IK : List D -> M D := mir 6 2 c_l_told.run
def c_l_start : CB := (Af (Cr (cB "tuple" tplD (Aa (cB "sorted" sortGD (Aa (cLc (iA (Ae 0)) (gT (Ak (gN 1) (Ak (gN 2) (Ak (gN 3) (Ak (gN 4) gsNil)))) 4) (Xy (Ba .In (inD false) (Ae 1) (Bg (Aa (cStr "keep") (Aa (cStr "coil") aNil))))) (Bg (Aa (Ae 2) (Aa (cIx (Ae 4) (cInt 1)) aNil))) [("_law_kind", 1), ("_law_name", 2), ("_law_knots", 3), ("_law_values", 4)]) aNil)) aNil)))
 bNil)
def G9 : List D -> M D := mir 5 1 c_l_start.run
def c_l_against : CB := (Af (N5 2 (iA (Ae 0)) (gN 3) (Xy (Ba .Eq eqD (cIx (Ae 3) (cInt 0)) (cStr "turn"))) (Ae 3) [("_law_part", 3)])
 (Af (Cr (cLc (iA (Ae 2)) (gN 3) (Xy (Ba .NotEq neD (Am "_law_wishes" Hl (Aa (Ae 3) (Aa (Ae 1) aNil))) (cIx (cIx (Ae 3) (cInt 3)) (cInt 3)))) (cIx (Ae 3) (cInt 1)) [("_law_part", 3)]))
 bNil))
def Ey : List D -> M D := mir 4 2 c_l_against.run
end Tn
namespace Tn
open PySem L2 PyProof.Rows Mi Std
def k_COIL : D := (.str "coil")
def k_KEEP : D := (.str "keep")
def k_TURN : D := (.str "turn")
def c_start : CB := (Af (Cr (cB "tuple" tplD (Aa (cB "sorted" sortGD (Aa (cLc (iA (Ae 0)) (gN 1) (Xy (Ba .In (inD false) (cIx (Ae 1) (cInt 0)) (Bg (Aa (M5 "KEEP" k_KEEP) (Aa (M5 "COIL" k_COIL) aNil))))) (Bg (Aa (cIx (Ae 1) (cInt 1)) (Aa (cIx (cIx (Ae 1) (cInt 3)) (cInt 1)) aNil))) [("part", 1)]) aNil)) aNil)))
 bNil)
def QD : List D -> M D := mir 2 1 c_start.run
def c_turns_of : CB := (Af (Cr (cLc (iA (Ae 0)) (gN 1) (Xy (Ba .Eq eqD (cIx (Ae 1) (cInt 0)) (M5 "TURN" k_TURN))) (Ae 1) [("part", 1)]))
 bNil)
def El : List D -> M D := mir 2 1 c_turns_of.run
def c_wishes_on : CB := (Af (Bv (gT (Ak (gN 3) (Ak (gN 4) (Ak (gN 5) (Ak (gN 6) gsNil)))) 4) (cIx (Ae 0) (cInt 3)))
 (Af (Bv (gN 2) (cIx (cB "dict" dictL (Aa (Ae 1) aNil)) (Ae 3)))
 (Af (sIf (Yh (X8 (Am "less" Iw (Aa (Ae 2) (Aa (Ae 5) aNil))))) (Af (Cr (cBl true))
 bNil) bNil)
 (Af (Cr (vAnd (Ae 6) (vOne .And (Am "less" Iw (Aa (Ae 4) (Aa (Ae 2) aNil))))))
 bNil))))
def Gh : List D -> M D := mir 7 2 c_wishes_on.run
def c_turned_over : CB := (Af (Bv (gT (Ak (gN 2) (Ak (gN 3) (Ak (gN 4) (Ak (gN 5) gsNil)))) 4) (Ae 0))
 (Af (sIf (wOr (Ba .NotEq neD (Ae 2) (M5 "TURN" k_TURN)) (wOr1 (Ba .NotIn (inD true) (Ae 3) (Ae 1)))) (Af (Cr (Ae 0))
 bNil) bNil)
 (Af (Cr (Bg (Aa (Ae 2) (Aa (Ae 3) (Aa (Ae 4) (Aa (Az .Add addD (Gx (Ae 5) oNo (YW (cInt 3))) (Bg (Aa (cNot (cIx (Ae 5) (cInt 3))) aNil))) aNil))))))
 bNil)))
def Ei : List D -> M D := mir 6 2 c_turned_over.run
def c_all_turned : CB := (Af (Bv (gN 2) (cB "tuple" tupleD (Aa (cLc (iA (Ae 0)) (gN 3) fNil (Am "turned_over" Ei (Aa (Ae 3) (Aa (Ae 1) aNil))) [("part", 3)]) aNil)))
 (Af (Cr (Bg (Aa (Ae 2) (Aa (cB "tuple" tupleD (Aa (cB "sorted" sortGD (Aa (cLc (iA (Am "turns_of" El (Aa (Ae 2) aNil))) (gN 3) (Xy (Ba .In (inD false) (cIx (Ae 3) (cInt 1)) (Ae 1))) (Bg (Aa (cIx (Ae 3) (cInt 1)) (Aa (cIx (cIx (Ae 3) (cInt 3)) (cInt 3)) aNil))) [("part", 3)]) aNil)) aNil)) aNil))))
 bNil))
def DY : List D -> M D := mir 4 2 c_all_turned.run
end Tn
namespace Law
open PySem L2 PyProof.Rows Mi Lq Gq Tn
open Std hiding c_l_begin c_l_sum BP BJ
def top (i : Nat) : Stmt := PySem.Challenge.pw_wirereckon_k57_turns_at_the_first_row.main.body.getD i (.Pass ⟨0, 0, 0, 0⟩)
def k_ONE : D := (.tup [(.int 1), (.int 1)])
abbrev G5 : Stmt := top 70
abbrev Io : Stmt := top 71
abbrev R8 : Stmt := top 72
abbrev G4 : Stmt := top 73
abbrev DP : Stmt := top 74
abbrev G6 : Stmt := top 77
abbrev Lj : Stmt := top 78
abbrev Lg : Stmt := top 75
abbrev Il : Stmt := top 79
abbrev CV : Stmt := top 80
abbrev Lh : Stmt := top 81
abbrev G3 : Stmt := top 85
abbrev DN : Stmt := top 76
abbrev Fy : Stmt := top 82
abbrev Et : Stmt := top 86
abbrev Im : Stmt := top 84
abbrev DK : Stmt := top 83
abbrev La : Stmt := top 54
abbrev Fw : Stmt := top 61
abbrev R6 : Stmt := top 12
abbrev Ep : Stmt := top 62
abbrev Di : Stmt := top 63
abbrev DQ : Stmt := top 64
abbrev R3 : Stmt := top 58
def m_step : List D -> M D := fun _ => M.stop
abbrev Es : Stmt := top 7
abbrev KZ : Stmt := top 10
abbrev R5 : Stmt := top 11
abbrev R4 : Stmt := top 8
abbrev Lf : Stmt := top 9
abbrev Fx : Stmt := top 65
def c_share_of : CB := (Af (Bv (gT (Ak (gN 3) (Ak (gN 4) (Ak (gN 5) (Ak (gN 6) gsNil)))) 4) (cIx (Ae 0) (cInt 3)))
 (Af (Jy 7 8 (cIx (cB "dict" dictL (Aa (Ae 1) aNil)) (Ae 3)) (cIx (cB "dict" dictL (Aa (Ae 2) aNil)) (Ae 3)))
 (Af (sIf (wOr (Tt (X8 (Ae 6)) (HQ (X8 (Am "less" Iw (Aa (Ae 4) (Aa (Ae 8) aNil)))))) (wOr1 (Tt (Yh (X8 (Ae 6))) (HQ (X8 (Am "less" Iw (Aa (Ae 8) (Aa (Ae 5) aNil)))))))) (Af (Cr cNon)
 bNil) bNil)
 (Af (Cr (Am "over" Gp (Aa (Am "minus" Eu (Aa (cIf (X8 (Ae 6)) (Ae 4) (Ae 5)) (Aa (Ae 7) aNil))) (Aa (Am "minus" Eu (Aa (Ae 8) (Aa (Ae 7) aNil))) aNil))))
 bNil))))
def O7 : List D -> M D := mir 9 3 c_share_of.run
abbrev CW : Stmt := top 66
def c_first_shares : CB := (Af (N5 3 (iA (Am "turns_of" El (Aa (Ae 0) aNil))) (gN 7) fNil (Bg (Aa (cIx (Ae 7) (cInt 1)) (Aa (Am "share_of" O7 (Aa (Ae 7) (Aa (Ae 1) (Aa (Ae 2) aNil)))) aNil))) [("part", 7)])
 (Af (Bv (gN 4) (M5 "ONE" k_ONE))
 (Af (Qs (gT (Ak (gN 5) (Ak (gN 6) gsNil)) 2) (iA (Ae 3)) (Af (sIf (Tt (Ba .IsNot isnD (Ae 6) cNon) (HQ (X8 (Am "less" Iw (Aa (Ae 6) (Aa (Ae 4) aNil)))))) (Af (Bv (gN 4) (Ae 6))
 bNil) bNil)
 bNil))
 (Af (Cr (Bg (Aa (Ae 4) (Aa (cLc (iA (Ae 3)) (gT (Ak (gN 5) (Ak (gN 6) gsNil)) 2) (Xy (Ba .Eq eqD (Ae 6) (Ae 4))) (Ae 5) [("name", 5), ("share", 6)]) aNil))))
 bNil))))
def HD : List D -> M D := mir 8 3 c_first_shares.run
abbrev Cu : Stmt := top 67
def c_state_between : CB := (Af (Bv (gN 3) (cB "dict" dictL (Aa (Ae 1) aNil)))
 (Af (Cr (cB "tuple" tupleD (Aa (cLc (iA (Ae 0)) (gT (Ak (gN 4) (Ak (gN 5) gsNil)) 2) fNil (Bg (Aa (Ae 4) (Aa (Am "plus" JZ (Aa (Ae 5) (Aa (Am "times" Du (Aa (Ae 2) (Aa (Am "minus" Eu (Aa (cIx (Ae 3) (Ae 4)) (Aa (Ae 5) aNil))) aNil))) aNil))) aNil))) [("name", 4), ("value", 5)]) aNil)))
 bNil))
def G8 : List D -> M D := mir 6 3 c_state_between.run
abbrev Ik : Stmt := top 68
def c_turned : CB := (Af (Bv (gN 3) (Am "start" QD (Aa (Ae 0) aNil)))
 (Af (N5 4 (iA (Am "turns_of" El (Aa (Ae 0) aNil))) (gN 9) (Xy (Ba .NotEq neD (Am "wishes_on" Gh (Aa (Ae 9) (Aa (Ae 3) aNil))) (cIx (cIx (Ae 9) (cInt 3)) (cInt 3)))) (cIx (Ae 9) (cInt 1)) [("part", 9)])
 (Af (Bv (gT (Ak (gN 0) (Ak (gN 8) gsNil)) 2) (Am "all_turned" DY (Aa (Ae 0) (Aa (Ae 4) aNil))))
 (Af (Bv (gN 5) (M5 "NOUGHT" k_NOUGHT))
 (Af (Bv (gN 6) (Ft (Aa (Bg (Aa (Ae 5) (Aa (Ae 8) (Aa cNon (Aa (Ae 3) aNil))))) aNil)))
 (Af (Qs (gN 7) (iR1 (Ae 2)) (Af (Bv (gT (Ak (gN 10) (Ak (gN 11) (Ak (gN 12) gsNil))) 3) (Am "step" m_step (Aa (Ae 0) (Aa (Ae 3) (Aa (Ae 1) aNil)))))
 (Af (Bv (gT (Ak (gN 13) (Ak (gN 14) gsNil)) 2) (Am "first_shares" HD (Aa (Ae 0) (Aa (Ae 3) (Aa (Ae 12) aNil)))))
 (Af (Bv (gT (Ak (gN 0) (Ak (gN 8) gsNil)) 2) (Am "all_turned" DY (Aa (Ae 0) (Aa (Ae 14) aNil))))
 (Af (Bv (gN 3) (Am "state_between" G8 (Aa (Ae 3) (Aa (Ae 12) (Aa (Ae 13) aNil)))))
 (Af (Bv (gN 5) (Am "plus" JZ (Aa (Ae 5) (Aa (Am "times" Du (Aa (Ae 13) (Aa (Ae 1) aNil))) aNil))))
 (Af (CP (cM "list" "append" appD (Ae 6) (Aa (Bg (Aa (Ae 5) (Aa (Ae 8) (Aa (Ae 10) (Aa (Ae 3) aNil))))) aNil)))
 bNil)))))))
 (Af (Cr (cB "tuple" tupleD (Aa (Ae 6) aNil)))
 bNil)))))))
def Iu : List D -> M D := mir 15 3 c_turned.run
abbrev R7 : Stmt := top 87
def c_law : CB := (Af (Bv (gN 1) (Am "_law_begin" BP (Aa (Ae 0) aNil)))
 (Af (Qs (gN 2) (iR1 (Az .Add addD (cInt 2) (cB "min" minD (Aa (cInt 10) (Aa (cB "len" lenD (Aa (Ae 0) aNil)) aNil))))) (Af (Jy 5 6 (Am "_law_net" Mf (Aa (Ae 1) aNil)) (Am "_law_above" BK (Aa (Ae 1) aNil)))
 (Af (Jy 7 8 (cB "repr" reprD (Aa (Ae 5) aNil)) (Am "_law_start" G9 (Aa (Ae 5) aNil)))
 (Af (Bv (gN 3) (Am "_law_against" Ey (Aa (Ae 5) (Aa (Ae 8) aNil))))
 (Af (Bv (gN 4) (Bg (Aa (Bg (Aa (Bg (Aa (cInt 0) (Aa (cInt 1) aNil))) (Aa (Am "_law_told" IK (Aa (Am "_law_over_all" DR (Aa (Ae 5) (Aa (Ae 3) aNil))) (Aa (Ae 3) aNil))) (Aa cNon (Aa (Ae 8) aNil))))) aNil)))
 (Af (sIf (wOr (Ba .NotEq neD (cB "repr" reprD (Aa (X7 (Am "turned" Iu (Aa (Ae 5) (Aa (Ae 6) (Aa (cInt 0) aNil))))) aNil)) (cB "repr" reprD (Aa (X7 (Ae 4)) aNil))) (wOr1 (Ba .NotEq neD (cB "repr" reprD (Aa (Ae 5) aNil)) (Ae 7)))) (Af (Cr (cBl false))
 bNil) bNil)
 bNil))))))
 (Af (Cr (cBl true))
 bNil)))
def Ze : List D -> M D := mir 9 1 c_law.run
end Law
set_option maxHeartbeats 0
namespace Law
open PySem L2 PyProof.Rows Mi Lq Gq Tn
open Std hiding c_l_begin c_l_sum BP BJ
noncomputable def hfa0 : List He.Fa := [.free "abs", .free "dict", .free "enumerate", .free "len", .free "list", .free "min", .free "range", .free "repr", .free "sorted", .free "tuple", .glo "_law_begin", .keep "_law_begin", .glo "_law_take", .keep "_law_take", .glo "_law_of", .keep "_law_of", .glo "_law_names", .keep "_law_names", .glo "_law_fraction", .keep "_law_fraction", .glo "_law_above", .keep "_law_above", .glo "_law_any", .keep "_law_any", .glo "_law_sum", .keep "_law_sum", .glo "_law_turn", .keep "_law_turn", .glo "_law_conducting", .keep "_law_conducting"]
noncomputable def hfa1 : List He.Fa := [.glo "_law_net", .keep "_law_net", .glo "_law_start", .keep "_law_start", .glo "_law_is_below", .keep "_law_is_below", .glo "_law_wishes", .keep "_law_wishes", .glo "_law_against", .keep "_law_against", .glo "_law_told", .keep "_law_told", .glo "_law_over_all", .keep "_law_over_all", .glo "start", .keep "start", .glo "turns_of", .keep "turns_of", .glo "less", .keep "less", .glo "wishes_on", .keep "wishes_on", .glo "turned_over", .keep "turned_over", .glo "all_turned", .keep "all_turned", .glo "step", .keep "step", .glo "shared_by", .keep "shared_by"]
noncomputable def hfa2 : List He.Fa := [.glo "times", .keep "times", .glo "over", .keep "over", .glo "plus", .keep "plus", .glo "minus", .keep "minus", .glo "share_of", .keep "share_of", .glo "first_shares", .keep "first_shares", .glo "state_between", .keep "state_between", .glo "turned", .keep "turned", .glo "law", .keep "law"]
noncomputable def hfa : List He.Fa := hfa0 ++ hfa1 ++ hfa2
noncomputable def hfn0 : List He.FnD := [⟨("_law_begin", none), "_law_begin", "_law_begin", defArgs G5, defBody G5, defScope G5⟩, ⟨("_law_take", none), "_law_take", "_law_take", defArgs Io, defBody Io, defScope Io⟩, ⟨("_law_of", none), "_law_of", "_law_of", defArgs R8, defBody R8, defScope R8⟩, ⟨("_law_names", none), "_law_names", "_law_names", defArgs G4, defBody G4, defScope G4⟩, ⟨("_law_fraction", none), "_law_fraction", "_law_fraction", defArgs DP, defBody DP, defScope DP⟩, ⟨("_law_above", none), "_law_above", "_law_above", defArgs G6, defBody G6, defScope G6⟩, ⟨("_law_any", none), "_law_any", "_law_any", defArgs Lj, defBody Lj, defScope Lj⟩, ⟨("_law_sum", none), "_law_sum", "_law_sum", defArgs Lg, defBody Lg, defScope Lg⟩, ⟨("_law_turn", none), "_law_turn", "_law_turn", defArgs Il, defBody Il, defScope Il⟩, ⟨("_law_conducting", none), "_law_conducting", "_law_conducting", defArgs CV, defBody CV, defScope CV⟩, ⟨("_law_net", none), "_law_net", "_law_net", defArgs Lh, defBody Lh, defScope Lh⟩, ⟨("_law_start", none), "_law_start", "_law_start", defArgs G3, defBody G3, defScope G3⟩, ⟨("_law_is_below", none), "_law_is_below", "_law_is_below", defArgs DN, defBody DN, defScope DN⟩, ⟨("_law_wishes", none), "_law_wishes", "_law_wishes", defArgs Fy, defBody Fy, defScope Fy⟩, ⟨("_law_against", none), "_law_against", "_law_against", defArgs Et, defBody Et, defScope Et⟩, ⟨("_law_told", none), "_law_told", "_law_told", defArgs Im, defBody Im, defScope Im⟩, ⟨("_law_over_all", none), "_law_over_all", "_law_over_all", defArgs DK, defBody DK, defScope DK⟩, ⟨("start", none), "start", "start", defArgs La, defBody La, defScope La⟩, ⟨("turns_of", none), "turns_of", "turns_of", defArgs Fw, defBody Fw, defScope Fw⟩, ⟨("less", none), "less", "less", defArgs R6, defBody R6, defScope R6⟩, ⟨("wishes_on", none), "wishes_on", "wishes_on", defArgs Ep, defBody Ep, defScope Ep⟩, ⟨("turned_over", none), "turned_over", "turned_over", defArgs Di, defBody Di, defScope Di⟩, ⟨("all_turned", none), "all_turned", "all_turned", defArgs DQ, defBody DQ, defScope DQ⟩, ⟨("step", none), "step", "step", defArgs R3, defBody R3, defScope R3⟩, ⟨("shared_by", none), "shared_by", "shared_by", defArgs Es, defBody Es, defScope Es⟩, ⟨("times", none), "times", "times", defArgs KZ, defBody KZ, defScope KZ⟩, ⟨("over", none), "over", "over", defArgs R5, defBody R5, defScope R5⟩, ⟨("plus", none), "plus", "plus", defArgs R4, defBody R4, defScope R4⟩, ⟨("minus", none), "minus", "minus", defArgs Lf, defBody Lf, defScope Lf⟩, ⟨("share_of", none), "share_of", "share_of", defArgs Fx, defBody Fx, defScope Fx⟩]
noncomputable def hfn1 : List He.FnD := [⟨("first_shares", none), "first_shares", "first_shares", defArgs CW, defBody CW, defScope CW⟩, ⟨("state_between", none), "state_between", "state_between", defArgs Cu, defBody Cu, defScope Cu⟩, ⟨("turned", none), "turned", "turned", defArgs Ik, defBody Ik, defScope Ik⟩, ⟨("law", none), "law", "law", defArgs R7, defBody R7, defScope R7⟩]
noncomputable def hfn : List He.FnD := hfn0 ++ hfn1
noncomputable def hcs0 : List (Str × D) := [("COIL", k_COIL), ("KEEP", k_KEEP), ("NOUGHT", k_NOUGHT), ("ONE", k_ONE), ("TURN", k_TURN)]
noncomputable def hcs : List (Str × D) := hcs0
noncomputable def hnm0 : List PySem.Str := ["NetError", "NoPart", "NoRest", "NOUGHT", "ONE", "shared_by", "plus", "minus", "times", "over", "less", "ZERO", "lines_of", "piece_of", "pieces_of", "is_in", "BASE", "HEIGHT", "STREAM", "SLOPE_papers", "RING", "CUT", "signed", "sum_of", "Grove", "ring_sum", "rings_told", "cut_sum", "lots_of", "cuts_told"]
noncomputable def hnm1 : List PySem.Str := ["paper_of", "ones_at", "row_less", "row_over", "Lot", "weights_of", "solved", "law_at_rest", "Net", "rising_pairs", "settle", "choices", "are_in_pieces", "settle_parts", "KEEP", "COIL", "SLOPE_steps", "start", "law_in_step", "height_over", "state_of", "step", "TURN", "turns_of", "wishes_on", "turned_over", "all_turned", "share_of", "first_shares", "state_between"]
noncomputable def hnm2 : List PySem.Str := ["turned", "_law_begin", "_law_take", "_law_of", "_law_names", "_law_fraction", "_law_sum", "_law_is_below", "_law_above", "_law_any", "_law_turn", "_law_conducting", "_law_net", "_law_wishes", "_law_over_all", "_law_told", "_law_start", "_law_against"]
noncomputable def hnm : List PySem.Str := hnm0 ++ hnm1 ++ hnm2
abbrev hR : PySem.W.OpenRow := PySem.W.OpenLaw.row PySem.Challenge.rw_wirereckon_k57_turns_at_the_first_row
abbrev hq : Program := PySem.W.view hR.prog [87]
noncomputable abbrev hk : PySem.W.Hook := hookM 5 hfa hfn hcs
noncomputable def hob (s : PySem.W.SharedT) : AlM := obsM 5 hfa hfn hcs (HandSHeadRun.getT s)
theorem hob_eq (s : PySem.W.SharedT) : hob s = hk.obs s.abs := obsM_eq (HandSHeadRun.getT_eq s)
theorem hrun (w : World) : HandSHeadRun.RunEq hR hq hk hob 6000 hnm w := by
 intro os
 kernel_rfl
end Law
local macro_rules | `(tactic| walk_at "d") => `(tactic| dsimp only [Mi.Df, map_cons, map_nil, set_cons_succ, set_cons_zero])
namespace Gq
open Std hiding c_l_sum BJ Dr Ew
open PySem L2 PyProof.Rows Mi Rn Rg
open Lq (Kp)
theorem gs_c2 {i j : Nat} {r : CGs} {a b : D} {ds : List D} {Y : Mi.Env} {Z : List O} : (Ak (gT (Ak (gN i) (Ak (gN j) gsNil)) 2) r).run (.tup [a, b] :: ds) Y Z = r.run ds ((Y.set i (some a)).set j (some b)) Z := rfl
theorem Ht {a b c d : D} {r : List D} : atD (a :: b :: c :: d :: r) 3 = M.ret d := Cp (j := 3) rfl
local macro_rules | `(tactic| walk_at "mi") => `(tactic| simp only [Ig, HH, MJ, Xb, Xa, Xe, Xd, Xc, Xv, Xu, Xw, Jq, Jo, JL, Pk, Px, Xz, Jp, K6, Ff, Cq, Aj, KC, MK, Ju, Gz, VM, Wi, r_bl, VP, We, Wj, Wf, NZ, VN, Wh, Wn, Wm, NP, NB, NK, Oc, Wb, Wo, r_or, r_if, N7, N8, VL, Wd, Wg, r_ix, Ht, Jc, Jb, JK, Vi, k_CUT, Vj, Ph, gs_c2, J8, Wc, NQ, r_B, Oa, Ny, s_ret, s_if, V9, s_while, VB, i_A, i_En, Xk, J9, VR, Nv, Wl, NT, MP, K9, PB, Jm, r_m0, r_m, Mv, Xx, Lk, Jx, r_lc, Og, Oh, WL, WK, o_aT, o_aF, o_aL, o_aS, WR, WT, Xr, Xo, Ol, Oj, Ow, Ov, Option.map_some, HJ, PL, Ib, KY, LQ, Hh, MT, K8, i_R1, map_cons, map_nil, replicate_succ, replicate_zero, nil_append, cons_append, length_cons, length_nil, Nat.reduceAdd, Nat.add_assoc, Nat.zero_add, Nat.add_zero, Nat.reduceSub, true_and, getV, getElem?_cons_zero, getElem?_cons_succ, set_cons_zero, set_cons_succ, WY, JW, O2, LR, Wz, WD, Oz, WF, W6, W7, o_lt, o_gt, o_ge, o_eq, WP, WQ, o_ne, W8, W9, WM, Q8, WW, Om, Oq, Oo, O5, WN, Ox, W0, W4, W3, JB, JD, JC, Od, Hz, Oi, Oe, Pu, Xq, Xp, length_append, length_map, length_set, Jt, Nu, Py, ex_n, Ef, Ax, Ou, Ot, set_off, Ge, Nf, Nk, Nm, Nb, Nh, append_assoc, getElem?_append_left, set_set, getElem?_set_self, Jr, EY, Mi.ix_tup, Pj, Dy, M4, Gy, decide_eq_true_eq, false_eq_true, false_implies, not_false_eq_true, true_implies, not_true_eq_false, true_eq_false, and_true, if_true, if_false, Int.cast_ofNat_Int, Int.reduceEq, Int.reduceLT, Int.reduceLE, decide_true, decide_false, Bool.not_true, Bool.not_false, reduceIte, eq_self, Nat.reduceLeDiff])
local macro_rules | `(tactic| walk_at "mi*") => `(tactic| simp only [Ig, HH, MJ, Xb, Xa, Xe, Xd, Xc, Xv, Xu, Xw, Jq, Jo, JL, Pk, Px, Xz, Jp, K6, Ff, Cq, Aj, KC, MK, Ju, Gz, VM, Wi, r_bl, VP, We, Wj, Wf, NZ, VN, Wh, Wn, Wm, NP, NB, NK, Oc, Wb, Wo, r_or, r_if, N7, N8, VL, Wd, Wg, r_ix, Ht, Jc, Jb, JK, Vi, k_CUT, Vj, Ph, gs_c2, J8, Wc, NQ, r_B, Oa, Ny, s_ret, s_if, V9, s_while, VB, i_A, i_En, Xk, J9, VR, Nv, Wl, NT, MP, K9, PB, Jm, r_m0, r_m, Mv, Xx, Lk, Jx, r_lc, Og, Oh, WL, WK, o_aT, o_aF, o_aL, o_aS, WR, WT, Xr, Xo, Ol, Oj, Ow, Ov, Option.map_some, HJ, PL, Ib, KY, LQ, Hh, MT, K8, i_R1, map_cons, map_nil, replicate_succ, replicate_zero, nil_append, cons_append, length_cons, length_nil, Nat.reduceAdd, Nat.add_assoc, Nat.zero_add, Nat.add_zero, Nat.reduceSub, true_and, getV, getElem?_cons_zero, getElem?_cons_succ, set_cons_zero, set_cons_succ, WY, JW, O2, LR, Wz, WD, Oz, WF, W6, W7, o_lt, o_gt, o_ge, o_eq, WP, WQ, o_ne, W8, W9, WM, Q8, WW, Om, Oq, Oo, O5, WN, Ox, W0, W4, W3, JB, JD, JC, Od, Hz, Oi, Oe, Pu, Xq, Xp, length_append, length_map, length_set, Jt, Nu, Py, ex_n, Ef, Ax, Ou, Ot, set_off, Ge, Nf, Nk, Nm, Nb, Nh, append_assoc, getElem?_append_left, set_set, getElem?_set_self, Jr, EY, Mi.ix_tup, Pj, Dy, M4, Gy, decide_eq_true_eq, false_eq_true, false_implies, not_false_eq_true, true_implies, not_true_eq_false, true_eq_false, and_true, if_true, if_false, Int.cast_ofNat_Int, Int.reduceEq, Int.reduceLT, Int.reduceLE, decide_true, decide_false, Bool.not_true, Bool.not_false, reduceIte, eq_self, Nat.reduceLeDiff, *])
theorem val_put {kvs : List (Key × D)} {k z : Key} {d : D} : valD (G7 kvs k d) z = if k = z then some d else valD kvs z := by
 unfold G7 valD
 by_cases h : kvs.any (fun kv => decide (kv.1 = k)) = true
 ·rw [if_pos h]
  induction kvs with
  | nil => cases h
  | cons p r ih =>
   rw [map_cons, find?_cons, find?_cons]
   by_cases e : p.1 = k
   ·rw [if_pos e]
    dsimp only
    by_cases e2 : k = z
    ·rw [if_pos e2]
     simp [e, e2]
    ·rw [if_neg e2]
     have : ¬ p.1 = z := by rw [e]; exact e2
     simp only [this, decide_false]
     by_cases h2 : r.any (fun kv => decide (kv.1 = k)) = true
     ·have i := ih h2
      rw [if_neg e2] at i
      simpa using i
     ·have : r.map (fun kv => if kv.1 = k then (kv.1, d) else kv) = r := by
       rw [any_eq_true] at h2
       conv => rhs; rw [<- List.map_id r]
       refine List.map_congr_left fun q hq => ?_
       rw [if_neg fun e => h2 ⟨q, hq, by simpa using e⟩]
       rfl
      rw [this]
   ·rw [if_neg e]
    have h2 : r.any (fun kv => decide (kv.1 = k)) = true := by
     rw [List.any_cons] at h
     simpa [e] using h
    have i := ih h2
    by_cases e3 : p.1 = z
    ·have : ¬ k = z := fun q => e (e3.trans q.symm)
     rw [if_neg this]
     simp [e3]
    ·simp only [e3, decide_false]
     exact i
 ·rw [if_neg h]
  rw [List.find?_append]
  by_cases e : k = z
  ·rw [if_pos e]
   have : kvs.find? (fun kv => decide (kv.1 = z)) = none := by
    rw [List.find?_eq_none]
    intro q hq
    rw [any_eq_true] at h
    exact fun e2 => h ⟨q, hq, by rw [e]; exact e2⟩
   rw [this]
   simp [e]
  ·rw [if_neg e]
   have : List.find? (fun kv => decide (kv.1 = z)) [(k, d)] = none := by simp [e]
   rw [this]
   simp
theorem val_drop {kvs : List (Key × D)} {k z : Key} : valD (Jj kvs k) z = if k = z then none else valD kvs z := by
 unfold Jj valD
 rw [List.find?_filter]
 by_cases e : k = z
 ·rw [if_pos e]
  have : kvs.find? (fun a => decide (a.1 ≠ k /\ decide (a.1 = z) = true)) = none := by
   rw [List.find?_eq_none]
   intro q hq
   simp [e]
  simp only [this] at *
  subst e
  simp
 ·rw [if_neg e]
  have : (fun a : Key × D => decide (decide (a.1 ≠ k) = true /\ decide (a.1 = z) = true)) = fun a => decide (a.1 = z) := by
   funext a
   by_cases h : a.1 = z
   ·simp [h, Ne.symm e]
   ·simp [h]
  simp only [this]
theorem Y6 {kvs : List (Key × D)} {k : Key} {d : D} : (G7 kvs k d).length <= kvs.length + 1 := by
 unfold G7
 split <;> simp
theorem X4 {kvs : List (Key × D)} {k : Key} : (Jj kvs k).length <= kvs.length := length_filter_le _ _
theorem Kr {Z : List O} {i : Nat} {o : O} (h : Z[i]? = some o) : Z.set i o = Z := by
 refine ext_getElem? fun j => ?_
 by_cases e : i = j
 ·subst e
  rw [Ce h, h]
 ·rw [getElem?_set_ne e]
theorem Yg {a : Type} : ∀ {l : List a} {i : Nat} {x : a}, l.Nodup -> l[i]? = some x -> x ∉ l.take i
 | [], _, _, _, h => by cases h
 | y :: l, 0, _, _, _ => by simp
 | y :: l, i + 1, x, nd, h => by
  obtain ⟨n1, n2⟩ := nodup_cons.mp nd
  rw [List.take_succ_cons, mem_cons]
  have h : l[i]? = some x := by simpa using h
  rintro (rfl | hm)
  ·exact n1 (mem_of_getElem? h)
  ·exact Yg n2 h hm
def telD : Tel -> D
 | .ht v => .tup [.str "height", fr v]
 | .st v => .tup [.str "stream", fr v]
 | .sl g p => .tup [.str "slope", fr g, fr p]
abbrev L := Lw Str
def Zg (l : L) : D := .tup [.str l.nm, .tup [.str l.a, .str l.b], telD l.t]
def upE (e : Nat × Str × Int) : D := .tup [.int e.1, .str e.2.1, .int e.2.2]
theorem upE_eq {a : Nat} {k : Str} {w : Int} : upE (a, k, w) = .tup [.int a, .str k, .int w] := rfl
def UpD (kvs : List (Key × D)) (up : Up Str) : Prop := ∀ x : Str, valD kvs (.inr x) = (up x).map upE
def gvF (lh u c : Nat) : List (Str × D) := [("laws_held", .ref lh), ("ups", .ref u), ("closing", .ref c)]
theorem gv2 {lh u c : Nat} : (gvF lh u c).lookup ("ups" : Str) = some (.ref u) := rfl
theorem gm2 {lh u c : Nat} : ((gvF lh u c).lookup ("way_up" : Str)).isNone = true := rfl
theorem XS {l : Nat} {x : Str} {d : D} {kvs : List (Key × D)} {Z : List O} {P : D -> List O -> Prop} {E : Ex -> List O -> Prop} (h : Z[l]? = some (.dct kvs)) (hv : valD kvs (.inr x) = some d) : Wp (ixD (.ref l) (.str x)) Z P E ↔ P d Z := by
 rw [Ib, Cq, HJ]
 constructor
 ·rintro ⟨kvs', e, q⟩
  rw [h] at e
  cases e
  rw [hv] at q
  exact Aj.mp q
 ·intro q
  refine ⟨kvs, h, ?_⟩
  rw [hv]
  exact Aj.mpr q
theorem inrS {x : Str} : keyD (.str x) = some (.inr x) := rfl
section
variable {Z : List O} {E : Ex -> List O -> Prop} {g lh u c : Nat} {kvs : List (Key × D)} {up : Up Str}
def stD (p : Sp Str) : D := .tup [.str p.fr, .int p.at_, .str p.to, .int p.way]
theorem way_loop {k r : Str} {s : List (Sp Str)} {f : Nat} {S : SR -> List O -> Prop} (hk : UpD kvs up) (h : Ld up k s r) : ∀ n Z acc x3 x4 x5, s.length < n -> acc.length + s.length <= 1000 -> Z[g]? = some (.ins "Grove" (gvF lh u c)) -> Z[u]? = some (.dct kvs) -> Z[f]? = some (.lst acc) -> f ≠ g -> f ≠ u -> (∀ y3 y4 y5, S (.nx [some (.ref g), some (.str r), some (.ref f), y3, y4, y5]) (Z.set f (.lst (acc ++ s.map stD)))) ->
  Ws (whl (Ba .In (inD false) (Ae 1) (cFld "Grove" "ups" (Ae 0))).run (Af (Bv (gT (Ak (gN 3) (Ak (gN 4) (Ak (gN 5) gsNil))) 3) (cIx (cFld "Grove" "ups" (Ae 0)) (Ae 1)))
 (Af (CP (cM "list" "append" appD (Ae 2) (Aa (Bg (Aa (Ae 1) (Aa (Ae 3) (Aa (Ae 4) (Aa (Ae 5) aNil))))) aNil)))
 (Af (Bv (gN 1) (Ae 4))
 bNil))).run n [some (.ref g), some (.str k), some (.ref f), x3, x4, x5]) Z S := by
 induction h with
 | @root k e =>
  intro n Z acc x3 x4 x5 hn hz hg hu hf n1 n2 hS
  obtain ⟨n, rfl⟩ : ∃ m, n = m + 1 := ⟨n - 1, by simp at hn; omega⟩
  rw [Hu]
  have v := hk k
  rw [e] at v
  walk_at "mi"
  refine ⟨_, hg, _, gv2, ?_⟩
  rw [wp_inK hu inrS, v]
  walk_at "mi"
  have := hS x3 x4 x5
  rw [map_nil, append_nil, show Z.set f (.lst acc) = Z from by
   refine ext_getElem? fun j => ?_
   by_cases e : f = j
   ·subst e
    rw [Ce hf, hf]
   ·rw [getElem?_set_ne e]] at this
  exact this
 | @step k k' r a w s e h ih =>
  intro n Z acc x3 x4 x5 hn hz hg hu hf n1 n2 hS
  obtain ⟨n, rfl⟩ : ∃ m, n = m + 1 := ⟨n - 1, by simp at hn; omega⟩
  rw [Hu]
  have v := hk k
  rw [e] at v
  walk_at "mi"
  refine ⟨_, hg, _, gv2, ?_⟩
  rw [wp_inK hu inrS, v]
  walk_at "mi"
  refine ⟨_, hg, _, gv2, ?_⟩
  rw [XS hu v, upE_eq]
  have hs := sizeLine_eq
  walk_at "mi"
  simp only [length_cons] at hz hn
  refine ⟨_, hf, ⋯, _, hf, ⋯, ?_⟩
  refine ih n _ _ _ _ _ ⋯ (by simp; omega) ?_ ?_ (Ce hf) n1 n2 fun y3 y4 y5 => ?_
  ·rw [getElem?_set_ne n1]; exact hg
  ·rw [getElem?_set_ne n2]; exact hu
  ·have := hS y3 y4 y5
   rw [set_set, append_assoc]
   exact this
theorem run_way {k r : Str} {s : List (Sp Str)} {Z : List O} (hg : Z[g]? = some (.ins "Grove" (gvF lh u c))) (hu : Z[u]? = some (.dct kvs)) (hk : UpD kvs up) (h : Ld up k s r) (hs : s.length < 100) : Wp (Eb [.ref g, .str k]) Z (fun d Z' => d = .ref Z.length /\ Z' = Z ++ [.lst (s.map stD)]) E := by
 unfold Eb Gu
 walk_at "mi"
 refine ⟨Nat.zero_le _, ?_⟩
 have g1 := Gr0.app Z [O.lst []]
 have lg := (XqB hg).1
 have lu := (XqB hu).1
 refine way_loop (f := Z.length) hk h 100 _ _ _ _ _ hs (by rw [length_nil]; omega) (g1.at_ _ _ hg) (g1.at_ _ _ hu) (by rw [Ax]; rfl) ⋯ ⋯ fun y3 y4 y5 => ?_
 walk_at "mi"
def popU (up : Up Str) (s : List (Sp Str)) : Up Str := fun x => if x ∈ s.map Sp.fr then none else up x
def setU (up : Up Str) : List (Sp Str) -> Up Str
 | [] => up
 | p :: s => setU (fun x => if x = p.to then some (p.at_, p.fr, 0 - p.way) else up x) s
theorem Y8 {s : List (Sp Str)} {p : Sp Str} : popU up (s ++ [p]) = fun x => if x = p.fr then none else popU up s x := by
 funext x
 unfold popU
 rw [map_append, map_cons, map_nil]
 by_cases h : x = p.fr
 ·rw [if_pos h, if_pos (by rw [h]; simp)]
 ·rw [if_neg h]
  by_cases h2 : x ∈ s.map Sp.fr
  ·rw [if_pos h2, if_pos (mem_append_left _ h2)]
  ·rw [if_neg h2, if_neg (fun hm => (mem_append.mp hm).elim h2 (fun hm => h (mem_singleton.mp hm)))]
theorem Rx {p : Sp Str} : ∀ {s : List (Sp Str)} {up : Up Str}, setU up (s ++ [p]) = fun x => if x = p.to then some (p.at_, p.fr, 0 - p.way) else setU up s x
 | [], _ => rfl
 | q :: s, up => Rx (s := s)
theorem upD_put {a : Nat} {k k' : Str} {w : Int} (h : UpD kvs up) : UpD (G7 kvs (.inr k) (upE (a, k', w))) (fun x => if x = k then some (a, k', w) else up x) := by
 intro x
 rw [val_put]
 by_cases e : x = k
 ·subst e
  rw [if_pos rfl]
  simp
 ·rw [if_neg (by intro z; cases z; exact e rfl)]
  simp only [e, if_false]
  exact h x
theorem upD_drop {k : Str} (h : UpD kvs up) : UpD (Jj kvs (.inr k)) (fun x => if x = k then none else up x) := by
 intro x
 rw [val_drop]
 by_cases e : x = k
 ·subst e
  rw [if_pos rfl]
  simp
 ·rw [if_neg (by intro z; cases z; exact e rfl)]
  simp only [e, if_false]
  exact h x
theorem Hj {k r : Str} {s : List (Sp Str)} {Z : List O} (hg : Z[g]? = some (.ins "Grove" (gvF lh u c))) (hu : Z[u]? = some (.dct kvs)) (hk : UpD kvs up) (h : Ld up k s r) (hs : s.length < 100) (hz : kvs.length <= 100000) (ne : u ≠ g) : Wp (FQ [.ref g, .str k]) Z (fun d Z' => d = .non /\ ∃ kvs' ν, Z' = (Z ++ ν).set u (.dct kvs') /\ UpD kvs' (setU (popU up s) s) /\ kvs'.length <= kvs.length + 100) E := by
 unfold FQ FT
 have hz2 := sizeLine_eq
 walk_at "mi"
 refine ⟨_, hg, gm2, ?_⟩
 refine Wp.go (run_way hg hu hk h hs) ?_
 rintro _ _ ⟨rfl, rfl⟩
 have g1 := Gr0.app Z [O.lst (s.map stD)]
 have lu := (XqB hu).1
 have hf : (Z ++ [O.lst (s.map stD)])[Z.length]? = some (.lst (s.map stD)) := by rw [Ax]; rfl
 have hu1 := g1.at_ _ _ hu
 have hg1 := g1.at_ _ _ hg
 generalize hμ1 : Z ++ [O.lst (s.map stD)] = Z1 at hf hu1 hg1 ⊢
 walk_at "mi"
 refine ⟨_, hf, ?_⟩
 have nd := (nodup_append.mp h.nd).1
 have fu : Z.length ≠ u := by omega
 have last : ∀ kvs', Z1.set u (.dct kvs') = (Z ++ [O.lst (s.map stD)]).set u (.dct kvs') := fun _ => by rw [hμ1]
 refine Qe (fun i Y Z' => (∃ x3 x4 x5 x6, Y = [some (.ref g), some (.str k), some (.ref Z.length), x3, x4, x5, x6]) /\ ∃ kvs', Z' = Z1.set u (.dct kvs') /\ UpD kvs' (popU up (s.take i)) /\ kvs'.length <= kvs.length) ?_ ?_ ?_ ?_
 ·refine ⟨⟨_, _, _, _, rfl⟩, kvs, (Kr hu1).symm, ?_, XqG⟩
  rw [take_zero]
  have : popU up [] = up := by funext x; exact if_neg (by simp)
  rw [this]
  exact hk
 ·rintro i Y Z' ⟨_, kvs', rfl, _, _⟩
  rw [getElem?_set_ne (Ne.symm fu)]
  exact hf
 ·rintro i d Y Z' hd ⟨⟨x3, x4, x5, x6, rfl⟩, kvs', rfl, hk', hl⟩
  rw [getElem?_map] at hd
  cases hp : s[i]? with
  | none => rw [hp] at hd; cases hd
  | some p =>
   rw [hp] at hd
   cases hd
   have hi := (XqB hp).1
   refine ⟨_, _, rfl, ?_⟩
   have hg2 : (Z1.set u (.dct kvs'))[g]? = some (.ins "Grove" (gvF lh u c)) := by rw [getElem?_set_ne ne]; exact hg1
   have hu2 : (Z1.set u (.dct kvs'))[u]? = some (.dct kvs') := Ce hu1
   have nf : p.fr ∉ (s.take i).map Sp.fr := by
    rw [List.map_take]
    exact Yg nd (by rw [getElem?_map, hp]; rfl)
   have v : valD kvs' (.inr p.fr) = some (upE (p.at_, p.to, p.way)) := by
    rw [hk' p.fr]
    unfold popU
    rw [if_neg nf, (h.mid (mem_of_getElem? hp)).1]
    rfl
   dsimp only [set_cons_succ, set_cons_zero]
   walk_at "mi"
   refine ⟨_, hg2, _, gv2, ?_⟩
   rw [LQ]
   refine ⟨_, hu2, ?_⟩
   rw [wp_dpop hu2 inrS v]
   refine ⟨⟨_, _, _, _, rfl⟩, _, by rw [set_set], ?_, Nat.le_trans X4 hl⟩
   have e : s.take (i + 1) = s.take i ++ [p] := by rw [take_succ, hp]; rfl
   rw [e, Y8]
   exact upD_drop hk'
 ·rintro Y Z' ⟨⟨x3, x4, x5, x6, rfl⟩, kvs', rfl, hk', hl⟩
  rw [length_map, take_length] at hk'
  have hf2 : (Z1.set u (.dct kvs'))[Z.length]? = some (.lst (s.map stD)) := by rw [getElem?_set_ne (Ne.symm fu)]; exact hf
  walk_at "mi"
  refine ⟨_, hf2, ?_⟩
  refine Qe (fun i Y Z' => (∃ x3 x4 x5 x6, Y = [some (.ref g), some (.str k), some (.ref Z.length), x3, x4, x5, x6]) /\ ∃ kvs2, Z' = Z1.set u (.dct kvs2) /\ UpD kvs2 (setU (popU up s) (s.take i)) /\ kvs2.length <= kvs.length + i /\ i <= s.length) ?_ ?_ ?_ ?_
  ·exact ⟨⟨_, _, _, _, rfl⟩, kvs', rfl, hk', hl, Nat.zero_le _⟩
  ·rintro i Y Z' ⟨_, kvs2, rfl, _, _⟩
   rw [getElem?_set_ne (Ne.symm fu)]
   exact hf
  ·rintro i d Y Z' hd ⟨⟨y3, y4, y5, y6, rfl⟩, kvs2, rfl, hk2, hl2, hi2⟩
   rw [getElem?_map] at hd
   cases hp : s[i]? with
   | none => rw [hp] at hd; cases hd
   | some p =>
    rw [hp] at hd
    cases hd
    have hi := (XqB hp).1
    refine ⟨_, _, rfl, ?_⟩
    have hg2 : (Z1.set u (.dct kvs2))[g]? = some (.ins "Grove" (gvF lh u c)) := by rw [getElem?_set_ne ne]; exact hg1
    have hu2 : (Z1.set u (.dct kvs2))[u]? = some (.dct kvs2) := Ce hu1
    dsimp only [set_cons_succ, set_cons_zero]
    walk_at "mi"
    refine ⟨⋯, _, hg2, _, gv2, ?_⟩
    rw [KY]
    refine ⟨_, hu2, ⋯, ⟨_, _, _, _, rfl⟩, _, by rw [set_set], ?_, ?_, hi⟩
    ·have e : s.take (i + 1) = s.take i ++ [p] := by rw [take_succ, hp]; rfl
     rw [e, Rx]
     exact upD_put hk2
    ·have := Y6 (kvs := kvs2) (k := .inr p.to) (d := .tup [.int p.at_, .str p.fr, .int (0 - p.way)])
     omega
  ·rintro Y Z' ⟨⟨y3, y4, y5, y6, rfl⟩, kvs2, rfl, hk2, hl2, hi2⟩
   rw [length_map, take_length] at hk2
   rw [length_map] at hl2
   walk_at "mi"
   exact ⟨kvs2, _, last _, hk2, ⋯⟩
structure GA (ls : List L) (Z : List O) (g lh u c n : Nat) : Prop where
 obj : Z[g]? = some (.ins "Grove" (gvF lh u c))
 laws : Z[lh]? = some (.lst (ls.map Zg))
 ups : ∃ kvs up, Z[u]? = some (.dct kvs) /\ UpD kvs up /\ Gv ls n up /\ kvs.length <= 200 * n
 cl : Z[c]? = some (.lst ((closing ls n).map fun (x : Nat) => D.int x))
 ne : u ≠ g /\ c ≠ g /\ u ≠ c /\ lh ≠ u /\ lh ≠ c
theorem nd_len {a : Type} [DecidableEq a] : ∀ {l m : List a}, l.Nodup -> (∀ x ∈ l, x ∈ m) -> l.length <= m.length
 | [], _, _, _ => Nat.zero_le _
 | x :: l, m, nd, h => by
  obtain ⟨n1, n2⟩ := nodup_cons.mp nd
  have hx := h x (mem_cons_self ..)
  have i := nd_len (l := l) (m := m.erase x) n2 fun y hy => (List.mem_erase_of_ne (fun (e : y = x) => n1 (by rw [<- e]; exact hy))).mpr (h y (mem_cons_of_mem _ hy))
  rw [List.length_erase_of_mem hx] at i
  have := List.length_pos_of_mem hx
  simp only [length_cons]
  omega
end
section
open PySem L2 PyProof.Rows Mi Std Rn Rg
open Lq (Kp)
theorem wp_lc_mp {w : Wk} {g : CG} {e : Mi.Env -> M D} {Y : Mi.Env} {Z : List O} {P : D -> List O -> Prop} {E : Ex -> List O -> Prop} {a : Type} (xs : List a) (c : a -> D) (φ : a -> D)
  (hn : xs.length <= w.fuel) (hz : xs.length <= sizeLine) (src : ∀ i acc, w.get i (Z ++ [.lst acc]) = some (xs[i]?.map c))
  (step : ∀ x ∈ xs, ∀ acc, ∃ Y1, g.run (c x) Y (Z ++ [.lst acc]) = some (Y1, Z ++ [.lst acc]) /\ Wp (e Y1) (Z ++ [.lst acc]) (fun y Z3 => y = φ x /\ Z3 = Z ++ [.lst acc]) (fun _ _ => False))
  (q : P (.ref Z.length) (Z ++ [.lst (xs.map φ)])) : Wp (lcM w g fNil.run e Y) Z P E := by
 refine Lq.Uv xs c (fun _ => true) φ hn hz src (fun x hx acc => ?_) ?_
 ·obtain ⟨Y1, h1, h2⟩ := step x hx acc
  exact ⟨Y1, h1, by rw [Mv, Aj]; exact ⟨rfl, rfl⟩, fun _ => h2⟩
 ·have : xs.filter (fun _ => true) = xs := List.filter_eq_self.mpr fun _ _ => rfl
  rw [this]
  exact q
section
variable {Z : List O} {E : Ex -> List O -> Prop} {g lh u c : Nat} {up : Up Str}
theorem Hr {xs : List D} {x : D} : atD (xs ++ [x]) (-1) = M.ret x := by
 refine Lq.atD_end (n := xs.length) (by simp) ?_
 rw [getElem?_append_right XqG]
 simp
end
section
variable {Z : List O} {E : Ex -> List O -> Prop}
theorem Sm.sum {B : Nat} : ∀ {xs : List Rat}, (∀ x ∈ xs, Sm B x) -> Sm (xs.length * (B + 1) + 1) xs.sum
 | [], _ => sm0 ⋯
 | x :: xs, h => by
  have i := Sm.sum fun y hy => h y (mem_cons_of_mem _ hy)
  have := (h x (mem_cons_self ..)).add i
  rw [sum_cons]
  refine this.up ?_
  rw [length_cons, Nat.add_mul]
  omega
theorem run_sum {B : Nat} {xs : List Rat} {l : Nat} (hl : Z[l]? = some (.lst (xs.map fr))) (hx : ∀ x ∈ xs, Sm B x) (hB : xs.length * (B + 1) + 1 <= 400000) (h1 : B <= 400000) : Wp (Ve [.ref l]) Z (fun d Z' => d = fr xs.sum /\ Z' = Z) E := by
 unfold Ve Vv
 walk_at "mi"
 refine ⟨_, hl, ?_⟩
 have e0 : (k_NOUGHT : D) = fr (xs.take 0).sum := by rw [take_zero, List.sum_nil]; rfl
 rw [e0]
 generalize hf : (fun i => fr (xs.take i).sum) = F
 have hF : ∀ i, fr (xs.take i).sum = F i := fun i => by rw [<- hf]
 rw [hF]
 refine Qe (fun i Y Z' => i <= xs.length /\ (∃ x2, Y = [some (.ref l), some (F i), x2]) /\ Z' = Z) ⟨Nat.zero_le _, ⟨_, rfl⟩, rfl⟩ (by rintro i Y Z' ⟨_, _, rfl⟩; exact hl) ?_ ?_
 ·rintro i d Y Z' hd ⟨hi, ⟨x2, rfl⟩, rfl⟩
  rw [getElem?_map] at hd
  cases hx2 : xs[i]? with
  | none => rw [hx2] at hd; cases hd
  | some x =>
   rw [hx2] at hd
   cases hd
   have hi2 := (XqB hx2).1
   refine ⟨_, _, rfl, ?_⟩
   dsimp only [set_cons_succ, set_cons_zero]
   rw [<- hF]
   walk_at "mi"
   have e : (xs.take (i + 1)).sum = (xs.take i).sum + x := by
    rw [take_succ, hx2, List.sum_append]
    show _ + (x + 0) = _
    grind
   have s1 := Sm.sum (B := B) (xs := xs.take i) fun y hy => hx y (List.mem_of_mem_take hy)
   have s2 := hx x (mem_of_getElem? hx2)
   have l1 : (xs.take i).length * (B + 1) + 1 <= xs.length * (B + 1) + 1 := Nat.add_le_add_right (Nat.mul_le_mul_right _ (by rw [length_take]; omega)) _
   refine Wp.go (Qu (A := xs.length * (B + 1) + 1) (s1.up l1) (s2.up ?_) ⋯ hB) ?_
   ·have : 1 * (B + 1) <= xs.length * (B + 1) := Nat.mul_le_mul_right _ ⋯
    omega
   ·rintro _ _ ⟨rfl, rfl⟩
    rw [<- e, hF]
    exact ⟨hi2, ⟨_, rfl⟩, rfl⟩
 ·rintro Y Z' ⟨_, ⟨x2, rfl⟩, rfl⟩
  rw [length_map, <- hF, take_length]
  walk_at "mi"
end
end
section
open PySem L2 PyProof.Rows Mi Std Rn Rg
open Lq (Kp)
section
variable {Z : List O} {E : Ex -> List O -> Prop} {lh : Nat}
open Classical in
end
end
section
open PySem L2 PyProof.Rows Mi Std Rn Rg
open Lq (Kp)
def Rv {β : Type} (ks : List (Str × β)) : List (Str × β) := ks.mergeSort fun a b => leS a.1 b.1
theorem pair_le {x y : Str} {p q : PyData} (al : W.alike p q = true) (al2 : W.alike q p = true) (h : x = y -> p = q) (hr : PyData.eqv p p = true) : (!W.dataLt (.tuple [.str y, q]) (.tuple [.str x, p])) = leS x y := by
 rw [W.dataLt_pair (by simp [W.alike]) al2]
 have e : PyData.eqv (.str y) (.str x) = decide (y = x) := by simp [PyData.eqv]; rfl
 rw [e]
 by_cases hxy : y = x
 ·subst hxy
  have := h rfl
  subst this
  simp [hr, leS]
 ·have d := congrFun (congrFun (W.dataLe_str (fun b : Str => b)) x) y
  rw [W.dataLe_eq] at d
  simp only [hxy, decide_false, false_eq_true, if_false]
  exact d
theorem Sv {a b : Type} {f : a -> b} : ∀ {l : List a}, (l.map f).Nodup -> ∀ {x y : a}, x ∈ l -> y ∈ l -> f x = f y -> x = y
 | z :: l, nd, x, y, hx, hy, e => by
  obtain ⟨n1, n2⟩ := nodup_cons.mp nd
  rcases mem_cons.mp hx with e1 | h1
  ·rcases mem_cons.mp hy with e2 | h2
   ·rw [e1, e2]
   ·exact absurd (by rw [<- e1, e]; exact mem_map_of_mem h2) n1
  ·rcases mem_cons.mp hy with e2 | h2
   ·exact absurd (by rw [<- e2, <- e]; exact mem_map_of_mem h1) n1
   ·exact Sv n2 h1 h2 e
theorem FZ {β : Type} {ks : List (Str × β)} (nd : (ks.map (·.1)).Nodup) (item : Str × β -> D) (c : β -> PyData) (al : ∀ a ∈ ks, ∀ b ∈ ks, W.alike (c a.2) (c b.2) = true) (hr : ∀ a ∈ ks, PyData.eqv (c a.2) (c a.2) = true) : Fv (ks.map fun q => .tuple [.str q.1, c q.2]) (ks.map item) = (Rv ks).map item := by
 unfold Fv Rv
 have ez : (ks.map item).zip (ks.map fun q => PyData.tuple [.str q.1, c q.2]) = ks.map fun q => (item q, PyData.tuple [.str q.1, c q.2]) := by
  clear nd al hr
  induction ks with
  | nil => rfl
  | cons a r ih => simp only [map_cons, List.zip_cons_cons, ih]
 rw [ez]
 have inj : ∀ a ∈ ks, ∀ b ∈ ks, a.1 = b.1 -> a = b := fun a ha b hb e => Sv nd ha hb e
 rw [<- List.map_mergeSort (r := fun a b => leS a.1 b.1) (f := fun q : Str × β => (item q, PyData.tuple [.str q.1, c q.2])), map_map]
 ·rfl
 ·intro a ha b hb
  rw [W.dataLe_eq]
  show leS a.1 b.1 = !W.dataLt (.tuple [.str b.1, c b.2]) (.tuple [.str a.1, c a.2])
  rw [pair_le (al a ha b hb) (al b hb a ha) (fun e => by rw [inj a ha b hb e]) (hr a ha)]
def t1 : Tel -> Rat
 | .ht v => v
 | .st v => v
 | .sl g _ => g
def crossV (S : List Str) (l : L) : Rat := if decide (l.a ∈ S) = decide (l.b ∈ S) then 0 else if l.a ∈ S then t1 l.t else 0 - t1 l.t
def cutV (ls : List L) (S : List Str) : Rat := (ls.map (crossV S)).sum
section
variable {Z : List O} {E : Ex -> List O -> Prop} {lh : Nat}
end
end
section
open PySem L2 PyProof.Rows Mi Std Rn Rg
open Lq (Kp)
section
variable {Z : List O} {E : Ex -> List O -> Prop} {lh : Nat}
end
section
variable {Z : List O} {E : Ex -> List O -> Prop} {lh : Nat}
end
end
section
open PySem L2 PyProof.Rows Mi Std Rn Rg
open Lq (Kp)
def Bl (f b : Nat) (Z Z' : List O) : Prop := Z.length <= Z'.length /\ ∀ (j : Nat) o, j ≠ f -> j < b -> Z[j]? = some o -> Z'[j]? = some o
theorem Bl.refl {f b : Nat} {Z : List O} : Bl f b Z Z := ⟨XqG, fun _ _ _ _ h => h⟩
theorem Bl.trans {f n : Nat} {a b c : List O} (x : Bl f n a b) (y : Bl f n b c) : Bl f n a c := ⟨Nat.le_trans x.1 y.1, fun j o n h e => y.2 j o n h (x.2 j o n h e)⟩
theorem Bl.gr {f n : Nat} {a b : List O} (x : Gr0 a b) : Bl f n a b := ⟨x.len, fun j o _ _ e => x.at_ j o e⟩
theorem Bl.set {f n l : Nat} {a : List O} {o : O} (h : l = f \/ n <= l) : Bl f n a (a.set l o) := ⟨by simp, fun j o' nf hj e => by rw [getElem?_set_ne ⋯]; exact e⟩
section
variable {Z : List O} {E : Ex -> List O -> Prop} {lh : Nat}
end
theorem Kw {β : Type} {c : β -> PyData} (ks : List (Str × β)) (al : ∀ a ∈ ks, ∀ b ∈ ks, W.alike (c a.2) (c b.2) = true) (dp : ∀ a ∈ ks, (c a.2).depth <= 50) : KQ (ks.map fun q => .tuple [.str q.1, c q.2]) = true := by
 unfold KQ
 simp only [and_eq_true, or_eq_true, all_eq_true, decide_eq_true_eq]
 refine ⟨⟨fun a ha b hb => ?_, .inl fun a ha => ?_⟩, fun a ha => ?_⟩
 ·obtain ⟨p, hp, rfl⟩ := mem_map.mp ha
  obtain ⟨q, hq, rfl⟩ := mem_map.mp hb
  have := al p hp q hq
  simp [W.alike, W.alikeAll, this]
 ·obtain ⟨p, hp, rfl⟩ := mem_map.mp ha
  rfl
 ·obtain ⟨p, hp, rfl⟩ := mem_map.mp ha
  have := dp p hp
  simp [PyData.depth, PyData.depthAll]
  omega
section
variable {Z : List O} {E : Ex -> List O -> Prop} {lh : Nat}
end
end
section
open PySem L2 PyProof.Rows Mi Std Rn Rg
open Lq (Kp)
def cutD (S : List Str) : D := .tup [.str "cut", .tup (S.map D.str)]
section
variable {Z : List O} {E : Ex -> List O -> Prop} {lh : Nat}
end
section
variable {Z : List O} {E : Ex -> List O -> Prop} {lh : Nat}
end
end
section
open PySem L2 PyProof.Rows Mi Std Rn Rg
open Lq (Kp)
def kvN (xs : List Str) (off : Nat) : List (Key × D) := xs.zipIdx.map fun q => (.inr q.1, .int ((off + q.2 : Nat) : Int))
def netK (ls : List L) : List Str := sortS (putsT [] ((ls.map fun l => [l.a, l.b]).flatten.filter fun k => !decide (k = ("base" : Str))))
def ledN (ls : List L) : List Str := (ls.filter fun l => l.t.isH).map (·.nm)
def netF (lh pl ld m : Nat) : List (Str × D) := [("laws_told", .ref lh), ("places", .ref pl), ("led_places", .ref ld), ("many", .int m)]
structure NetAt (ls : List L) (Z : List O) (n lh pl ld : Nat) : Prop where
 obj : Z[n]? = some (.ins "Net" (netF lh pl ld ((netK ls).length + (ledN ls).length)))
 laws : Z[lh]? = some (.lst (ls.map Zg))
 places : rdO Z pl = some (kvN (netK ls) 0)
 led : Z[ld]? = some (.dct (kvN (ledN ls) (netK ls).length))
theorem NetAt.gr {ls : List L} {Z Z' : List O} {n lh pl ld : Nat} (h : NetAt ls Z n lh pl ld) (g : Gr0 Z Z') : NetAt ls Z' n lh pl ld := by
 refine ⟨g.at_ _ _ h.obj, g.at_ _ _ h.laws, ?_, g.at_ _ _ h.led⟩
 have := h.places
 unfold rdO at this ⊢
 cases e : Z[pl]? with
 | none => rw [e] at this; cases this
 | some o => rw [g.at_ _ _ e]; rw [e] at this; exact this
section
variable {Z : List O} {E : Ex -> List O -> Prop} {lh : Nat}
end
end
section
open PySem L2 PyProof.Rows Mi Std Rn Rg
open Lq (Kp)
abbrev Row := Le.Row
def plK (ls : List L) (k : Str) : Nat := (netK ls).idxOf k
def leanR (ls : List L) (row : Row) (k : Str) (c : Rat) : Row := if k = ("base" : Str) then row else row.set (plK ls k) (row.getD (plK ls k) 0 + c)
def Rq (ls : List L) : Nat := (netK ls).length + (ledN ls).length
section
variable {Z : List O} {E : Ex -> List O -> Prop} {lh n pl ld : Nat} {ls : List L}
end
def Iz (d : Int) (t m : Nat) (c : Rat) : Prop := ∃ z : Int, z.natAbs <= m * 2 ^ t /\ c * (d : Rat) = (z : Rat)
theorem Iz.up {d : Int} {t m m' : Nat} {c : Rat} (h : Iz d t m c) (hm : m <= m') : Iz d t m' c := by
 obtain ⟨z, h1, h2⟩ := h
 exact ⟨z, Nat.le_trans h1 (Nat.mul_le_mul_right _ hm), h2⟩
theorem Iz.add {d : Int} {t m m' : Nat} {c e : Rat} (h : Iz d t m c) (k : Iz d t m' e) : Iz d t (m + m') (c + e) := by
 obtain ⟨z, h1, h2⟩ := h
 obtain ⟨y, k1, k2⟩ := k
 refine ⟨z + y, ?_, ?_⟩
 ·rw [Nat.add_mul]
  omega
 ·rw [Rat.add_mul, h2, k2]
  exact (Rat.intCast_add z y).symm
theorem Iz.neg {d : Int} {t m : Nat} {c : Rat} (h : Iz d t m c) : Iz d t m (0 - c) := by
 obtain ⟨z, h1, h2⟩ := h
 refine ⟨-z, ⋯, ?_⟩
 have e : ((-z : Int) : Rat) = -(z : Rat) := Rat.intCast_neg z
 rw [e, <- h2]
 grind
theorem Iz.sub {d : Int} {t m m' : Nat} {c e : Rat} (h : Iz d t m c) (k : Iz d t m' e) : Iz d t (m + m') (c - e) := by
 have := h.add k.neg
 rw [show c + (0 - e) = c - e by grind] at this
 exact this
theorem Iz.sm {d : Int} {t m : Nat} {c : Rat} (h : Iz d t m c) (d0 : d ≠ 0) (hd : d.natAbs < 2 ^ t) (hm : m < 1024) : Sm (t + 10) c := by
 obtain ⟨z, h1, h2⟩ := h
 have p : 0 < 2 ^ t := Nat.pow_pos ⋯
 have e : 2 ^ (t + 10) = 1024 * 2 ^ t := by rw [Nat.pow_add]; omega
 refine Po.Nt d0 h2 ?_ ?_
 ·have : m * 2 ^ t < 1024 * 2 ^ t := Nat.mul_lt_mul_of_pos_right hm p
  omega
 ·omega
def TelZ (d : Int) (t : Nat) : Tel -> Prop
 | .ht v => Iz d t 1 v
 | .st v => Iz d t 1 v
 | .sl g p => Iz d t 1 g /\ Iz d t 1 p
def plL (ls : List L) (nm : Str) : Nat := (netK ls).length + (ledN ls).idxOf nm
def wayR (k : Str) (l : L) : Rat := if k = l.a then 1 else 0 - 1
def rowStep (ls : List L) (k : Str) (s : Row × Rat) (l : L) : Row × Rat := if k = l.a \/ k = l.b then (match l.t with
 | .ht _ => (s.1.set (plL ls l.nm) (wayR k l), s.2)
 | .st v => (s.1, s.2 - wayR k l * v)
 | .sl g p => (leanR ls (leanR ls s.1 l.a (wayR k l * g)) l.b (0 - wayR k l * g), s.2 - wayR k l * p)) else s
def knotR (ls : List L) (k : Str) (m : Nat) : Row × Rat := (ls.take m).foldl (rowStep ls k) (replicate (Rq ls) 0, 0)
end
section
open PySem L2 PyProof.Rows Mi Std Rn Rg
open Lq (Kp)
section
variable {Z : List O} {E : Ex -> List O -> Prop} {lh n pl ld : Nat} {ls : List L}
end
end
section
open PySem L2 PyProof.Rows Mi Std Rn Rg
open Lq (Kp)
def ledR (ls : List L) (l : L) : Row := leanR ls (leanR ls (replicate (Rq ls) 0) l.a 1) l.b (0 - 1)
section
variable {Z : List O} {E : Ex -> List O -> Prop} {lh n pl ld : Nat} {ls : List L}
def rowsN (ls : List L) : List Row := (netK ls).map (fun k => (knotR ls k ls.length).1) ++ (hts ls).map (ledR ls)
def rightN (ls : List L) : Row := (netK ls).map (fun k => (knotR ls k ls.length).2) ++ (hts ls).map fun l => t1 l.t
end
end
section
open PySem L2 PyProof.Rows Mi Std Rn Rg
open Lq (Kp)
def ZF (Z : List O) (acc : List D) (rows : List (Row × Rat)) (b : Nat) : Prop := ∃ rs : List Nat, rs.length = rows.length /\ acc = zipWith (fun r (p : Row × Rat) => D.tup [.ref r, fr p.2]) rs rows /\ (∀ r ∈ rs, b < r) /\ ∀ (i : Nat) r p, rs[i]? = some r -> rows[i]? = some p -> Z[r]? = some (.lst (Std.frs p.1))
theorem ZF.gr {Z Z' : List O} {acc : List D} {rows : List (Row × Rat)} {b : Nat} (h : ZF Z acc rows b) (g : ∀ (j : Nat) o, j ≠ b -> Z[j]? = some o -> Z'[j]? = some o) : ZF Z' acc rows b := by
 obtain ⟨rs, l, e, lo, at_⟩ := h
 exact ⟨rs, l, e, lo, fun i r p h1 h2 => g _ _ (by have := lo r (mem_of_getElem? h1); omega) (at_ i r p h1 h2)⟩
def GX (Z : List O) (acc : List D) (rows : List (Row × Rat)) : Prop := ∃ rs : List Nat, rs.length = rows.length /\ acc = zipWith (fun r (p : Row × Rat) => D.tup [.ref r, fr p.2]) rs rows /\ ∀ (i : Nat) r p, rs[i]? = some r -> rows[i]? = some p -> Z[r]? = some (.lst (Std.frs p.1))
theorem GX.gr {Z Z' : List O} {acc : List D} {rows : List (Row × Rat)} (h : GX Z acc rows) (g : Gr0 Z Z') : GX Z' acc rows := by
 obtain ⟨rs, l, e, at_⟩ := h
 exact ⟨rs, l, e, fun i r p h1 h2 => g.at_ _ _ (at_ i r p h1 h2)⟩
theorem GX.app {Z : List O} {acc acc2 : List D} {rows rows2 : List (Row × Rat)} (h : GX Z acc rows) (h2 : GX Z acc2 rows2) : GX Z (acc ++ acc2) (rows ++ rows2) := by
 obtain ⟨rs, l, e, at_⟩ := h
 obtain ⟨rs2, l2, e2, at2⟩ := h2
 refine ⟨rs ++ rs2, by simp [l, l2], by rw [e, e2, List.zipWith_append l], fun i r p h1 h2 => ?_⟩
 by_cases hi : i < rs.length
 ·rw [getElem?_append_left hi] at h1
  rw [getElem?_append_left ⋯] at h2
  exact at_ i r p h1 h2
 ·rw [getElem?_append_right ⋯] at h1
  rw [getElem?_append_right ⋯] at h2
  exact at2 _ r p h1 (by rw [l]; exact h2)
theorem GX.len {Z : List O} {acc : List D} {rows : List (Row × Rat)} (h : GX Z acc rows) : acc.length = rows.length := by
 obtain ⟨rs, l, e, _⟩ := h
 rw [e, List.length_zipWith]
 omega
theorem GX.zip {Z : List O} {acc : List D} {rows : List (Row × Rat)} (h : GX Z acc rows) : ∃ zs : List (Nat × Row × Rat), zs.map (·.2) = rows /\ acc = zs.map (fun z => D.tup [.ref z.1, fr z.2.2]) /\ ∀ z ∈ zs, Z[z.1]? = some (.lst (Std.frs z.2.1)) := by
 obtain ⟨rs, l, e, at_⟩ := h
 refine ⟨rs.zip rows, List.map_snd_zip ⋯, ?_, fun z hz => ?_⟩
 ·rw [e, List.map_zip_eq_zipWith]
  rfl
 ·obtain ⟨i, hi, rfl⟩ := getElem_of_mem hz
  rw [length_zip] at hi
  rw [List.getElem_zip]
  exact at_ i _ _ (getElem?_eq_getElem ⋯) (getElem?_eq_getElem ⋯)
section
variable {Z : List O} {E : Ex -> List O -> Prop} {lh n pl ld : Nat} {ls : List L}
def numsD (ls : List L) : D := match rowsN ls with
 | [] => .tup []
 | _ :: _ => match Lq.told (rowsN ls) (rightN ls) (Rq ls) with
  | .tup [_, x] => x
  | _ => .non
end
end
section
open PySem L2 PyProof.Rows Mi Std Rn Rg
open Lq (Kp)
def kvF (ks : List (Str × Rat)) : List (Key × D) := ks.map fun q => (.inr q.1, fr q.2)
theorem kvF_put {ks : List (Str × Rat)} {k : Str} {v : Rat} (h : k ∉ ks.map (·.1)) : G7 (kvF ks) (.inr k) (fr v) = kvF (ks ++ [(k, v)]) := by
 unfold G7 kvF
 rw [if_neg, map_append]
 ·rfl
 ·rw [List.any_map, any_eq_true]
  rintro ⟨q, hq, e⟩
  have e : (Sum.inr q.1 : Key) = .inr k := by simpa using e
  injection e with e
  exact h (by rw [<- e]; exact mem_map_of_mem hq)
theorem kvF_at {ks : List (Str × Rat)} (nd : (ks.map (·.1)).Nodup) {q : Str × Rat} (h : q ∈ ks) : valD (kvF ks) (.inr q.1) = some (fr q.2) := by
 unfold kvF valD
 induction ks with
 | nil => cases h
 | cons p r ih =>
  obtain ⟨n1, n2⟩ := nodup_cons.mp nd
  rw [map_cons, find?_cons]
  rcases mem_cons.mp h with e | h
  ·subst e; simp
  ·have e : ¬ p.1 = q.1 := fun e => n1 (by
    show p.1 ∈ r.map (·.1)
    rw [e]
    exact mem_map_of_mem h)
   have : decide ((Sum.inr p.1 : Key) = .inr q.1) = false := by
    apply decide_eq_false
    intro z
    injection z with z
    exact e z
   simp only [this]
   exact ih n2 h
end
section
open PySem L2 PyProof.Rows Mi Std Rn Rg
open Lq (Kp)
theorem Vg : ∀ (qs ps : List (Str × Rat)), ((ps ++ qs).map (·.1)).Nodup -> qs.foldl (fun acc q => G7 acc (.inr q.1) (fr q.2)) (kvF ps) = kvF (ps ++ qs)
 | [], ps, _ => by rw [append_nil]; rfl
 | q :: qs, ps, h => by
  rw [List.foldl_cons, kvF_put, Vg qs (ps ++ [(q.1, q.2)]) (by simpa using h)]
  ·simp
  ·intro hm
   rw [map_append, map_cons] at h
   exact (nodup_append.mp h).2.2 _ hm _ (mem_cons_self ..) rfl
theorem sm_sub {A B : Nat} {p q : Rat} (h : Sm A p) (k : Sm A q) (hB : A + A + 1 <= B) : Sm B (p - q) := by
 rw [Rat.sub_eq_add_neg]
 exact (h.add k.neg).up hB
theorem sm_mul {A B C : Nat} {p q : Rat} (h : Sm A p) (k : Sm B q) (hB : A + B <= C) : Sm C (p * q) := (h.mul k).up hB
theorem sm_add {A B C : Nat} {p q : Rat} (h : Sm A p) (k : Sm B q) (hB : A + B + 1 <= C) : Sm C (p + q) := (h.add k).up hB
section
variable {Z : List O} {E : Ex -> List O -> Prop} {lh n pl ld : Nat} {ls : List L}
end
end
section
open PySem L2 PyProof.Rows Mi Std Rn Rg
open Lq (Kp)
def prD (qs : List (Str × Rat)) : List D := qs.map fun q => .tup [.str q.1, fr q.2]
theorem Yr {Z : List O} (qs : List (Str × Rat)) : Fb (see Z 62) (qs.map fun q => D.tup [.str q.1, fr q.2]) = some (qs.map fun q => .tuple [.str q.1, Std.pF q.2]) := by
 induction qs with
 | nil => rfl
 | cons q r ih =>
  show (match see Z 62 (.tup [.str q.1, fr q.2]), Fb (see Z 62) (r.map fun q => D.tup [.str q.1, fr q.2]) with | some a, some b => some (a :: b) | _, _ => none) = _
  rw [ih]
  rfl
theorem V4 (p q : Rat) : W.alike (Std.pF p) (Std.pF q) = true := by
 unfold Std.pF
 simp [W.alike, W.alikeAll]
theorem eqv_pF (p : Rat) : PyData.eqv (Std.pF p) (Std.pF p) = true := by
 unfold Std.pF
 simp [PyData.eqv, PyData.eqvAll]
section
variable {Z : List O} {E : Ex -> List O -> Prop} {a : Nat}
end
structure OneOk (ls : List L) (t : Nat) : Prop where
 ex : ∃ x, numsD ls = .tup (Std.frs x) /\ x.length = Rq ls /\ ∀ c ∈ x, Sm 190000 c
 wd : Rq ls <= 900
 sz : ∃ U, 0 < U /\ U <= 190000 /\ (Rq ls + 1) * (2 ^ (t + 10) * (2 * ((Rq ls + 1) * 2 ^ (t + 10))) ^ Rq ls) < 2 ^ U
section
variable {Z : List O} {E : Ex -> List O -> Prop} {lh : Nat}
end
end
section
open PySem L2 PyProof.Rows Mi Std Rn Rg
open Lq (Kp)
abbrev Ed := List (Rat × Rat)
def BV (s p : Rat) : Ed -> Ed
 | [] => [(s, p)]
 | (e, s') :: r => (s, p) :: BV s' (p + (s - s') * e) r
def endL (s p : Rat) : Ed -> Rat × Rat
 | [] => (s, p)
 | (e, s') :: r => endL s' (p + (s - s') * e) r
theorem O9 {q : Rat × Rat} : ∀ {es : Ed} {s p : Rat}, BV s p (es ++ [q]) = BV s p es ++ [(q.2, (endL s p es).2 + ((endL s p es).1 - q.2) * q.1)] /\ endL s p (es ++ [q]) = (q.2, (endL s p es).2 + ((endL s p es).1 - q.2) * q.1)
 | [], s, p => ⟨rfl, rfl⟩
 | (e, s') :: r, s, p => by
  obtain ⟨h1, h2⟩ := O9 (q := q) (es := r) (s := s') (p := p + (s - s') * e)
  refine ⟨?_, h2⟩
  show (s, p) :: BV s' _ (r ++ [q]) = (s, p) :: BV s' _ r ++ _
  rw [h1]
  rfl
theorem OD : ∀ {es : Ed} {s p : Rat}, ∃ l, BV s p es = l ++ [endL s p es]
 | [], s, p => ⟨[], rfl⟩
 | (e, s') :: r, s, p => by
  obtain ⟨l, h⟩ := OD (es := r) (s := s') (p := p + (s - s') * e)
  exact ⟨(s, p) :: l, by show (s, p) :: BV s' _ r = _; rw [h]; rfl⟩
theorem GJ : ∀ {es : Ed} {s p : Rat}, (BV s p es).length = es.length + 1
 | [], s, p => rfl
 | (e, s') :: r, s, p => by show (BV s' _ r).length + 1 = r.length + 1 + 1; rw [GJ]
theorem QJ {B : Nat} : ∀ {es : Ed} {s p : Rat} {A : Nat}, Sm B s -> Sm A p -> (∀ q ∈ es, Sm B q.1 /\ Sm B q.2) -> (∀ q ∈ BV s p es, Sm B q.1 /\ Sm (A + es.length * (3 * B + 3)) q.2) /\ Sm B (endL s p es).1 /\ Sm (A + es.length * (3 * B + 3)) (endL s p es).2
 | [], s, p, A, hs, hp, _ => ⟨fun q hq => by
  have hq := mem_singleton.mp hq
  subst hq
  exact ⟨hs, hp.up (by simp)⟩, hs, hp.up (by simp)⟩
 | (e, s') :: r, s, p, A, hs, hp, h => by
  obtain ⟨h1, h2⟩ := h (e, s') (mem_cons_self ..)
  have hp' : Sm (A + (3 * B + 3)) (p + (s - s') * e) := sm_add hp (sm_mul (sm_sub hs h2 XqG) h1 XqG) ⋯
  obtain ⟨i1, i2, i3⟩ := QJ (es := r) (s := s') (p := p + (s - s') * e) h2 hp' fun q hq => h q (mem_cons_of_mem _ hq)
  have ea : A + (3 * B + 3) + r.length * (3 * B + 3) = A + ((e, s') :: r).length * (3 * B + 3) := by
   rw [length_cons, Nat.add_mul, Nat.one_mul]
   omega
  rw [ea] at i1 i3
  refine ⟨fun q hq => ?_, i2, i3⟩
  rcases mem_cons.mp hq with rfl | hq
  ·exact ⟨hs, hp.up ⋯⟩
  ·exact i1 q hq
def FW (qs : Ed) : List D := qs.map fun q => .tup [fr q.1, fr q.2]
def below (es : Ed) (u : Rat) : Nat := (es.filter fun q => decide (q.1 < u)).length
def oD : Option Rat -> D
 | none => .non
 | some e => fr e
def pcs (home : Rat) : Option Rat -> Rat -> Rat -> Ed -> List Pc
 | lo, s, p, [] => [⟨lo, none, s, p - home⟩]
 | lo, s, p, (e, s') :: r => ⟨lo, some e, s, p - home⟩ :: pcs home (some e) s' (p + (s - s') * e) r
def SN (s : Rat) (es : Ed) : Rat := ((BV s 0 es).getD (below es 0) (0, 0)).2
def Dg (s : Rat) (es : Ed) : List Pc := pcs (SN s es) none s 0 es
def pcD (c : Pc) : D := .tup [oD c.lo, oD c.hi, fr c.g, fr c.p]
theorem YC {home : Rat} : ∀ {es : Ed} {lo : Option Rat} {s p : Rat}, (pcs home lo s p es).length = es.length + 1
 | [], _, _, _ => rfl
 | (e, s') :: r, lo, s, p => by show (pcs home _ _ _ r).length + 1 = r.length + 1 + 1; rw [YC]
theorem YD {home : Rat} : ∀ {es : Ed} {lo : Option Rat} {s p : Rat} {i : Nat}, i <= es.length -> ∃ b e g q, (lo :: (es.map fun q => some q.1) ++ [none])[i]? = some b /\ (lo :: (es.map fun q => some q.1) ++ [none])[i + 1]? = some e /\ (BV s p es)[i]? = some (g, q) /\ (pcs home lo s p es)[i]? = some ⟨b, e, g, q - home⟩
 | [], lo, s, p, i, h => by
  have : i = 0 := by simpa using h
  subst this
  exact ⟨_, _, _, _, rfl, rfl, rfl, rfl⟩
 | (e, s') :: r, lo, s, p, 0, h => ⟨_, _, _, _, rfl, rfl, rfl, rfl⟩
 | (e, s') :: r, lo, s, p, i + 1, h => by
  obtain ⟨b, c, g, q, h1, h2, h3, h4⟩ := YD (home := home) (es := r) (lo := some e) (s := s') (p := p + (s - s') * e) (i := i) (by simpa using h)
  exact ⟨b, c, g, q, h1, h2, h3, h4⟩
section
variable {Z : List O} {E : Ex -> List O -> Prop}
theorem Yz {B : Nat} {s : Rat} {es : Ed} (hs : Sm B s) (he : ∀ q ∈ es, Sm B q.1 /\ Sm B q.2) (hn : es.length <= 20) (h0 : 0 < B) (hB : B <= 1000) : Wp (JG [fr s, .tup (FW es)]) Z (fun d Z' => d = .ref Z.length /\ Z' = Z ++ [.lst (FW (BV s 0 es))]) E := by
 unfold JG PQ
 have hz2 := sizeLine_eq
 have atr : ∀ x : O, (Z ++ [x])[Z.length]? = some x := fun x => by rw [Ax]; rfl
 walk_at "mi"
 refine ⟨⋯, ⋯, ?_⟩
 refine ws_for (fun i Y Z' => i <= es.length /\ (∃ x3 x4 x5 x6, Y = [some (fr s), some (.tup (FW es)), some (.ref Z.length), x3, x4, x5, x6]) /\ Z' = Z ++ [.lst (FW (BV s 0 (es.take i)))]) ⟨Nat.zero_le _, ⟨_, _, _, _, rfl⟩, rfl⟩ ?_ ?_
 ·rintro i _ Y _ e ⟨hi, ⟨x3, x4, x5, x6, rfl⟩, rfl⟩
  unfold FW at e
  rw [getElem?_map] at e
  cases el : es[i]? with
  | none => rw [el] at e; cases e
  | some q =>
   rw [el] at e
   cases e
   refine ⟨_, _, rfl, ?_⟩
   dsimp only [set_cons_succ, set_cons_zero]
   have li := (XqB el).1
   have et : es.take (i + 1) = es.take i ++ [q] := by rw [take_succ, el]; rfl
   obtain ⟨l, hl⟩ := OD (es := es.take i) (s := s) (p := 0)
   obtain ⟨s1, s2⟩ := O9 (q := q) (es := es.take i) (s := s) (p := 0)
   obtain ⟨z1, z2, z3⟩ := QJ (A := 1) (p := 0) hs (sm0 ⋯) fun q hq => he q (List.mem_of_mem_take (i := i) hq)
   have lt : (es.take i).length <= 20 := by rw [length_take]; omega
   have z3 : Sm 61000 (endL s 0 (es.take i)).2 := z3.up (by
    have := Nat.mul_le_mul lt (show 3 * B + 3 <= 3003 by omega)
    omega)
   obtain ⟨q1, q2⟩ := he q (mem_of_getElem? el)
   have ll := GJ (es := es.take i) (s := s) (p := 0)
   walk_at "mi"
   have el2 : atD (FW (BV s 0 (es.take i))) (-1) = M.ret (.tup [fr (endL s 0 (es.take i)).1, fr (endL s 0 (es.take i)).2]) := by
    rw [hl]
    unfold FW
    rw [map_append]
    exact Hr
   rw [el2, Aj]
   refine ⟨_, rfl, rfl, _, _, rfl, ?_⟩
   dsimp only [set_cons_succ, set_cons_zero]
   walk_at "mi"
   have w1 : Sm 3003 ((endL s 0 (es.take i)).1 - q.2) := sm_sub z2 q2 ⋯
   refine Wp.go (Lr (A := 3003) (z2.up ⋯) (q2.up ⋯) ⋯ ⋯) ?_
   rintro _ _ ⟨rfl, rfl⟩
   refine Wp.go (Ip (A := 3003) w1 (q1.up ⋯) ⋯ ⋯) ?_
   rintro _ _ ⟨rfl, rfl⟩
   refine Wp.go (Qu (A := 61000) z3 (sm_mul w1 q1 ⋯) ⋯ ⋯) ?_
   rintro _ _ ⟨rfl, rfl⟩
   walk_at "mi"
   refine ⟨⋯, by unfold FW; rw [length_map]; omega, li, ⟨_, _, _, _, rfl⟩, ?_⟩
   rw [et, s1]
   unfold FW
   rw [map_append]
   rfl
 ·rintro Y _ ⟨_, ⟨x3, x4, x5, x6, rfl⟩, rfl⟩
  rw [show (FW es).length = es.length by unfold FW; simp, take_length]
  walk_at "mi"
end
theorem M7 {ds : List D} {i : Nat} {Z : List O} : (JQ ds).get i Z = some ds[i]? := rfl
section
variable {Z : List O} {E : Ex -> List O -> Prop}
theorem R9 {B : Nat} {u : Rat} {es : Ed} (hu : Sm B u) (he : ∀ q ∈ es, Sm 1000 q.1 /\ Sm 1000 q.2) (hn : es.length <= 20) (hB : B <= 390000) (h1 : 1000 <= B) : Wp (Hk [.tup (FW es), fr u]) Z (fun d Z' => d = .int ((below es u : Nat) : Int) /\ Gr0 Z Z') E := by
 unfold Hk PN
 have hz2 := sizeLine_eq
 walk_at "mi"
 refine Lq.Uv es (fun q => .tup [fr q.1, fr q.2]) (fun q => decide (q.1 < u)) (fun q => fr q.1) (by show es.length <= (FW es).length; unfold FW; simp) ⋯ (fun i acc => by rw [M7]; unfold FW; rw [getElem?_map]) (fun q hq acc => ⟨_, rfl, ?_, fun _ => ?_⟩) ?_
 ·walk_at "d"
  walk_at "mi"
  refine Wp.go (Qw ((he q hq).1.up h1) hu ⋯ ⋯) ?_
  rintro _ _ ⟨rfl, rfl⟩
  try walk_at "mi"
 ·walk_at "d"
  walk_at "mi"
 ·walk_at "mi"
  exact ⟨rfl, Gr0.app _ _⟩
theorem home_lt {s u : Rat} {es : Ed} : below es u < (BV s 0 es).length := by
 rw [GJ]
 unfold below
 have := length_filter_le (fun q : Rat × Rat => decide (q.1 < u)) es
 omega
theorem Qv {a b c : D} {s : Rat} {es : Ed} (hs : Sm 1000 s) (he : ∀ q ∈ es, Sm 1000 q.1 /\ Sm 1000 q.2) (hn : es.length <= 20) : Wp (HX [.tup [a, b, c, .tup [fr s, .tup (FW es)]]]) Z (fun d Z' => d = .tup ((Dg s es).map pcD) /\ Gr0 Z Z') E := by
 unfold HX Mz
 have hz2 := sizeLine_eq
 walk_at "mi"
 refine Wp.go (Yz hs he hn ⋯ ⋯) ?_
 rintro _ _ ⟨rfl, rfl⟩
 show Wp (Hk [D.tup (FW es), fr 0]) _ _ _
 have a0 : (Z ++ [O.lst (FW (BV s 0 es))])[Z.length]? = some (.lst (FW (BV s 0 es))) := by rw [Ax]; rfl
 have g0 := Gr0.app Z [O.lst (FW (BV s 0 es))]
 generalize Z ++ [O.lst (FW (BV s 0 es))] = Z1 at a0 g0 ⊢
 refine Wp.go (R9 (B := 1000) (sm0 ⋯) he hn ⋯ ⋯) ?_
 rintro _ Z2 ⟨rfl, g1⟩
 have a1 := g1.at_ _ _ a0
 have hlt := home_lt (s := s) (u := 0) (es := es)
 have eh : atD (FW (BV s 0 es)) ((below es 0 : Nat) : Int) = M.ret (.tup [fr ((BV s 0 es).getD (below es 0) (0, 0)).1, fr (SN s es)]) := by
  rw [Cp]
  unfold FW SN
  rw [getElem?_map, getD_eq_getElem?_getD, getElem?_eq_getElem hlt]
  rfl
 walk_at "mi"
 refine ⟨_, a1, ?_⟩
 rw [eh, Aj]
 walk_at "mi"
 refine ⟨⋯, ?_⟩
 have a2 := V1 (o := O.lst [D.non]) a1
 have b2 : (Z2 ++ [O.lst [D.non]])[Z2.length]? = some (.lst [.non]) := by rw [Ax]; rfl
 have g2 := Gr0.app Z2 [O.lst [D.non]]
 generalize Z2 ++ [O.lst [D.non]] = Z3 at a2 b2 g2 ⊢
 refine wp_lc_mp es (fun q => .tup [fr q.1, fr q.2]) (fun q => fr q.1) (by show es.length <= (FW es).length; unfold FW; simp) ⋯ (fun i acc => by rw [M7]; unfold FW; rw [getElem?_map]) (fun q hq acc => ⟨_, rfl, ?_⟩) ?_
 ·walk_at "d"
  walk_at "mi"
 ·have a3 := V1 (o := O.lst (es.map fun q => fr q.1)) a2
  have b3 := V1 (o := O.lst (es.map fun q => fr q.1)) b2
  have c3 : (Z3 ++ [O.lst (es.map fun q => fr q.1)])[Z3.length]? = some (.lst (es.map fun q => fr q.1)) := by rw [Ax]; rfl
  have g3 := Gr0.app Z3 [O.lst (es.map fun q => fr q.1)]
  generalize Z3 ++ [O.lst (es.map fun q => fr q.1)] = Z4 at a3 b3 c3 g3 ⊢
  rw [LR]
  walk_at "mi"
  refine ⟨_, b3, _, c3, ?_⟩
  have le : (es.map fun q => fr q.1).length = es.length := by simp
  have eE : [D.non] ++ ((es.map fun q : Rat × Rat => fr q.1) ++ [D.non]) = (((none : Option Rat) :: (es.map fun q : Rat × Rat => some q.1)) ++ [none]).map oD := by
   simp [oD, Function.comp_def]
  have eC : Mi.cutD ([D.non] ++ ((es.map fun q : Rat × Rat => fr q.1) ++ [D.non])) (some 1) none = ((((none : Option Rat) :: (es.map fun q : Rat × Rat => some q.1)) ++ [none]).map oD).drop 1 := by
   rw [eE]
   exact Lw.Vu (k := 1)
  refine ⟨by rw [le]; simp; omega, ⋯, by rw [le]; simp; omega, ⋯, ?_⟩
  rw [eC, eE]
  have lE : (((none : Option Rat) :: (es.map fun q : Rat × Rat => some q.1)) ++ [none]).length = es.length + 2 := by simp
  have pg := fun (i : Nat) (h : i <= es.length) => YD (home := SN s es) (es := es) (lo := none) (s := s) (p := 0) h
  generalize hE : ((none : Option Rat) :: (es.map fun q : Rat × Rat => some q.1)) ++ [none] = ends at lE pg ⊢
  have g5 := Gr0.app Z4 [O.lst ([D.non] ++ List.map (fun q : Rat × Rat => fr q.1) es), O.lst [D.non], O.lst (ends.map oD), O.lst [], O.lst ((ends.map oD).drop 1)]
  have d2 : (Z4 ++ [O.lst ([D.non] ++ List.map (fun q : Rat × Rat => fr q.1) es), O.lst [D.non], O.lst (ends.map oD), O.lst [], O.lst ((ends.map oD).drop 1)])[Z4.length + 2]? = some (.lst (ends.map oD)) := by rw [Ef]; rfl
  have d3 : (Z4 ++ [O.lst ([D.non] ++ List.map (fun q : Rat × Rat => fr q.1) es), O.lst [D.non], O.lst (ends.map oD), O.lst [], O.lst ((ends.map oD).drop 1)])[Z4.length + 3]? = some (.lst []) := by rw [Ef]; rfl
  have d4 : (Z4 ++ [O.lst ([D.non] ++ List.map (fun q : Rat × Rat => fr q.1) es), O.lst [D.non], O.lst (ends.map oD), O.lst [], O.lst ((ends.map oD).drop 1)])[Z4.length + 4]? = some (.lst ((ends.map oD).drop 1)) := by rw [Ef]; rfl
  have d0 := g5.at_ _ _ a3
  have l4 : Z.length < Z4.length := (XqB a3).1
  generalize Z4 ++ [O.lst ([D.non] ++ List.map (fun q : Rat × Rat => fr q.1) es), O.lst [D.non], O.lst (ends.map oD), O.lst [], O.lst ((ends.map oD).drop 1)] = Z5 at g5 d2 d3 d4 d0 ⊢
  have srd : ∀ {l : Nat} {ds : List D} {Z : List O}, Z[l]? = some (.lst ds) -> U3 (.ref l) Z = some ds := fun h => by unfold U3; dsimp only; rw [h]
  rw [wp_zip3 (srd d2) (srd d4) (srd d0)]
  have G : Gr0 Z Z4 := ((g0.trans g1).trans g2).trans g3
  have lP : (Dg s es).length = es.length + 1 := YC
  have zl := (QJ (A := 1) (p := 0) hs (sm0 ⋯) he).1
  have z9 : 1 + es.length * (3 * 1000 + 3) <= 61000 := by omega
  refine Tp (es.length + 1) (fun i => .tup [oD (ends.getD i none), oD (ends.getD (i + 1) none), .tup [fr ((BV s 0 es).getD i (0, 0)).1, fr ((BV s 0 es).getD i (0, 0)).2]]) (fun i Y Z' => i <= es.length + 1 /\ (∃ x7 x8 x9 x10, Y = [some (D.tup [a, b, c, D.tup [fr s, D.tup (FW es)]]), some (D.ref Z.length), some (fr (SN s es)), some (D.ref (Z4.length + 2)), some (D.ref (Z4.length + 3)), some (fr s), some (D.tup (FW es)), x7, x8, x9, x10, none]) /\ Z' = Z5.set (Z4.length + 3) (.lst (((Dg s es).take i).map pcD))) ?_ ?_ (by show es.length + 1 <= (ends.map oD).length; rw [length_map]; omega) ?_ ?_ ?_
  ·rintro i Y _ hi ⟨_, _, rfl⟩
   have hu : ∀ {l : Nat} {o : O}, l ≠ Z4.length + 3 -> Z5[l]? = some o -> (Z5.set (Z4.length + 3) (.lst (((Dg s es).take i).map pcD)))[l]? = some o := fun h e => by rw [getElem?_set_ne (Ne.symm h)]; exact e
   rw [Ux (srd (hu ⋯ d2)) (srd (hu ⋯ d4)) (srd (hu ⋯ d0)) (by rw [length_map]; omega) (by rw [length_drop, length_map]; omega) (by unfold FW; rw [length_map, GJ]; omega)]
   obtain ⟨b1, e1, q1, p1, h1, h2, h3, h4⟩ := pg i ⋯
   unfold FW
   rw [getElem?_map, h1, List.getElem?_drop, Nat.add_comm 1 i, getElem?_map, h2, getElem?_map, h3]
   simp only [getD_eq_getElem?_getD, h1, h2, h3]
   rfl
  ·rintro Y _ ⟨_, _, rfl⟩
   have hu : ∀ {l : Nat} {o : O}, l ≠ Z4.length + 3 -> Z5[l]? = some o -> (Z5.set (Z4.length + 3) (.lst (((Dg s es).take (es.length + 1)).map pcD)))[l]? = some o := fun h e => by rw [getElem?_set_ne (Ne.symm h)]; exact e
   have l5 : (FW (BV s 0 es)).length = es.length + 1 := by unfold FW; rw [length_map, GJ]
   rw [Ux (srd (hu ⋯ d2)) (srd (hu ⋯ d4)) (srd (hu ⋯ d0)) (by rw [length_map]; omega) (by rw [length_drop, length_map]; omega) ⋯]
   rw [getElem?_eq_none (l := FW (BV s 0 es)) ⋯]
   split
   ·rename_i h; cases h
   ·rfl
  ·exact ⟨Nat.zero_le _, ⟨_, _, _, _, rfl⟩, by rw [take_zero, map_nil, Kr d3]⟩
  ·rintro i Y _ hi ⟨_, ⟨x7, x8, x9, x10, rfl⟩, rfl⟩
   obtain ⟨b1, e1, q1, p1, h1, h2, h3, h4⟩ := pg i ⋯
   simp only [getD_eq_getElem?_getD, h1, h2, h3, Option.getD_some]
   refine ⟨_, _, rfl, ?_⟩
   dsimp only [set_cons_succ, set_cons_zero]
   walk_at "mi"
   have sp := (zl _ (mem_of_getElem? h3)).2
   have sh : Sm 61000 (SN s es) := by
    unfold SN
    rw [getD_eq_getElem?_getD, getElem?_eq_getElem hlt]
    exact ((zl _ (getElem_mem hlt)).2).up z9
   have hlt5 := (XqB d3).1
   refine ⟨_, by rw [getElem?_set_self hlt5], ?_⟩
   refine Wp.go (Lr (sp.up z9) sh ⋯ ⋯) ?_
   rintro _ _ ⟨rfl, rfl⟩
   try walk_at "mi"
   have hp : (Dg s es)[i]? = some ⟨b1, e1, q1, p1 - SN s es⟩ := h4
   refine ⟨⋯, _, by rw [getElem?_set_self hlt5], by rw [length_map, length_take]; omega, ⋯, ⟨_, _, _, _, rfl⟩, ?_⟩
   rw [take_succ, hp, map_append]
   rfl
  ·rintro Y _ ⟨_, ⟨x7, x8, x9, x10, rfl⟩, rfl⟩
   have hlt5 := (XqB d3).1
   walk_at "mi"
   refine ⟨_, by rw [getElem?_set_self hlt5], ?_⟩
   rw [take_of_length_le ⋯]
   exact ⟨rfl, Gr.off (((G.trans g5).gr (l := Z4.length + 3)).trans (Gr.set _ _ _)) ⋯⟩
end
end
section
open PySem L2 PyProof.Rows Mi Std Rn Rg
open Lq (Kp)
inductive Kd where
 | resist (r : Rat) | height (v : Rat) | stream (v : Rat) | keep (c v : Rat) | coil (c v : Rat) | switch (b : Bool) | turn (k : Str) (x y : Rat) (b : Bool) | bent (s : Rat) (es : Ed)
structure Pa where
 nm : Str
 a : Str
 b : Str
 k : Kd
def Kd.w : Kd -> Str
 | .resist _ => "resist" | .height _ => "height" | .stream _ => "stream" | .keep _ _ => "keep" | .coil _ _ => "coil" | .switch _ => "switch" | .turn _ _ _ _ => "turn" | .bent _ _ => "bent"
def Kd.vals : Kd -> List D
 | .resist r => [fr r] | .height v => [fr v] | .stream v => [fr v] | .keep c v => [fr c, fr v] | .coil c v => [fr c, fr v] | .switch b => [.bl b] | .turn k x y b => [.str k, fr x, fr y, .bl b] | .bent s es => [fr s, .tup (FW es)]
def Pa.d (p : Pa) : D := .tup [.str p.k.w, .str p.nm, .tup [.str p.a, .str p.b], .tup p.k.vals]
def onT (b : Bool) : Tel := if b = true then .ht 0 else .st 0
def Pa.pn (p : Pa) : Pn Str := match p.k with
 | .resist r => .str ⟨p.nm, p.a, p.b, .sl (1 / r) 0⟩
 | .height v => .str ⟨p.nm, p.a, p.b, .ht v⟩
 | .stream v => .str ⟨p.nm, p.a, p.b, .st v⟩
 | .keep _ _ => .str ⟨p.nm, p.a, p.b, .st 0⟩
 | .coil _ _ => .str ⟨p.nm, p.a, p.b, .ht 0⟩
 | .switch b => .str ⟨p.nm, p.a, p.b, onT b⟩
 | .turn _ _ _ b => .str ⟨p.nm, p.a, p.b, onT b⟩
 | .bent s es => .bnt p.nm p.a p.b (Dg s es)
def Pa.law (p : Pa) (i : Nat) : L := p.pn.law i
def Pa.many (p : Pa) : Nat := p.pn.many
def SmE (es : Ed) : Prop := ∀ q ∈ es, Sm 1000 q.1 /\ Sm 1000 q.2
def KdOk : Kd -> Prop
 | .resist r => Sm 1000 r /\ r ≠ 0
 | .bent s es => Sm 1000 s /\ SmE es /\ es.length <= 20
 | _ => True
theorem law_ends (p : Pa) (i : Nat) : (p.law i).nm = p.nm /\ (p.law i).a = p.a /\ (p.law i).b = p.b := by
 obtain ⟨nm, a, b, k⟩ := p
 cases k <;> exact ⟨rfl, rfl, rfl⟩
section
variable {Z : List O} {E : Ex -> List O -> Prop}
theorem Y0 {p : Pa} {i : Nat} (ok : KdOk p.k) (hi : i < p.many) : Wp (Bm [p.d, .int ((i : Nat) : Int)]) Z (fun d Z' => d = Zg (p.law i) /\ Gr0 Z Z') E := by
 have hz2 := sizeLine_eq
 obtain ⟨nm, a, b, k⟩ := p
 cases k with
 | resist r =>
  obtain ⟨o1, o2⟩ := ok
  unfold Bm Gk Pa.d Kd.w Kd.vals
  walk_at "mi"
  refine ⟨fun z => absurd z ∅, fun _ => ?_⟩
  try walk_at "mi"
  show Wp (Gp [fr 1, fr r]) _ _ _
  refine Wp.go (UJ (A := 1000) (Sm.up (A := 1) ⟨∅, ∅⟩ ⋯) o1 ⋯ ⋯ o2) ?_
  rintro _ _ ⟨rfl, rfl⟩
  exact ⟨⋯, ⋯, rfl, Gr0.refl _⟩
 | height v => exact (Mi.wp_run (by kernel_rfl : Bm [Pa.d ⟨nm, a, b, .height v⟩, .int ((i : Nat) : Int)] Z = some (.ok (Zg (Pa.law ⟨nm, a, b, .height v⟩ i)), Z))).mpr ⟨rfl, Gr0.refl _⟩
 | stream v => exact (Mi.wp_run (by kernel_rfl : Bm [Pa.d ⟨nm, a, b, .stream v⟩, .int ((i : Nat) : Int)] Z = some (.ok (Zg (Pa.law ⟨nm, a, b, .stream v⟩ i)), Z))).mpr ⟨rfl, Gr0.refl _⟩
 | keep c v => exact (Mi.wp_run (by kernel_rfl : Bm [Pa.d ⟨nm, a, b, .keep c v⟩, .int ((i : Nat) : Int)] Z = some (.ok (Zg (Pa.law ⟨nm, a, b, .keep c v⟩ i)), Z))).mpr ⟨rfl, Gr0.refl _⟩
 | coil c v => exact (Mi.wp_run (by kernel_rfl : Bm [Pa.d ⟨nm, a, b, .coil c v⟩, .int ((i : Nat) : Int)] Z = some (.ok (Zg (Pa.law ⟨nm, a, b, .coil c v⟩ i)), Z))).mpr ⟨rfl, Gr0.refl _⟩
 | switch c =>
  cases c with
  | false => exact (Mi.wp_run (by kernel_rfl : Bm [Pa.d ⟨nm, a, b, .switch false⟩, .int ((i : Nat) : Int)] Z = some (.ok (Zg (Pa.law ⟨nm, a, b, .switch false⟩ i)), Z))).mpr ⟨rfl, Gr0.refl _⟩
  | true => exact (Mi.wp_run (by kernel_rfl : Bm [Pa.d ⟨nm, a, b, .switch true⟩, .int ((i : Nat) : Int)] Z = some (.ok (Zg (Pa.law ⟨nm, a, b, .switch true⟩ i)), Z))).mpr ⟨rfl, Gr0.refl _⟩
 | turn k x y c =>
  cases c with
  | false => exact (Mi.wp_run (by kernel_rfl : Bm [Pa.d ⟨nm, a, b, .turn k x y false⟩, .int ((i : Nat) : Int)] Z = some (.ok (Zg (Pa.law ⟨nm, a, b, .turn k x y false⟩ i)), Z))).mpr ⟨rfl, Gr0.refl _⟩
  | true => exact (Mi.wp_run (by kernel_rfl : Bm [Pa.d ⟨nm, a, b, .turn k x y true⟩, .int ((i : Nat) : Int)] Z = some (.ok (Zg (Pa.law ⟨nm, a, b, .turn k x y true⟩ i)), Z))).mpr ⟨rfl, Gr0.refl _⟩
 | bent s es => 
  obtain ⟨o1, o2, o3⟩ := ok
  unfold Bm Gk Pa.d Kd.w Kd.vals
  walk_at "mi"
  repeat refine ⟨fun z => absurd z ∅, fun _ => ?_⟩
  refine Wp.go (Qv o1 o2 o3) ?_
  rintro _ Z1 ⟨rfl, g1⟩
  have hi : i < (Dg s es).length := hi
  have ea : atD ((Dg s es).map pcD) ((i : Nat) : Int) = M.ret (pcD (Dg s es)[i]) := Cp (by rw [getElem?_map, getElem?_eq_getElem hi]; rfl)
  rw [Mi.ix_tup, ea, Aj]
  refine ⟨_, rfl, rfl, _, _, rfl, ?_⟩
  dsimp only [set_cons_succ, set_cons_zero]
  walk_at "mi"
  have el : (Dg s es)[i]? = some (Dg s es)[i] := getElem?_eq_getElem hi
  have e2 : Pa.law ⟨nm, a, b, .bent s es⟩ i = ⟨nm, a, b, .sl (Dg s es)[i].g (Dg s es)[i].p⟩ := by
   show (⟨nm, a, b, match (Dg s es)[i]? with | some c => .sl c.g c.p | none => .sl 1 0⟩ : L) = _
   rw [el]
  rw [e2]
  exact ⟨⋯, ⋯, rfl, g1⟩
end
end
section
open PySem L2 PyProof.Rows Mi Std Rn Rg
open Lq (Kp)
open Le (dot)

end
section
open PySem L2 PyProof.Rows Mi Std Rn Rg
open Lq (Kp)
open Le (dot rowAt)
section
variable {ls : List L} (nd : (ls.map (·.nm)).Nodup) (hab : ∀ l ∈ ls, l.a ≠ l.b)
include nd hab
end
end
section
open PySem L2 PyProof.Rows Mi Std Rn Rg
open Lq (Kp)
structure GrpOk (ks : List (Str × Str)) (gs : List (Str × List Str)) : Prop where
 mem : ∀ g ∈ gs, ∀ x, x ∈ g.2 ↔ (x, g.1) ∈ ks
 all : ∀ q ∈ ks, ∃ g ∈ gs, g.1 = q.2
 ne : ∀ g ∈ gs, g.2 ≠ []
structure Rp (ls : List L) (K R : List Str) : Prop where
 nd : R.Nodup
 sub : ∀ r ∈ R, r ∈ K
 apart : ∀ x ∈ R, ∀ y ∈ R, Cn ls x y -> x = y
 all : ∀ k ∈ K, ∃ r ∈ R, Cn ls k r
theorem nd_map {a b : Type} {f : a -> b} : ∀ {l : List a}, l.Nodup -> (∀ x ∈ l, ∀ y ∈ l, f x = f y -> x = y) -> (l.map f).Nodup
 | [], _, _ => nodup_nil
 | x :: l, nd, h => by
  obtain ⟨n1, n2⟩ := nodup_cons.mp nd
  rw [map_cons, nodup_cons]
  refine ⟨fun hm => ?_, nd_map n2 fun y hy z hz => h y (mem_cons_of_mem _ hy) z (mem_cons_of_mem _ hz)⟩
  obtain ⟨y, hy, e⟩ := mem_map.mp hm
  exact n1 (by rw [h x (mem_cons_self ..) y (mem_cons_of_mem _ hy) e.symm]; exact hy)
theorem Rp.le {ls : List L} {K R R' : List Str} (h : Rp ls K R) (h' : Rp ls K R') : R.length <= R'.length := by
 let f : Str -> Str := fun x => by classical exact if h : ∃ r ∈ R', Cn ls x r then h.choose else x
 have hf : ∀ x ∈ R, f x ∈ R' /\ Cn ls x (f x) := fun x hx => by
  have e := h'.all x (h.sub x hx)
  have : f x = e.choose := dif_pos e
  rw [this]
  exact e.choose_spec
 have nd : (R.map f).Nodup := by
  refine nd_map h.nd fun x hx y hy e => ?_
  refine h.apart x hx y hy ((hf x hx).2.trans ?_)
  rw [e]
  exact (hf y hy).2.symm
 have := nd_len nd (m := R') fun y hy => by
  obtain ⟨x, hx, rfl⟩ := mem_map.mp hy
  exact (hf x hx).1
 rwa [length_map] at this
theorem Rp.len {ls : List L} {K R R' : List Str} (h : Rp ls K R) (h' : Rp ls K R') : R.length = R'.length := Nat.le_antisymm (h.le h') (h'.le h)
end
section
open PySem L2 PyProof.Rows Mi Std Rn Rg
open Lq (Kp)
def chs (ns : List Nat) : List (List Nat) := ns.foldl (fun found n => found.flatMap fun row => (List.range n).map fun i => row ++ [i]) [[]]
section
variable {Z : List O} {E : Ex -> List O -> Prop}
end
section
variable {Z : List O} {E : Ex -> List O -> Prop}
def inB (c : Pc) (u : Rat) : Bool := (match c.lo with | none => true | some e => !decide (u < e)) && (match c.hi with | none => true | some e => !decide (e < u))
end
end
section
open PySem L2 PyProof.Rows Mi Std Rn Rg
open Lq (Kp)
section
variable {Z : List O} {E : Ex -> List O -> Prop}
end
end
section
open PySem L2 PyProof.Rows Mi Std Rn Rg
open Lq (Kp)
def counts (ps : List Pa) : List Nat := ps.map Pa.many
structure PsOk (ps : List Pa) (K : List Str) (d : Int) (t : Nat) : Prop where
 kd : ∀ p ∈ ps, KdOk p.k
 nd : (ps.map (·.nm)).Nodup
 ends : ∀ p ∈ ps, (p.a = "base" \/ p.a ∈ K) /\ (p.b = "base" \/ p.b ∈ K)
 lK : K.length <= 12
 ok : ∀ k ∈ K, PyData.strOk k = true
 ab : ∀ p ∈ ps, p.a ≠ p.b
 tz : ∀ p ∈ ps, ∀ i, i < p.many -> TelZ d t (p.law i).t
 pos : ∀ p ∈ ps, ∀ i, i < p.many -> ∀ g q, (p.law i).t = .sl g q -> 0 < g
 bt : ∀ p ∈ ps, p.pn.ok
 d0 : d ≠ 0
 hd : d.natAbs < 2 ^ t
 ht : t <= 170
 ln : ps.length <= 20
section
variable {ps : List Pa} {K : List Str} {d : Int} {t : Nat} (ok : PsOk ps K d t) {c : List Nat} (hc : c ∈ chs (counts ps))
include ok hc
end
theorem RQ (qs : List (Str × Rat)) : Gn (prD qs) = some (kvF qs) := by
 unfold prD kvF
 induction qs with
 | nil => rfl
 | cons q r ih =>
  rw [map_cons]
  unfold Gn
  rw [ih]
  rfl
theorem Sw {qs : List (Str × Rat)} (nd : (qs.map (·.1)).Nodup) : JX [] (kvF qs) = kvF qs := by
 unfold JX
 have := Vg qs [] (by simpa using nd)
 rw [nil_append] at this
 have e : (kvF qs).foldl (fun acc kv => G7 acc kv.1 kv.2) [] = qs.foldl (fun acc q => G7 acc (.inr q.1) (fr q.2)) (kvF []) := by
  unfold kvF
  rw [List.foldl_map]
  rfl
 rw [e, this]
theorem KR {β : Type} {ks : List (Str × β)} {q : Str × β} : q ∈ Rv ks ↔ q ∈ ks := (mergeSort_perm _ _).mem_iff
theorem sortK_nd {β : Type} {ks : List (Str × β)} (nd : (ks.map (·.1)).Nodup) : ((Rv ks).map (·.1)).Nodup := ((mergeSort_perm ks fun a b => leS a.1 b.1).map (·.1)).nodup_iff.mpr nd
section
variable {Z : List O} {E : Ex -> List O -> Prop}
end
section
variable {Z : List O} {E : Ex -> List O -> Prop}
end
end
end Gq
section
open PySem L2 PyProof.Rows Mi Rn Rg Gq
open Std hiding c_l_begin c_l_sum Dr BP BJ Ew
open Lq (Kp)
local macro_rules | `(tactic| walk_at "mi") => `(tactic| simp only [Ig, HH, MJ, Xb, Xa, Xe, Xd, Xc, Xv, Xu, Xw, Jq, Jo, JL, Pk, Px, Xz, Jp, K6, Ff, Cq, Aj, KC, MK, Ju, Gz, VM, Wi, r_bl, VP, We, Wj, Wf, NZ, VN, Wh, Wn, Wm, NP, NB, NK, Oc, Wb, Wo, r_or, r_if, N7, N8, VL, Wd, Wg, r_ix, Ht, Jc, Jb, JK, Vi, k_CUT, Vj, Ph, gs_c2, J8, Wc, NQ, r_B, Oa, Ny, s_ret, s_if, V9, s_while, VB, i_A, i_En, Xk, J9, VR, Nv, Wl, NT, MP, K9, PB, Jm, r_m0, r_m, Mv, Xx, Lk, Jx, r_lc, Og, Oh, WL, WK, o_aT, o_aF, o_aL, o_aS, WR, WT, Xr, Xo, Ol, Oj, Ow, Ov, Option.map_some, HJ, PL, Ib, KY, LQ, Hh, MT, K8, i_R1, map_cons, map_nil, replicate_succ, replicate_zero, nil_append, cons_append, length_cons, length_nil, Nat.reduceAdd, Nat.add_assoc, Nat.zero_add, Nat.add_zero, Nat.reduceSub, true_and, getV, getElem?_cons_zero, getElem?_cons_succ, set_cons_zero, set_cons_succ, WY, JW, O2, LR, Wz, WD, Oz, WF, W6, W7, o_lt, o_gt, o_ge, o_eq, WP, WQ, o_ne, W8, W9, WM, Q8, WW, Om, Oq, Oo, O5, WN, Ox, W0, W4, W3, JB, JD, JC, Od, Hz, Oi, Oe, Pu, Xq, Xp, length_append, length_map, length_set, Jt, Nu, Py, ex_n, Ef, Ax, Ou, Ot, set_off, Ge, Nf, Nk, Nm, Nb, Nh, append_assoc, getElem?_append_left, set_set, getElem?_set_self, Jr, EY, Mi.ix_tup, Pj, Dy, M4, Gy, decide_eq_true_eq, false_eq_true, false_implies, not_false_eq_true, true_implies, not_true_eq_false, true_eq_false, and_true, if_true, if_false, Int.cast_ofNat_Int, Int.reduceEq, Int.reduceLT, Int.reduceLE, decide_true, decide_false, Bool.not_true, Bool.not_false, reduceIte, eq_self, Nat.reduceLeDiff])
local macro_rules | `(tactic| walk_at "mi*") => `(tactic| simp only [Ig, HH, MJ, Xb, Xa, Xe, Xd, Xc, Xv, Xu, Xw, Jq, Jo, JL, Pk, Px, Xz, Jp, K6, Ff, Cq, Aj, KC, MK, Ju, Gz, VM, Wi, r_bl, VP, We, Wj, Wf, NZ, VN, Wh, Wn, Wm, NP, NB, NK, Oc, Wb, Wo, r_or, r_if, N7, N8, VL, Wd, Wg, r_ix, Ht, Jc, Jb, JK, Vi, k_CUT, Vj, Ph, gs_c2, J8, Wc, NQ, r_B, Oa, Ny, s_ret, s_if, V9, s_while, VB, i_A, i_En, Xk, J9, VR, Nv, Wl, NT, MP, K9, PB, Jm, r_m0, r_m, Mv, Xx, Lk, Jx, r_lc, Og, Oh, WL, WK, o_aT, o_aF, o_aL, o_aS, WR, WT, Xr, Xo, Ol, Oj, Ow, Ov, Option.map_some, HJ, PL, Ib, KY, LQ, Hh, MT, K8, i_R1, map_cons, map_nil, replicate_succ, replicate_zero, nil_append, cons_append, length_cons, length_nil, Nat.reduceAdd, Nat.add_assoc, Nat.zero_add, Nat.add_zero, Nat.reduceSub, true_and, getV, getElem?_cons_zero, getElem?_cons_succ, set_cons_zero, set_cons_succ, WY, JW, O2, LR, Wz, WD, Oz, WF, W6, W7, o_lt, o_gt, o_ge, o_eq, WP, WQ, o_ne, W8, W9, WM, Q8, WW, Om, Oq, Oo, O5, WN, Ox, W0, W4, W3, JB, JD, JC, Od, Hz, Oi, Oe, Pu, Xq, Xp, length_append, length_map, length_set, Jt, Nu, Py, ex_n, Ef, Ax, Ou, Ot, set_off, Ge, Nf, Nk, Nm, Nb, Nh, append_assoc, getElem?_append_left, set_set, getElem?_set_self, Jr, EY, Mi.ix_tup, Pj, Dy, M4, Gy, decide_eq_true_eq, false_eq_true, false_implies, not_false_eq_true, true_implies, not_true_eq_false, true_eq_false, and_true, if_true, if_false, Int.cast_ofNat_Int, Int.reduceEq, Int.reduceLT, Int.reduceLE, decide_true, decide_false, Bool.not_true, Bool.not_false, reduceIte, eq_self, Nat.reduceLeDiff, *])
namespace Tn
open PySem L2 PyProof.Rows Mi Std Rn Rg Gq
open Lq (Kp)
open Lw (ils)
open Lq (Gm)
structure PotX (Z : List O) (l o n : Nat) (xs : List Nat) : Prop where
 ne : o ≠ l
 own : Z[o]? = some (.lst (ils xs))
 len : xs.length <= 63
 pot : ∃ s c : Int, Z[l]? = some (.lst [.ref o, .int s, .int c]) /\ 0 <= s /\ s < 2305843009213693951 /\ 0 <= c /\ c <= n
def Pot (Z : List O) (l o n : Nat) : Prop := ∃ xs, PotX Z l o n xs
theorem PotX.gr {Z Z' : List O} {l o n : Nat} {xs : List Nat} (h : PotX Z l o n xs) (g : Gr0 Z Z') : PotX Z' l o n xs := by
 obtain ⟨s, c, h1, h2⟩ := h.pot
 exact ⟨h.ne, g.at_ _ _ h.own, h.len, s, c, g.at_ _ _ h1, h2⟩
theorem Pot.gr {Z Z' : List O} {l o n : Nat} (h : Pot Z l o n) (g : Gr0 Z Z') : Pot Z' l o n := let ⟨xs, k⟩ := h; ⟨xs, k.gr g⟩
theorem Pot.up {Z : List O} {l o n m : Nat} (h : Pot Z l o n) (hm : n <= m) : Pot Z l o m := by
 obtain ⟨xs, k⟩ := h
 obtain ⟨s, c, h1, h2, h3, h4, h5⟩ := k.pot
 exact ⟨xs, k.ne, k.own, k.len, s, c, h1, h2, h3, h4, ⋯⟩
theorem PotX.put {Z : List O} {l o n : Nat} {xs ys : List Nat} (h : PotX Z l o n xs) (hl : ys.length <= 63) : PotX (Z.set o (.lst (ils ys))) l o n ys := by
 obtain ⟨s, c, h1, h2⟩ := h.pot
 exact ⟨h.ne, Ce h.own, hl, s, c, by rw [getElem?_set_ne h.ne]; exact h1, h2⟩
theorem Pot.lt {Z : List O} {l o n : Nat} (h : Pot Z l o n) : l < Z.length /\ o < Z.length := by
 obtain ⟨xs, k⟩ := h
 obtain ⟨s, c, h1, _⟩ := k.pot
 exact ⟨(XqB h1).1, (XqB k.own).1⟩
theorem Za {xs : List Nat} : (!(ils xs).isEmpty) = !decide (xs = []) := by cases xs <;> simp [ils]
theorem Bs {Z : List O} {l o n : Nat} {many : Int} {E : Ex -> List O -> Prop} (h : Pot Z l o n) (hn : n <= 1000000) (h0 : 0 < many) (h9 : many <= 1000) :
  Wp (Be [.ref l, .int many]) Z (fun r Z' => (∃ d : Nat, r = .int (d : Int) /\ (d : Int) < many) /\ Pot Z' l o (n + 1) /\ Kp [l, o] Z Z') E := by
 unfold Be c_l_take
 have hs := sizeLine_eq
 rw [Ig]
 refine ⟨rfl, ?_⟩
 refine Gm (fun Y Z' => (∃ xs, PotX Z' l o n xs /\ (xs = [] \/ ∃ x r, xs = x :: r /\ x ≠ 0)) /\ Kp [l, o] Z Z' /\ Y = [some (.ref l), some (.int many), none, none]) ?_ ?_
 ·obtain ⟨xs, h⟩ := h
  rw [s_while]
  have loop : ∀ (f : Nat) (xs : List Nat) (Z1 : List O), xs.length < f -> PotX Z1 l o n xs -> Kp [l, o] Z Z1 -> Ws (whl ((Tt (Ba .NotEq (eqnD true) (cIx (Ae 0) (cInt 0)) (Ft aNil)) (HQ (Ba .Eq eqD (cIx (cIx (Ae 0) (cInt 0)) (cInt 0)) (cInt 0)))).run) ((Af (CP (cM "list" "pop" popAD (cIx (Ae 0) (cInt 0)) (Aa (cInt 0) aNil))) bNil).run) f [some (.ref l), some (.int many), none, none]) Z1 (fun x Z' => ∃ Y', x = .nx Y' /\ (∃ xs, PotX Z' l o n xs /\ (xs = [] \/ ∃ x r, xs = x :: r /\ x ≠ 0)) /\ Kp [l, o] Z Z' /\ Y' = [some (.ref l), some (.int many), none, none]) := by
   intro f
   induction f with
   | zero => intro xs Z1 hf _ _; omega
   | succ f ih =>
    intro xs Z1 hf w kp
    obtain ⟨s, c, d1, d2, d3, d4, d5⟩ := w.pot
    rw [Hu]
    walk_at "mi"
    refine ⟨_, d1, ?_⟩
    walk_at "mi"
    refine ⟨Nat.zero_le _, ?_⟩
    have g := Gr0.app Z1 [O.lst []]
    have w2 := w.gr g
    have kp2 := kp.trans (Kp.gr g)
    have d6 := g.at_ _ _ d1
    rw [wp_eqn w2.own (by rw [Ax]; rfl), if_pos rfl, Za]
    generalize Z1 ++ [O.lst []] = Z2 at w2 kp2 d6 ⊢
    cases xs with
    | nil =>
     walk_at "mi"
     exact ⟨_, rfl, ⟨[], w2, .inl rfl⟩, kp2, rfl⟩
    | cons x r =>
     have hne : decide (x :: r = []) = false := by simp
     rw [hne]
     walk_at "mi"
     refine ⟨_, d6, ?_⟩
     have a0 : atD (ils (x :: r)) 0 = Mi.M.ret (.int x) := Dy
     rw [Dy, Aj, EY, Cq, DG w2.own, a0, Aj]
     walk_at "mi"
     by_cases hx : x = 0
     ·rw [if_pos ⋯]
      refine ⟨_, d6, ?_⟩
      rw [Dy, Aj]
      walk_at "mi"
      refine ⟨_, w2.own, ?_⟩
      rw [show (0 : Int) = ((0 : Nat) : Int) by rfl, Qh (j := 0) w2.own rfl ∅]
      have hl := w2.len
      rw [length_cons] at hl hf
      exact ih r _ ⋯ (w2.put (ys := r) ⋯) (kp2.trans (Kp.set (by simp)))
     ·rw [if_neg ⋯]
      exact ⟨_, rfl, ⟨x :: r, w2, .inr ⟨x, r, rfl, hx⟩⟩, kp2, rfl⟩
  exact loop 100 xs Z (by have := h.len; omega) h Kp.refl
 rintro _ Z1 ⟨⟨xs, w, hx⟩, kp, rfl⟩
 obtain ⟨s, c, d1, d2, d3, d4, d5⟩ := w.pot
 walk_at "mi"
 refine ⟨_, d1, ?_⟩
 walk_at "mi"
 refine ⟨Nat.zero_le _, ?_⟩
 have g := Gr0.app Z1 [O.lst []]
 have w2 := w.gr g
 have kp2 := kp.trans (Kp.gr g)
 have d6 := g.at_ _ _ d1
 rw [wp_eqn w2.own (by rw [Ax]; rfl), if_pos rfl, Za]
 generalize Z1 ++ [O.lst []] = Z2 at w2 kp2 d6 ⊢
 rcases hx with rfl | ⟨x, r, rfl, hx⟩
 ·rw [show decide (([] : List Nat) = []) = true from rfl]
  walk_at "mi"
  refine ⟨_, d6, ?_⟩
  rw [Gy, Aj]
  walk_at "mi"
  refine ⟨_, d6, _, rfl, ?_⟩
  have d7 : (Z2.set l (.lst [.ref o, .int s, .int (c + 1)]))[l]? = some (.lst [.ref o, .int s, .int (c + 1)]) := Ce d6
  have w3 : Pot (Z2.set l (.lst [.ref o, .int s, .int (c + 1)])) l o (n + 1) := ⟨[], w2.ne, by rw [getElem?_set_ne (Ne.symm w2.ne)]; exact w2.own, w2.len, s, c + 1, d7, d2, d3, ⋯, ⋯⟩
  have kp3 := kp2.trans (Kp.set (av := [l, o]) (l := l) (o := .lst [.ref o, .int s, .int (c + 1)]) (by simp))
  rw [show [D.ref o, D.int s, D.int c].set (Int.toNat 2) (D.int (c + 1)) = [D.ref o, D.int s, D.int (c + 1)] from rfl]
  generalize Z2.set l (.lst [.ref o, .int s, .int (c + 1)]) = Z3 at d7 w3 kp3 ⊢
  refine ⟨_, d7, ?_⟩
  rw [M4, Aj]
  refine ⟨_, d7, ?_⟩
  rw [Gy, Aj]
  walk_at "mi"
  refine ⟨BX ⋯ ⋯, _, d7, ?_⟩
  rw [Gy, Aj]
  walk_at "mi"
  refine ⟨Fg ⋯ ⋯, Fg ∅ ∅, ∅, ∅, _, d7, ?_⟩
  have y1 := Int.fmod_nonneg_of_pos ((s + 65537 * (c + 1) * (c + 1) + 11) * 48271) (b := 2305843009213693921) ⋯
  have y2 := Int.fmod_lt_of_pos ((s + 65537 * (c + 1) * (c + 1) + 11) * 48271) (b := 2305843009213693921) ⋯
  rw [Gy, Aj]
  generalize ((s + 65537 * (c + 1) * (c + 1) + 11) * 48271).fmod 2305843009213693921 = z at y1 y2 ⊢
  walk_at "mi"
  refine ⟨BX ∅ ∅, BX ⋯ ⋯, ∅, ∅, ∅, ⋯, ?_, w3, kp3⟩
  generalize ((z * (z.fmod 1000003 + 99991 * (c + 1))).fmod 2305843009213693907).fdiv 97 + ((z * (z.fmod 1000003 + 99991 * (c + 1))).fmod 2305843009213693907).fdiv 1000033 = v
  have q1 := Int.fmod_nonneg_of_pos v h0
  have q2 := Int.fmod_lt_of_pos v h0
  exact ⟨(v.fmod many).toNat, by rw [Int.toNat_of_nonneg q1], by rw [Int.toNat_of_nonneg q1]; exact q2⟩
 ·have hne : decide (x :: r = []) = false := by simp
  rw [hne]
  obtain ⟨m, rfl⟩ := Int.eq_ofNat_of_zero_le (show 0 <= many by omega)
  have a0 : atD (ils (x :: r)) 0 = Mi.M.ret (.int x) := Dy
  have m0 : (m : Int) ≠ 0 := by omega
  have dv : Mx (m : Int) := m0
  walk_at "mi"
  refine ⟨_, d6, ?_⟩
  rw [Dy, Aj, EY, Cq, DG w2.own, a0, Aj]
  walk_at "mi"
  refine ⟨m0, _, d6, ?_⟩
  rw [Dy, Aj, EY, Cq, DG w2.own, a0, Aj]
  walk_at "mi"
  refine ⟨dv, _, d6, ?_⟩
  rw [Dy, Aj]
  have e : (ils (x :: r)).set 0 (.int ((x : Int).fdiv (m : Int))) = ils (x / m :: r) := by
   rw [Std.Jh]
   rfl
  refine ⟨_, Tw w2.own (n := 0) (ixN_nat (j := 0) (by simp [ils])), ⟨x % m, by rw [Jg], ?_⟩, ?_, kp2.trans (Kp.set (by simp))⟩
  ·have := Nat.mod_lt x (show 0 < m by omega)
   omega
  rw [e]
  have hl := w2.len
  exact Pot.up ⟨_, w2.put (by simpa using hl)⟩ (Nat.le_succ n)
theorem run_of {Z : List O} {l o n k : Nat} {ds : List D} {E : Ex -> List O -> Prop} (h : Pot Z l o n) (hn : n <= 1000000) (hk : Z[k]? = some (.lst ds)) (hko : k ∉ [l, o]) (h0 : 0 < ds.length) (h9 : ds.length <= 1000) :
  Wp (Dd [.ref l, .ref k]) Z (fun r Z' => r ∈ ds /\ Pot Z' l o (n + 1) /\ Kp [l, o] Z Z') E := by
 unfold Dd c_l_of
 have hs := sizeLine_eq
 walk_at "mi"
 refine ⟨_, hk, Wp.go (Bs h hn (show (0 : Int) < ds.length by omega) ⋯) ?_⟩
 rintro _ Z' ⟨⟨d, rfl, hd⟩, w, kp⟩
 obtain ⟨y, hy, e⟩ := V2 (ds := ds) (i := (d : Int)) ⋯ hd
 rw [EY, Cq, DG (kp.2 _ _ hko hk), e, Aj]
 exact ⟨hy, w, kp⟩
theorem run_ofS {Z : List O} {l o n : Nat} {x : Str} {E : Ex -> List O -> Prop} (h : Pot Z l o n) (hn : n <= 1000000) (h0 : 0 < x.length) (h9 : x.length <= 1000) :
  Wp (Dd [.ref l, .str x]) Z (fun r Z' => (∃ c ∈ x.cps.toList, r = .str ⟨#[c]⟩) /\ Pot Z' l o (n + 1) /\ Kp [l, o] Z Z') E := by
 unfold Dd c_l_of
 have hs := sizeLine_eq
 walk_at "mi"
 have e1 : lenD [D.str x] = M.ret (.int (x.length : Int)) := by
  show (if x.length <= sizeLine then M.ret (D.int (x.length : Int)) else M.stop) = _
  rw [if_pos ⋯]
 have el : x.cps.toList.length = x.length := Array.length_toList
 rw [e1, Aj]
 refine Wp.go (Bs h hn ⋯ ⋯) ?_
 rintro _ Z' ⟨⟨d, rfl, hd⟩, w, kp⟩
 have hd' : d < x.cps.toList.length := by rw [el]; omega
 have cE : atI x.cps.toList (d : Int) = some x.cps.toList[d] := by
  unfold atI
  rw [ixN_nat hd']
  exact getElem?_eq_getElem hd'
 have e2 : ixD (.str x) (.int (d : Int)) = M.ret (.str ⟨#[x.cps.toList[d]]⟩) := by
  show (if x.length <= sizeLine then match atI x.cps.toList (d : Int) with
    | some c => M.ret (D.str ⟨#[c]⟩)
    | none => M.stop
   else M.stop) = _
  rw [if_pos ⋯, cE]
 rw [e2, Aj]
 exact ⟨⟨_, getElem_mem hd', rfl⟩, w, kp⟩
end Tn
namespace Tn
open PySem L2 PyProof.Rows Mi Std Rn Rg Gq
open Lq (Kp)
open Lw (ils p60_ok)
open Lq (Tf)
theorem grSet {a b : List O} {l : Nat} {x : O} (g : Gr0 a b) (h : a.length <= l) : Gr0 a (b.set l x) := Gr.off ((g.gr (l := l)).trans (Gr.set _ _ _)) h
theorem p18_ok : ∃ P : Nat, (10 : Int) ^ Int.toNat 18 = (P : Int) := ⟨10 ^ 18, by rw [Int.natCast_pow]; rfl⟩
theorem p30_ok : ∃ P : Nat, (10 : Int) ^ Int.toNat 30 = (P : Int) /\ 0 < P := ⟨10 ^ 30, by rw [Int.natCast_pow]; rfl, Nat.pow_pos ⋯⟩
def bbeg : CB := (Af (Bv (gN 1) (Az .Mod modD (Az .Add addD (Az .Add addD (Az .Mult mulD (Ae 1) (cInt 1000003)) (Az .Mod modD (Ae 4) (Az .Pow powD (cInt 10) (cInt 30)))) (Az .Mult mulD (cInt 31) (Ae 3))) (cInt 2305843009213693951)))
 (Af (sIf (Ba .GtE geD (cB "abs" absD (Aa (Ae 4) aNil)) (Az .Pow powD (cInt 10) (cInt 18))) (Af (CP (cM "list" "append" appD (Ae 2) (Aa (Az .Mod modD (cB "abs" absD (Aa (Ae 4) aNil)) (Az .Mult mulD (Az .Pow powD (cInt 10) (cInt 60)) (Az .Pow powD (cInt 10) (cInt 60)))) aNil)))
 bNil) bNil)
 bNil))
theorem beg_turn {Z : List O} {v0 : Option D} {S : SR -> List O -> Prop} {s z : Int} {k a : Nat} {xs : List Nat} (s0 : 0 <= s) (s1 : s < 2305843009213693951) (hk : k < 100) (ha : Z[a]? = some (.lst (ils xs))) (hl : xs.length < 100)
  (c : ∀ Z' s' ys, 0 <= s' -> s' < 2305843009213693951 -> (Z' = Z /\ ys = xs \/ (∃ y, ys = xs ++ [y] /\ Z' = Z.set a (.lst (ils ys)))) -> S (.nx [v0, some (.int s'), some (.ref a), some (.int (k : Int)), some (.int z)]) Z') :
  Ws (bbeg.run [v0, some (.int s), some (.ref a), some (.int (k : Int)), some (.int z)]) Z S := by
 unfold bbeg
 have hs := sizeLine_eq
 obtain ⟨P, hP, P0, P1⟩ := p60_ok
 obtain ⟨T, hT⟩ := p18_ok
 obtain ⟨Q, hQ, Q0⟩ := p30_ok
 walk_at "mi"
 simp only [hP, hT, hQ]
 have p60 : Qy 10 60 := by decide
 have p18 : Qy 10 18 := by decide
 have p30 : Qy 10 30 := by decide
 have f1 := Int.fmod_nonneg_of_pos (s * 1000003 + z.fmod (Q : Int) + 31 * (k : Int)) (b := 2305843009213693951) ⋯
 have f2 := Int.fmod_lt_of_pos (s * 1000003 + z.fmod (Q : Int) + 31 * (k : Int)) (b := 2305843009213693951) ⋯
 have mP : Dh (P : Int) (P : Int) := Bu (A := 200) (B := 200) (by rw [Int.natAbs_natCast]; exact P1) (by rw [Int.natAbs_natCast]; exact P1) ⋯ ⋯ ⋯
 have PP : (P : Int) * (P : Int) ≠ 0 := Int.mul_ne_zero ⋯ ⋯
 refine ⟨Fg ∅ ∅, p30, ⋯, Fg ⋯ ⋯, ∅, p18, fun _ => ⟨_, ha, p60, p60, mP, PP, _, ha, ?_, ?_⟩, fun _ => c _ _ _ f1 f2 (.inl ⟨rfl, rfl⟩)⟩
 ·unfold ils
  rw [length_map]
  omega
 ·have e : ils xs ++ [D.int (((z.natAbs : Nat) : Int).fmod ((P : Int) * (P : Int)))] = ils (xs ++ [z.natAbs % (P * P)]) := by
   unfold ils
   rw [map_append, <- Int.natCast_mul, Jg]
   rfl
  rw [e]
  exact c _ _ _ f1 f2 (.inr ⟨_, rfl, rfl⟩)
theorem RK {ns : List Int} {Z : List O} {E : Ex -> List O -> Prop} (hn : ns.length <= 63) :
  Wp (BP [scr ns]) Z (fun r Z' => ∃ l o, r = .ref l /\ Pot Z' l o 0 /\ Gr0 Z Z' /\ Z.length <= l /\ Z.length <= o) E := by
 unfold BP c_l_begin scr
 have hs := sizeLine_eq
 have cl : Mi.cutD (ns.map D.int) none (some 63) = ns.map D.int := by
  rw [show (some (63 : Int)) = some ((63 : Nat) : Int) from rfl, Tf]
  exact take_of_length_le (by rw [length_map]; exact hn)
 walk_at "mi"
 rw [cl]
 refine ⟨Nat.zero_le _, ?_⟩
 rw [length_map]
 have g0 := Gr0.app Z [O.lst [], O.lst (ns.map D.int)]
 have a0 : (Z ++ [O.lst [], O.lst (ns.map D.int)])[Z.length]? = some (.lst (ils [])) := by rw [Ax]; rfl
 have b0 : (Z ++ [O.lst [], O.lst (ns.map D.int)])[Z.length + 1]? = some (.lst (ns.map .int)) := by rw [Ef (c := 1)]; rfl
 generalize Z ++ [O.lst [], O.lst (ns.map D.int)] = Z1 at g0 a0 b0 ⊢
 refine Tp ns.length (fun i => .tup [.int (i : Int), .int (ns.getD i 0)]) (fun i Y Z' => ∃ s xs x3 x4, Y = [some (.fro (ns.map .int)), some (.int s), some (.ref Z.length), x3, x4] /\ 0 <= s /\ s < 2305843009213693951 /\ xs.length <= i /\ Z'[Z.length]? = some (.lst (ils xs)) /\ Z'[Z.length + 1]? = some (.lst (ns.map .int)) /\ Gr0 Z Z') ?_ ?_ XqG ⟨_, [], _, _, rfl, ⋯, ⋯, Nat.zero_le _, a0, b0, g0⟩ ?_ ?_
 ·rintro i Y Z' hi ⟨s, xs, x3, x4, _, _, _, _, _, b1, _⟩
  show (match (wkL (Z.length + 1) ns.length).get i Z' with | some (some d) => some (some (D.tup [.int (i : Int), d])) | some none => some none | none => none) = _
  rw [Lq.KD b1, getElem?_map, getD_eq_getElem?_getD, getElem?_eq_getElem hi]
  rfl
 ·rintro Y Z' ⟨s, xs, x3, x4, _, _, _, _, _, b1, _⟩
  show (match (wkL (Z.length + 1) ns.length).get ns.length Z' with | some (some d) => some (some (D.tup [.int (ns.length : Int), d])) | some none => some none | none => none) = _
  rw [Lq.KD b1, getElem?_eq_none (by simp)]
 ·rintro i Y Z' hi ⟨s, xs, x3, x4, rfl, s0, s1, xl, a1, b1, g1⟩
  refine ⟨_, _, rfl, ?_⟩
  dsimp only [set_cons_succ, set_cons_zero]
  refine beg_turn s0 s1 ⋯ a1 ⋯ fun Z2 s' ys h0 h1 h => ?_
  rcases h with ⟨rfl, rfl⟩ | ⟨y, rfl, rfl⟩
  ·exact ⟨_, _, _, _, rfl, h0, h1, ⋯, a1, b1, g1⟩
  ·exact ⟨_, _, _, _, rfl, h0, h1, by rw [length_append]; show _ + 1 <= _; omega, Ce a1, by rw [getElem?_set_ne ⋯]; exact b1, grSet g1 XqG⟩
 ·rintro Y Z' ⟨s, xs, x3, x4, rfl, s0, s1, xl, a1, b1, g1⟩
  walk_at "mi"
  have lt := (XqB a1).1
  refine ⟨⋯, _, _, rfl, ⟨xs, ⋯, ?_, ⋯, s, 0, Ax, s0, s1, ⋯, ⋯⟩, g1.trans (Gr0.app _ _), ⋯, XqG⟩
  rw [getElem?_append_left lt]
  exact a1
end Tn
namespace Tn
open PySem L2 PyProof.Rows Mi Std Rn Rg Gq
open Lq (Kp)
theorem Eh {p q : Int} {Z : List O} {E : Ex -> List O -> Prop} (h : q ≠ 0) : Wp (Cv [.int p, .int q]) Z (fun r Z' => r = fr (Rat.divInt p q) /\ Z' = Z) E := by
 have loop : ∀ (n a b : Nat) (x y z : Option D) (S : SR -> List O -> Prop), b < n -> S (.nx [x, y, z, some (.int (Nat.gcd a b)), some (.int 0)]) Z ->
   Ws (whl (Ba .Gt gtD (Ae 4) (cInt 0)).run (Af (Jy 3 4 (Ae 4) (Az .Mod modD (Ae 3) (Ae 4))) bNil).run n [x, y, z, some (.int a), some (.int b)]) Z S := by
  intro n
  induction n with
  | zero => intro a b x y z S h; omega
  | succ n ih =>
   intro a b x y z S h k
   rw [Hu]
   walk_at "mi"
   by_cases hb : b = 0
   ·subst hb
    simp at k ⊢
    exact k
   ·have hd : decide ((b : Int) > 0) = true := decide_eq_true ⋯
    have hd2 : ((0 : Int) < b) = True := eq_true ⋯
    have hb' : (b : Int) ≠ 0 := by omega
    simp only [hd, hd2, decide_true, if_true, Trn]
    refine ⟨hb', ?_⟩
    rw [Jg]
    refine ih b (a % b) x y z S (Nat.lt_of_lt_of_le (Nat.mod_lt a ⋯) ⋯) ?_
    rw [<- QV hb]
    exact k
 unfold Cv c_l_fraction
 walk_at "mi"
 show Ws (whl _ _ ((((q : Int).natAbs : Nat) : Int).natAbs + 1) _) Z _
 refine loop _ p.natAbs ((q : Int).natAbs) _ _ _ _ (by simp) ?_
 have hg : 0 < Nat.gcd p.natAbs q.natAbs := Nat.gcd_pos_of_pos_right _ ⋯
 have dg : Mx ((Nat.gcd p.natAbs q.natAbs : Nat) : Int) := by show ((Nat.gcd p.natAbs q.natAbs : Nat) : Int) ≠ 0; omega
 have hs := sizeLine_eq
 walk_at "mi"
 refine ⟨fun hn => ⟨BX ⋯ ⋯, dg, BX ⋯ ⋯, dg, ⋯, ?_⟩, fun hn => ⟨BX ⋯ ⋯, dg, BX ⋯ ⋯, dg, ⋯, ?_⟩⟩
 ·exact Gg h (Fj h ⋯ (.inl rfl))
 ·exact Gg h (Fj h ⋯ (.inr rfl))
theorem Ks {A : Nat} {p q : Rat} {Z : List O} {E : Ex -> List O -> Prop} (hp : Sm A p) (hq : Sm A q) (h0 : 0 < A) (hA : A <= 400000) : Wp (BJ [fr p, fr q]) Z (fun r Z' => r = fr (p + q) /\ Z' = Z) E := by
 unfold BJ c_l_sum
 rw [fr, fr]
 have m1 : Dh p.num q.den := Bu (A := A) (B := A) hp.1 (by rw [Int.natAbs_natCast]; exact hq.2) h0 h0 ⋯
 have m2 : Dh q.num p.den := Bu (A := A) (B := A) hq.1 (by rw [Int.natAbs_natCast]; exact hp.2) h0 h0 ⋯
 have m3 : Dh p.den q.den := Bu (A := A) (B := A) (by rw [Int.natAbs_natCast]; exact hp.2) (by rw [Int.natAbs_natCast]; exact hq.2) h0 h0 ⋯
 walk_at "mi*"
 refine (Eh (by have := Nat.mul_pos p.den_pos q.den_pos; rw [<- Int.natCast_mul]; omega)).mono ?_ fun _ _ z => z
 rintro _ _ ⟨rfl, rfl⟩
 exact ⟨by rw [Rj], rfl⟩
theorem JT {A : Nat} {p q : Rat} {Z : List O} {E : Ex -> List O -> Prop} (hp : Sm A p) (hq : Sm A q) (h0 : 0 < A) (hA : A <= 400000) : Wp (DW [fr p, fr q]) Z (fun r Z' => r = .bl (decide (p < q)) /\ Z' = Z) E := by
 unfold DW c_l_is_below
 rw [fr, fr]
 have m1 : Dh p.num q.den := Bu (A := A) (B := A) hp.1 (by rw [Int.natAbs_natCast]; exact hq.2) h0 h0 ⋯
 have m2 : Dh q.num p.den := Bu (A := A) (B := A) hq.1 (by rw [Int.natAbs_natCast]; exact hp.2) h0 h0 ⋯
 walk_at "mi*"
 congr 1
 rw [decide_eq_decide, Rat.lt_iff]
end Tn
namespace Tn
open PySem L2 PyProof.Rows Mi Std Rn Rg Gq
open Lq (Kp)
def Ab (v : Rat) : Prop := ∃ p q : Nat, 0 < p /\ p <= 99 /\ 0 < q /\ q <= 99 /\ v = Rat.divInt p q
def An (v : Rat) : Prop := ∃ (p : Int) (q : Nat), p.natAbs <= 99 /\ 0 < q /\ q <= 99 /\ v = Rat.divInt p q
def Hf (v : Rat) : Prop := ∃ (p : Int) (q : Nat), p.natAbs <= 4 /\ (q = 1 \/ q = 2) /\ v = Rat.divInt p q
theorem An.sm {v : Rat} (h : An v) : Sm 7 v := by
 obtain ⟨p, q, h1, h2, h3, rfl⟩ := h
 exact Sm.of ⋯ rfl ⋯ (by rw [Int.natAbs_natCast]; omega)
theorem Ab.an {v : Rat} (h : Ab v) : An v := by
 obtain ⟨p, q, h1, h2, h3, h4, rfl⟩ := h
 exact ⟨p, q, by rw [Int.natAbs_natCast]; omega, h3, h4, rfl⟩
theorem Ab.sm {v : Rat} (h : Ab v) : Sm 7 v := h.an.sm
theorem Hf.an {v : Rat} (h : Hf v) : An v := by
 obtain ⟨p, q, h1, h2, rfl⟩ := h
 exact ⟨p, q, ⋯, ⋯, ⋯, rfl⟩
theorem Hf.sm {v : Rat} (h : Hf v) : Sm 7 v := h.an.sm
theorem An.neg {v : Rat} (h : An v) : An (-v) := by
 obtain ⟨p, q, h1, h2, h3, rfl⟩ := h
 exact ⟨-p, q, ⋯, h2, h3, by rw [Rat.neg_divInt]⟩
section
variable {Z : List O} {E : Ex -> List O -> Prop} {l o n : Nat}
theorem Ds {Z' : List O} {i : Nat} {x : O} (k : Kp [l, o] Z Z') (h : l < i /\ o < i) (e : Z[i]? = some x) : Z'[i]? = some x := k.2 _ _ (fun z => by
 rcases mem_cons.mp z with z | z
 ·omega
 ·rw [mem_singleton] at z
  omega) e
theorem _root_.Tn.Pot.set (h : Pot Z l o n) {i : Nat} {x : O} (h1 : i ≠ l) (h2 : i ≠ o) : Pot (Z.set i x) l o n := by
 obtain ⟨xs, k⟩ := h
 obtain ⟨s, c, e, r⟩ := k.pot
 exact ⟨xs, k.ne, by rw [getElem?_set_ne h2]; exact k.own, k.len, s, c, by rw [getElem?_set_ne h1]; exact e, r⟩
theorem Ka {av : List Nat} {Z Z' : List O} {i : Nat} {x : O} (k : Kp av Z Z') (h : Z.length <= i) : Kp av Z (Z'.set i x) := ⟨by rw [length_set]; exact k.1, fun j y hj e => by
 have lt := (XqB e).1
 rw [getElem?_set_ne ⋯]
 exact k.2 j y hj e⟩
theorem Ir (h : Pot Z l o n) (hn : n <= 1000000) {ds : List D} (h0 : 0 < ds.length) (h9 : ds.length <= 1000) : Wp (Dd [.ref l, .ref Z.length]) (Z ++ [O.lst ds]) (fun r Z' => r ∈ ds /\ Pot Z' l o (n + 1) /\ Kp [l, o] Z Z') E := by
 obtain ⟨h1, h2⟩ := h.lt
 have g := Gr0.app Z [O.lst ds]
 refine (run_of (h.gr g) hn (by rw [Ax]; rfl) (fun z => ?_) h0 h9).mono ?_ fun _ _ z => z
 ·rcases mem_cons.mp z with z | z
  ·omega
  ·rw [mem_singleton] at z
   omega
 ·rintro r Z' ⟨hr, w, k⟩
  exact ⟨hr, w, (Kp.gr g).trans k⟩
theorem pick_new (h : Pot Z l o n) (hn : n <= 1000000) {ds : List D} {many : Int} (hm : many = (ds.length : Int)) (h0 : 0 < ds.length) (h9 : ds.length <= 1000) : Wp (Be [.ref l, .int many]) (Z ++ [O.lst ds]) (fun d Z' => (∃ (j : Nat) (r : D), d = .int (j : Int) /\ ds[j]? = some r /\ Z'[Z.length]? = some (.lst ds)) /\ Pot Z' l o (n + 1) /\ Kp [l, o] Z Z') E := by
 obtain ⟨h1, h2⟩ := h.lt
 have g := Gr0.app Z [O.lst ds]
 subst hm
 refine (Bs (h.gr g) hn ⋯ ⋯).mono ?_ fun _ _ z => z
 rintro _ Z' ⟨⟨d, rfl, hd⟩, w, k⟩
 have hd' : d < ds.length := by omega
 refine ⟨⟨d, ds[d], rfl, getElem?_eq_getElem hd', k.2 _ _ (fun z => ?_) (by rw [Ax]; rfl)⟩, w, (Kp.gr g).trans k⟩
 rcases mem_cons.mp z with z | z
 ·omega
 ·rw [mem_singleton] at z
  omega
theorem CZ (h : Pot Z l o n) (hn : n + 20 <= 1000000) : Wp (BK [.ref l]) Z (fun r Z' => (∃ v, r = fr v /\ Ab v) /\ Pot Z' l o (n + 3) /\ Kp [l, o] Z Z') E := by
 unfold BK c_l_above
 have hs := sizeLine_eq
 walk_at "mi"
 refine Wp.go (Bs h ⋯ ⋯ ⋯) ?_
 rintro _ Z1 ⟨⟨d, rfl, hd⟩, w1, k1⟩
 try walk_at "mi"
 refine ⟨⋯, Wp.go (Ir w1 ⋯ (by show 0 < 6; omega) (by show 6 <= _; omega)) ?_⟩
 rintro r Z2 ⟨hr, w2, k2⟩
 obtain ⟨a, rfl, ha⟩ : ∃ a : Nat, r = .int (a : Int) /\ a <= 98 := by
  simp only [mem_cons, not_mem_nil, or_false] at hr
  rcases hr with rfl | rfl | rfl | rfl | rfl | rfl
  ·exact ⟨0, rfl, ⋯⟩
  ·exact ⟨1, rfl, ⋯⟩
  ·exact ⟨2, rfl, ⋯⟩
  ·exact ⟨6, rfl, ⋯⟩
  ·exact ⟨98, rfl, ⋯⟩
  ·exact ⟨d, rfl, ⋯⟩
 walk_at "mi"
 refine ⟨⋯, Wp.go (Ir w2 ⋯ (by show 0 < 5; omega) (by show 5 <= _; omega)) ?_⟩
 rintro r Z3 ⟨hr, w3, k3⟩
 obtain ⟨b, rfl, hb⟩ : ∃ b : Nat, r = .int (b : Int) /\ b <= 98 := by
  simp only [mem_cons, not_mem_nil, or_false] at hr
  rcases hr with rfl | rfl | rfl | rfl | rfl
  ·exact ⟨0, rfl, ⋯⟩
  ·exact ⟨0, rfl, ⋯⟩
  ·exact ⟨1, rfl, ⋯⟩
  ·exact ⟨2, rfl, ⋯⟩
  ·exact ⟨98, rfl, ⋯⟩
 walk_at "mi"
 refine (Eh ⋯).mono ?_ fun _ _ z => z
 rintro _ _ ⟨rfl, rfl⟩
 exact ⟨⟨_, rfl, 1 + a, 1 + b, ⋯, ⋯, ⋯, ⋯, by rw [Int.natCast_add, Int.natCast_add]; rfl⟩, w3, (k1.trans k2).trans k3⟩
theorem Yq4 (h : Pot Z l o n) (hn : n + 20 <= 1000000) : Wp (Mg [.ref l]) Z (fun r Z' => (∃ v, r = fr v /\ An v) /\ Pot Z' l o (n + 4) /\ Kp [l, o] Z Z') E := by
 unfold Mg c_l_any
 have hs := sizeLine_eq
 walk_at "mi"
 refine Wp.go (CZ h hn) ?_
 rintro _ Z1 ⟨⟨v, rfl, hv⟩, w1, k1⟩
 unfold fr
 walk_at "mi"
 refine ⟨⋯, ⋯, ⋯, ⋯, ⋯, Wp.go (pick_new w1 ⋯ rfl (by show 0 < 4; omega) (by show 4 <= _; omega)) ?_⟩
 rintro _ Z2 ⟨⟨j, r, rfl, er, h2⟩, w2, k2⟩
 rw [EY, Cq, DG h2, Cp er, Aj]
 have hr := mem_of_getElem? er
 refine ⟨?_, w2, k1.trans k2⟩
 simp only [mem_cons, not_mem_nil, or_false] at hr
 rcases hr with rfl | rfl | rfl | rfl
 ·exact ⟨v, rfl, hv.an⟩
 ·exact ⟨v, rfl, hv.an⟩
 ·exact ⟨-v, by rw [Rat.neg_num, Rat.neg_den], hv.an.neg⟩
 ·exact ⟨0, rfl, 0, 1, ∅, ∅, ∅, ∅⟩
theorem Hj {nm : Str} {ks : D} {w : Str} {v : Rat} (h : Pot Z l o n) (hn : n + 20 <= 1000000) (hv : Sm 20 v) : Wp (Hm [.ref l, .str nm, ks, .str w, fr v]) Z (fun r Z' => (∃ x y b, r = .tup [.str "turn", .str nm, ks, .tup [.str w, fr x, fr y, .bl b]] /\ Sm 40 x /\ Sm 60 y) /\ Pot Z' l o (n + 3) /\ Kp [l, o] Z Z') E := by
 unfold Hm c_l_turn
 have hs := sizeLine_eq
 walk_at "mi"
 refine ⟨⋯, ⋯, ⋯, ⋯, ⋯, ⋯, ⋯, Wp.go (Ir h ⋯ (by show 0 < 6; omega) (by show 6 <= _; omega)) ?_⟩
 rintro r Z1 ⟨hr, w1, k1⟩
 obtain ⟨a, rfl, ha⟩ : ∃ a : Rat, r = fr a /\ Sm 7 a := by
  simp only [mem_cons, not_mem_nil, or_false] at hr
  rcases hr with rfl | rfl | rfl | rfl | rfl | rfl
  ·exact ⟨⟨-1, 1, ∅, ∅⟩, rfl, ∅, ∅⟩
  ·exact ⟨⟨-1, 2, ∅, ∅⟩, rfl, ∅, ∅⟩
  ·exact ⟨⟨-3, 1, ∅, ∅⟩, rfl, ∅, ∅⟩
  ·exact ⟨⟨0, 1, ∅, ∅⟩, rfl, ∅, ∅⟩
  ·exact ⟨⟨1, 1, ∅, ∅⟩, rfl, ∅, ∅⟩
  ·exact ⟨⟨-2, 1, ∅, ∅⟩, rfl, ∅, ∅⟩
 refine Wp.go (Ks (A := 20) hv (ha.up ⋯) ⋯ ⋯) ?_
 rintro _ _ ⟨rfl, rfl⟩
 have sx : Sm 40 (v + a) := (hv.add ha).up ⋯
 refine ⟨⋯, ⋯, ⋯, ⋯, ⋯, Wp.go (Ir w1 ⋯ (by show 0 < 4; omega) (by show 4 <= _; omega)) ?_⟩
 rintro r Z2 ⟨hr, w2, k2⟩
 obtain ⟨b, rfl, hb⟩ : ∃ a : Rat, r = fr a /\ Sm 7 a := by
  simp only [mem_cons, not_mem_nil, or_false] at hr
  rcases hr with rfl | rfl | rfl | rfl
  ·exact ⟨⟨1, 1, ∅, ∅⟩, rfl, ∅, ∅⟩
  ·exact ⟨⟨1, 2, ∅, ∅⟩, rfl, ∅, ∅⟩
  ·exact ⟨⟨2, 1, ∅, ∅⟩, rfl, ∅, ∅⟩
  ·exact ⟨⟨4, 1, ∅, ∅⟩, rfl, ∅, ∅⟩
 refine Wp.go (Ks (A := 40) sx (hb.up ⋯) ⋯ ⋯) ?_
 rintro _ _ ⟨rfl, rfl⟩
 refine Wp.go (Bs w2 ⋯ ⋯ ⋯) ?_
 rintro _ Z3 ⟨⟨c, rfl, hc⟩, w3, k3⟩
 walk_at "mi"
 exact ⟨⋯, ⋯, ⟨_, _, _, rfl, sx, (sx.add hb).up ⋯⟩, w3, (k1.trans k2).trans k3⟩
def CdK (k : Kd) : Prop := (∃ r, k = .resist r /\ Ab r) \/ ∃ s es, k = .bent s es /\ Ab s /\ es.length <= 2 /\ ∀ q ∈ es, Sm 40 q.1 /\ Ab q.2
theorem Dz {nm a b : Str} (h : Pot Z l o n) (hn : n + 40 <= 1000000) : Wp (Cg [.ref l, .str nm, .tup [.str a, .str b]]) Z (fun r Z' => (∃ k, r = (Pa.mk nm a b k).d /\ CdK k) /\ Pot Z' l o (n + 20) /\ Kp [l, o] Z Z') E := by
 unfold Cg c_l_conducting
 have hs := sizeLine_eq
 walk_at "mi"
 refine Wp.go (Bs h ⋯ ⋯ ⋯) ?_
 rintro _ Z1 ⟨⟨d, rfl, hd⟩, w1, k1⟩
 walk_at "mi"
 refine ⟨fun _ => Wp.go (CZ w1 ⋯) ?_, fun _ => ?_⟩
 ·rintro _ Z2 ⟨⟨v, rfl, hv⟩, w2, k2⟩
  exact ⟨⋯, ⋯, ⟨.resist v, rfl, .inl ⟨v, rfl, hv⟩⟩, w2.up ⋯, k1.trans k2⟩
 refine Wp.go (Bs w1 ⋯ ⋯ ⋯) ?_
 rintro _ Z2 ⟨⟨e, rfl, he⟩, w2, k2⟩
 walk_at "mi"
 refine Wp.go (Bs w2 ⋯ ⋯ ⋯) ?_
 rintro _ Z3 ⟨⟨f, rfl, hf⟩, w3, k3⟩
 walk_at "mi"
 refine Wp.go (Eh ⋯) ?_
 rintro _ _ ⟨rfl, rfl⟩
 refine Wp.go (CZ w3 ⋯) ?_
 rintro _ Z4 ⟨⟨v, rfl, hv⟩, w4, k4⟩
 have hv0 : Hf (Rat.divInt ((e : Int) - 4) (1 + (f : Int))) := ⟨(e : Int) - 4, 1 + f, ⋯, ⋯, by rw [Int.natCast_add]; rfl⟩
 generalize Rat.divInt ((e : Int) - 4) (1 + (f : Int)) = v0 at hv0 ⊢
 have l4 := w4.lt
 have g4 := Gr0.app Z4 [O.lst [D.tup [fr v0, fr v]]]
 have a4 : (Z4 ++ [O.lst [D.tup [fr v0, fr v]]])[Z4.length]? = some (.lst (FW [(v0, v)])) := by rw [Ax]; rfl
 have w5 := w4.gr g4
 have K5 := ((((k1.trans k2).trans k3).trans k4)).trans (Kp.gr g4)
 have b5 : Kp [l, o] Z Z4 := (((k1.trans k2).trans k3).trans k4)
 refine ⟨⋯, ⋯, ?_⟩
 generalize Z4 ++ [O.lst [D.tup [fr v0, fr v]]] = Z5 at a4 w5 K5 ⊢
 have ub := b5.1
 generalize Z4.length = X at a4 l4 ub ⊢
 refine Wp.go (Bs w5 ⋯ ⋯ ⋯) ?_
 rintro _ Z6 ⟨⟨t, rfl, ht⟩, w6, k6⟩
 have a6 := Ds k6 l4 a4
 -- what is told at the end
 have fin : ∀ (Z7 : List O) (es : Ed) (m : Nat), m <= n + 14 -> Pot Z7 l o m -> Kp [l, o] Z Z7 -> Z7[X]? = some (.lst (FW es)) -> es.length <= 2 -> (∀ q ∈ es, Sm 40 q.1 /\ Ab q.2) -> Wp (BK [.ref l]) Z7 (fun d Z' => ∃ ds, Z'[X]? = some (O.lst ds) /\ 2 <= sizeLine /\ 4 <= sizeLine /\ (∃ k, D.tup [D.str (Str.ofString "bent"), D.str nm, D.tup [D.str a, D.str b], D.tup [d, D.tup ds]] = (Pa.mk nm a b k).d /\ CdK k) /\ Pot Z' l o (n + 20) /\ Kp [l, o] Z Z') (fun x Z' => E x Z') := fun Z7 es m hm w7 K7 h7 hl hq => by
  refine (CZ w7 ⋯).mono ?_ fun _ _ z => z
  rintro _ Z8 ⟨⟨s, rfl, hs'⟩, w8, k8⟩
  exact ⟨_, Ds k8 l4 h7, ⋯, ⋯, ⟨.bent s es, rfl, .inr ⟨s, es, rfl, hs', hl, hq⟩⟩, w8.up ⋯, K7.trans k8⟩
 have one : ∀ q ∈ [(v0, v)], Sm 40 q.1 /\ Ab q.2 := fun q hq => by
  rw [mem_singleton.mp hq]
  exact ⟨hv0.sm.up ⋯, hv⟩
 walk_at "mi"
 refine ⟨fun _ => ⟨_, a6, ⋯, ⋯, ⋯, ⋯, Wp.go (Ir w6 ⋯ (by show 0 < 3; omega) (by show 3 <= _; omega)) ?_⟩, fun _ => ?_⟩
 ·rintro r Z7 ⟨hr, w7, k7⟩
  obtain ⟨z, rfl, hz⟩ : ∃ a : Rat, r = fr a /\ Sm 7 a := by
   simp only [mem_cons, not_mem_nil, or_false] at hr
   rcases hr with rfl | rfl | rfl
   ·exact ⟨⟨1, 1, ∅, ∅⟩, rfl, ∅, ∅⟩
   ·exact ⟨⟨1, 2, ∅, ∅⟩, rfl, ∅, ∅⟩
   ·exact ⟨⟨3, 1, ∅, ∅⟩, rfl, ∅, ∅⟩
  refine Wp.go (Ks (A := 7) hv0.sm hz ⋯ ⋯) ?_
  rintro _ _ ⟨rfl, rfl⟩
  refine Wp.go (CZ w7 ⋯) ?_
  rintro _ Z8 ⟨⟨u, rfl, hu⟩, w8, k8⟩
  have a8 := Ds k8 l4 (Ds k7 l4 a6)
  refine ⟨⋯, _, a8, by unfold FW; show 1 < _; omega, ?_⟩
  have e9 : FW [(v0, v)] ++ [D.tup [fr (v0 + z), fr u]] = FW [(v0, v), (v0 + z, u)] := rfl
  rw [e9]
  refine fin _ _ _ ⋯ (w8.set ⋯ ⋯) (Ka (((K5.trans k6).trans k7).trans k8) ub) (Ce a8) (by show 2 <= 2; omega) fun q hq => ?_
  simp only [mem_cons, not_mem_nil, or_false] at hq
  rcases hq with rfl | rfl
  ·exact one _ (mem_singleton.mpr rfl)
  ·exact ⟨(hv0.sm.add hz).up ⋯, hu⟩
 ·exact fin _ _ _ ⋯ w6 (K5.trans k6) a6 (by show 1 <= 2; omega) one
end
end Tn
namespace Tn
open PySem L2 PyProof.Rows Mi Std Rn Rg Gq
open Lq (Kp)
theorem Tf {z : Str} {k : Nat} : cutS z none (some (k : Int)) = ⟨(z.cps.toList.take k).toArray⟩ := by
 have e : cutS z none (some (k : Int)) = ⟨(Mi.cutD z.cps.toList none (some (k : Int))).toArray⟩ := by
  unfold cutS Mi.cutD
  rw [Array.length_toList]
  rfl
 rw [e, Lq.Tf]
theorem Vu {z : Str} {k : Nat} : cutS z (some (k : Int)) none = ⟨(z.cps.toList.drop k).toArray⟩ := by
 have e : cutS z (some (k : Int)) none = ⟨(Mi.cutD z.cps.toList (some (k : Int)) none).toArray⟩ := by
  unfold cutS Mi.cutD
  rw [Array.length_toList]
  rfl
 rw [e, Lw.Vu]
theorem erasP {α : Type} {xs : List α} {j : Nat} {x : α} (h : xs[j]? = some x) : xs.Perm (x :: xs.eraseIdx j) := by
 obtain ⟨hj, e⟩ := XqB h
 have e1 : xs = xs.take j ++ x :: xs.drop (j + 1) := by
  conv => lhs; rw [<- List.take_append_drop j xs]
  rw [List.drop_eq_getElem_cons hj, e]
 rw [List.eraseIdx_eq_take_drop_succ]
 conv => lhs; rw [e1]
 exact List.perm_middle
theorem erasM {α β : Type} {xs : List α} {f : α -> β} {j : Nat} : (xs.map f).eraseIdx j = (xs.eraseIdx j).map f := by
 rw [List.eraseIdx_eq_take_drop_succ, List.eraseIdx_eq_take_drop_succ, map_append, List.map_take, List.map_drop]
theorem slS {z : Str} {lo hi : Option Int} (h : z.length <= 2000) : slD (.str z) lo hi = M.ret (.str (cutS z lo hi)) := by
 have hs := sizeLine_eq
 show (if z.length <= sizeLine then M.ret (D.str (cutS z lo hi)) else M.stop) = _
 rw [if_pos ⋯]
def XF (s t : List Nat) (c : Nat) : Str := ⟨(s ++ c :: t).toArray⟩
theorem nm_inj {s t : List Nat} {c d : Nat} (h : XF s t c = XF s t d) : c = d := by
 unfold XF at h
 injection h with h
 have h : s ++ c :: t = s ++ d :: t := by simpa using h
 have := List.append_cancel_left h
 injection this
theorem nm_add {s t : List Nat} {c : Nat} : (⟨s.toArray⟩ : Str) ++ (⟨#[c]⟩ : Str) ++ (⟨t.toArray⟩ : Str) = XF s t c := by
 show (⟨(s.toArray ++ #[c]) ++ t.toArray⟩ : Str) = _
 unfold XF
 simp
structure NmL (xs : List Str) : Prop where
 nd : xs.Nodup
 ok : ∀ x ∈ xs, PyData.strOk x = true /\ x.length <= 5 /\ x.length ≠ 4 /\ x ≠ ""
theorem nm_l {s t cs : List Nat} (nd : cs.Nodup) (hc : ∀ c ∈ cs ++ (s ++ t), c < 128) (hl : s.length + t.length = 0 \/ s.length + t.length = 1 \/ s.length + t.length = 4) : NmL (cs.map (XF s t)) where
 nd := List.pairwise_map.mpr (nd.imp fun ne e => ne (nm_inj e))
 ok := fun x hx => by
  obtain ⟨c, hc', rfl⟩ := mem_map.mp hx
  have len : (XF s t c).length = s.length + t.length + 1 := by
   show (s ++ c :: t).toArray.size = _
   rw [size_toArray, length_append, length_cons]
   omega
  refine ⟨?_, ⋯, ⋯, fun e => ?_⟩
  ·show (XF s t c).cps.all _ = true
   unfold XF
   rw [Array.all_eq_true_iff_forall_mem]
   intro d hd
   have hd : d ∈ s ++ c :: t := by simpa using hd
   have : d < 128 := by
    refine hc d ?_
    rcases mem_append.mp hd with h | h
    ·exact mem_append_right _ (mem_append_left _ h)
    ·rcases mem_cons.mp h with rfl | h
     ·exact mem_append_left _ hc'
     ·exact mem_append_right _ (mem_append_right _ h)
   exact decide_eq_true ⋯
  ·rw [e] at len
   have : ("" : Str).length = 0 := ∅
   omega
theorem Nr : ∀ xs : List Str, strsOf (xs.map D.str) = some xs
 | [] => rfl
 | x :: r => by
  rw [map_cons]
  show (strsOf (r.map D.str)).map (x :: ·) = _
  rw [Nr r]
  rfl
theorem T5 {Z : List O} {j : Nat} {xs : List Str} (h : Z[j]? = some (.lst (xs.map .str))) : HS Z (.ref j) = some xs := by
 dsimp only [HS]
 rw [h]
 exact Nr xs
theorem lenS {z : Str} (h : z.length <= 2000) : lenD [.str z] = M.ret (.int (z.length : Nat)) := by
 have hs := sizeLine_eq
 show (if z.length <= sizeLine then M.ret (D.int z.length) else M.stop) = _
 rw [if_pos ⋯]
theorem join_sgs (w : Str) : Txt.join "" (sgs w) = w := by
 have h := PyProof.Rows.join_plain_closes "" (sgs w)
 rw [beq_iff_eq] at h
 rw [h]
 exact PyProof.Rows.join_nil_signs w
theorem len_le {xs : List Str} (h : ∀ x ∈ xs, x.length = 1) : (xs.map (·.length)).sum = xs.length := by
 induction xs with
 | nil => rfl
 | cons x r ih =>
  rw [map_cons, sum_cons, h x (mem_cons_self ..), ih fun y hy => h y (mem_cons_of_mem _ hy), length_cons]
  omega
def abc : List Nat := (Str.ofString "abcdefghijklmnopqrstuvwxyz").cps.toList
theorem abc_nd : abc.Nodup := ∅
theorem abc_lt : ∀ c ∈ abc, c < 128 := ∅
theorem abc_len : abc.length = 26 := ∅
def chD (c : Nat) : D := .str ⟨#[c]⟩
theorem abc_sgs : (sgs (Str.ofString "abcdefghijklmnopqrstuvwxyz")).map D.str = abc.map chD := by
 unfold sgs
 rw [map_map]
 rfl
def abkz : List Nat := (Str.ofString "abkz").cps.toList
theorem abkz_lt : ∀ c ∈ abkz, c < 128 := ∅
section
variable {Z : List O} {E : Ex -> List O -> Prop} {l o n : Nat}
theorem RB {w : Nat} (h : Pot Z l o n) (hn : n + 100 <= 1000000) (hw : w <= 20) : Wp (GD [.ref l, .int (w : Int)]) Z (fun r Z' => (∃ k xs, r = .ref k /\ Z.length <= k /\ Z'[k]? = some (.lst (xs.map .str)) /\ xs.length = w /\ NmL xs) /\ Pot Z' l o (n + 40) /\ Kp [l, o] Z Z') E := by
 unfold GD c_l_names
 have hs := sizeLine_eq
 walk_at "mi"
 rw [o_listX, if_pos (by rw [hs]; decide +kernel)]
 walk_at "mi"
 rw [abc_sgs]
 have g1 := Gr0.app Z [O.lst (abc.map chD)]
 have a1 : (Z ++ [O.lst (abc.map chD)])[Z.length]? = some (.lst (abc.map chD)) := by rw [Ax]; rfl
 have w1 := h.gr g1
 have e1 : Z ++ [O.lst (abc.map chD), O.lst [D.int 0, D.int 0, D.int 1, D.int 4]] = (Z ++ [O.lst (abc.map chD)]) ++ [O.lst [D.int 0, D.int 0, D.int 1, D.int 4]] := by simp
 have e2 : Z.length + 1 = (Z ++ [O.lst (abc.map chD)]).length := by simp
 rw [e1, e2]
 have lt := h.lt
 generalize Z ++ [O.lst (abc.map chD)] = Z1 at g1 a1 w1 ⊢
 refine ⟨⋯, Wp.go (Ir w1 ⋯ (by show 0 < 4; omega) (by show 4 <= _; omega)) ?_⟩
 rintro r Z2 ⟨hr, w2, k2⟩
 obtain ⟨m, rfl, hm⟩ : ∃ m : Nat, r = .int (m : Int) /\ (m = 0 \/ m = 1 \/ m = 4) := by
  simp only [mem_cons, not_mem_nil, or_false] at hr
  rcases hr with rfl | rfl | rfl | rfl
  ·exact ⟨0, rfl, ⋯⟩
  ·exact ⟨0, rfl, ⋯⟩
  ·exact ⟨1, rfl, ⋯⟩
  ·exact ⟨4, rfl, ⋯⟩
 have a2 := Ds k2 lt a1
 have K2 : Kp [l, o] Z Z2 := (Kp.gr g1).trans k2
 clear g1 a1 w1 k2 e1 e2 hr
 walk_at "mi"
 refine ⟨by unfold ok62; omega, ?_⟩
 rw [show ((m : Int)).toNat = m by omega]
 have lt2 := w2.lt
 refine V5 m (fun i acc Z' => ∃ s : List Nat, acc = s.map chD /\ s.length = i /\ (∀ c ∈ s, c ∈ abkz) /\ Pot Z' l o (n + 1 + i) /\ Kp [l, o] Z2 Z' /\ Z'[Z2.length]? = some (.lst acc)) XqG ⟨[], rfl, rfl, fun c hc => (by cases hc), w2.gr (Gr0.app _ _), Kp.gr (Gr0.app _ _), Ax⟩ ?_ ?_
 ·rintro i _ Z' hi ⟨s, rfl, sl, sc, w3, k3, a3⟩
  refine ⟨.int ((0 : Int) + (i : Int)), by show (if i < m then some (some (D.int ((0 : Int) + (i : Int)))) else some none) = _; rw [if_pos hi], _, _, rfl, ?_⟩
  rw [Mv, Aj, if_pos rfl]
  walk_at "d"
  walk_at "mi"
  refine Wp.go (run_ofS w3 ⋯ ∅ ∅) ?_
  rintro _ Z4 ⟨⟨c, hc, rfl⟩, w4, k4⟩
  have a4 := Ds k4 (i := Z2.length) ⋯ a3
  refine ⟨_, a4, by rw [length_map]; omega, s ++ [c], by rw [map_append]; rfl, by rw [length_append]; show _ + 1 = _; omega, fun d hd => ?_, (w4.set ⋯ ⋯).up ⋯, Ka (k3.trans k4) XqG, Ce a4⟩
  rcases mem_append.mp hd with hd | hd
  ·exact sc d hd
  ·rw [mem_singleton.mp hd]
   exact hc
 ·rintro _ Z3 ⟨s, rfl, sl, sc, w3, k3, a3⟩
  refine ⟨by show (if m < m then some (some (D.int ((0 : Int) + (m : Int)))) else some none) = _; rw [if_neg ⋯], ?_⟩
  have a3' := Ds k3 lt a2
  have K3 := K2.trans k3
  clear a2 K2 k3 w2
  have eS : s.map chD = (sgs ⟨s.toArray⟩).map D.str := by
   unfold sgs
   rw [map_map]
   rfl
  rw [eS] at a3
  have ones : ∀ x ∈ sgs ⟨s.toArray⟩, x.length = 1 := fun x hx => by
   obtain ⟨c, _, rfl⟩ := mem_map.mp hx
   rfl
  have e0 : ("" : Str).length = 0 := ∅
  have lS : (sgs ⟨s.toArray⟩).length = m := by
   unfold sgs
   rw [length_map]
   exact sl
  rw [wp_join (T5 a3) (by rw [len_le ones, e0, lS]; omega), join_sgs, lenS (by show s.toArray.size <= _; rw [size_toArray]; omega)]
  have eL : ((⟨s.toArray⟩ : Str).length : Int) = (m : Int) := by
   show ((s.toArray.size : Nat) : Int) = _
   rw [size_toArray, sl]
  rw [Aj, eL]
  walk_at "mi"
  refine Wp.go (Bs w3 ⋯ ⋯ ⋯) ?_
  rintro _ Z4 ⟨⟨p, rfl, hp⟩, w4, k4⟩
  have a4 := Ds k4 lt a3'
  have K4 := K3.trans k4
  refine ⟨Nat.zero_le _, by unfold ok62; omega, ?_⟩
  rw [show ((w : Int)).toNat = w by omega]
  have g5 := Gr0.app Z4 [O.lst []]
  have a5 := g5.at_ _ _ a4
  have b5 : (Z4 ++ [O.lst []])[Z4.length]? = some (.lst ((([] : List Nat).map (XF (s.take p) (s.drop p))).map .str)) := by rw [Ax]; rfl
  have w5 : Pot (Z4 ++ [O.lst []]) l o (n + 10) := (w4.gr g5).up ⋯
  have K5 := K4.trans (Kp.gr g5)
  have lt4 := w4.lt
  have ub : Z.length <= Z4.length := K4.1
  have ne : Z.length ≠ Z4.length := by
   have := (XqB a4).1
   omega
  generalize Z4 ++ [O.lst []] = Z5 at a5 b5 w5 K5 ⊢
  generalize Z4.length = F at b5 lt4 ub ne ⊢
  refine Qc (fun i Y Z' => ∃ x4 cs rest, Y = [some (.ref l), some (.int (w : Int)), some (.ref Z.length), some (.str ⟨s.toArray⟩), x4, some (.int (p : Int)), some (.ref F)] /\ Z'[Z.length]? = some (.lst (rest.map chD)) /\ Z'[F]? = some (.lst ((cs.map (XF (s.take p) (s.drop p))).map .str)) /\ (cs ++ rest).Perm abc /\ cs.length = i /\ Pot Z' l o (n + 10 + i) /\ Kp [l, o] Z Z') ⟨_, [], abc, rfl, a5, b5, .refl _, rfl, w5, K5⟩ ?_ ?_
  ·rintro i _ Z' hi ⟨x4, cs, rest, rfl, a6, b6, pm, cl, w6, k6⟩
   refine ⟨_, _, rfl, ?_⟩
   dsimp only [set_cons_succ, set_cons_zero]
   have lr : rest.length + i = 26 := by
    have := pm.length_eq
    rw [length_append, abc_len, cl] at this
    omega
   walk_at "mi"
   have zs : (⟨s.toArray⟩ : Str).length <= 2000 := by
    show s.toArray.size <= _
    rw [size_toArray]
    omega
   have tl : (⟨s.toArray⟩ : Str).cps.toList = s := rfl
   refine ⟨_, b6, ?_⟩
   rw [slS zs, Tf, tl, Aj]
   refine ⟨_, a6, _, a6, ?_⟩
   rw [length_map]
   refine Wp.go (Bs w6 ⋯ ⋯ ⋯) ?_
   rintro _ Z7 ⟨⟨j, rfl, hj⟩, w7, k7⟩
   have a7 := Ds k7 lt a6
   have b7 := Ds k7 lt4 b6
   have hj' : j < rest.length := by omega
   have ey : rest[j]? = some rest[j] := getElem?_eq_getElem hj'
   have lr' : (rest.eraseIdx j).length + 1 = rest.length := by rw [List.length_eraseIdx_of_lt hj']; omega
   generalize rest[j] = c at ey
   have pe := erasP ey
   rw [Qh a7 (y := chD c) (by rw [getElem?_map, ey]; rfl) ⋯, erasM]
   have lts : ∀ k : Nat, (⟨(s.take k).toArray⟩ : Str).length + 1 <= sizeLine /\ (⟨(s.drop k).toArray⟩ : Str).length <= 100 := fun k => by
    refine ⟨?_, ?_⟩
    ·show (s.take k).toArray.size + 1 <= _
     rw [size_toArray, length_take]
     omega
    ·show (s.drop k).toArray.size <= _
     rw [size_toArray, length_drop]
     omega
   have sz2 : ((⟨(s.take p).toArray⟩ : Str) ++ (⟨#[c]⟩ : Str)).length <= 100 := by
    show ((s.take p).toArray ++ #[c]).size <= _
    rw [Array.size_append, size_toArray, length_take]
    show _ + 1 <= _
    omega
   have ad1 : addD (.str ⟨(s.take p).toArray⟩) (chD c) = M.ret (.str ((⟨(s.take p).toArray⟩ : Str) ++ (⟨#[c]⟩ : Str))) := JW.trans (if_pos (lts p).1)
   have ad2 : addD (.str ((⟨(s.take p).toArray⟩ : Str) ++ (⟨#[c]⟩ : Str))) (.str ⟨(s.drop p).toArray⟩) = M.ret (.str ((⟨(s.take p).toArray⟩ : Str) ++ (⟨#[c]⟩ : Str) ++ (⟨(s.drop p).toArray⟩ : Str))) := JW.trans (if_pos (by have := (lts p).2; omega))
   rw [ad1, Aj, slS zs, Vu, tl, Aj, ad2, Aj, nm_add]
   have b8 : (Z7.set Z.length (O.lst ((rest.eraseIdx j).map chD)))[F]? = some (.lst ((cs.map (XF (s.take p) (s.drop p))).map .str)) := by rw [getElem?_set_ne ne]; exact b7
   have a8 : (Z7.set Z.length (O.lst ((rest.eraseIdx j).map chD)))[Z.length]? = some (.lst ((rest.eraseIdx j).map chD)) := Ce a7
   have w8 := w7.set (i := Z.length) (x := O.lst ((rest.eraseIdx j).map chD)) ⋯ ⋯
   have k8 := Ka (i := Z.length) (x := O.lst ((rest.eraseIdx j).map chD)) (k6.trans k7) XqG
   refine ⟨_, b8, by rw [length_map, length_map]; omega, _, cs ++ [c], rest.eraseIdx j, rfl, ?_, ?_, ?_, by rw [length_append]; show _ + 1 = _; omega, ?_, Ka k8 ub⟩
   ·rw [getElem?_set_ne (Ne.symm ne)]
    exact a8
   ·rw [map_append, map_append]
    exact Ce b8
   ·have q : (cs ++ [c] ++ rest.eraseIdx j) = cs ++ (c :: rest.eraseIdx j) := by simp
    rw [q]
    exact (pe.append_left cs).symm.trans pm
   ·exact (w8.set ⋯ ⋯).up ⋯
  ·rintro _ Z' ⟨x4, cs, rest, rfl, a6, b6, pm, cl, w6, k6⟩
   walk_at "mi"
   have nd : (cs ++ rest).Nodup := (pm.nodup_iff).mpr abc_nd
   refine ⟨⟨F, _, rfl, ub, b6, by rw [length_map]; exact cl, nm_l (nodup_append.mp nd).1 (fun c hc => ?_) ?_⟩, w6.up ⋯, k6⟩
   ·rcases mem_append.mp hc with hc | hc
    ·exact abc_lt c ((pm.mem_iff).mp (mem_append_left _ hc))
    ·rw [List.take_append_drop] at hc
     exact abkz_lt c (sc c hc)
   ·rw [length_take, length_drop]
    omega
end
end Tn
namespace Tn
open PySem L2 PyProof.Rows Mi Std Rn Rg Gq
open Lq (Kp)
theorem atD_4 {a b c d e : D} {r : List D} : atD (a :: b :: c :: d :: e :: r) 4 = M.ret e := by
 show atD _ ((4 : Nat) : Int) = _
 exact Cp rfl
theorem atD_5 {a b c d e f : D} {r : List D} : atD (a :: b :: c :: d :: e :: f :: r) 5 = M.ret f := by
 show atD _ ((5 : Nat) : Int) = _
 exact Cp rfl
theorem ZC {a b c d e f g : D} {r : List D} : atD (a :: b :: c :: d :: e :: f :: g :: r) 6 = M.ret g := by
 show atD _ ((6 : Nat) : Int) = _
 exact Cp rfl
theorem atD_7 {a b c d e f g h : D} {r : List D} : atD (a :: b :: c :: d :: e :: f :: g :: h :: r) 7 = M.ret h := by
 show atD _ ((7 : Nat) : Int) = _
 exact Cp rfl
section
variable (n k : Nat -> Str)
def FeedS (qs : List Pa) : Prop := (∃ v r, An v /\ Ab r /\ qs = [⟨n 0, "base", k 0, .stream v⟩, ⟨n 1, k 0, "base", .resist r⟩]) \/ ∃ v r, An v /\ Ab r /\ qs = [⟨n 0, k 1, "base", .height v⟩, ⟨n 1, k 1, k 0, .resist r⟩]
def KeepS (f : Rat) (p : Pa) : Prop := ∃ c, Ab c /\ (p = ⟨n 2, k 0, "base", .keep c f⟩ \/ p = ⟨n 2, "base", k 0, .keep c f⟩)
def Rk (nm a b w : Str) (p : Pa) : Prop := ∃ x y c, Sm 40 x /\ Sm 60 y /\ p = ⟨nm, a, b, .turn w x y c⟩
def ZG (nm a b : Str) (p : Pa) : Prop := ∃ c, CdK c /\ p = ⟨nm, a, b, c⟩
def MoreS (s : Rat) (p : Pa) : Prop := ∃ c a b, Ab c /\ ((a = k 3 /\ b = ("base" : Str)) \/ (a = ("base" : Str) /\ b = k 3) \/ (a = k 3 /\ b = k 2) \/ (a = k 2 /\ b = k 3)) /\ (p = ⟨n 6, a, b, .keep c s⟩ \/ p = ⟨n 6, a, b, .coil c s⟩)
def RestS (s : Rat) (qs : List Pa) : Prop := (∃ p q r, ZG (n 5) (k 0) (k 3) p /\ MoreS n k s q /\ (Rk (n 7) (k 0) (k 3) (n 2) r \/ Rk (n 7) (k 0) (k 3) (n 6) r) /\ qs = [p, q, r]) \/ ∃ p q, (Rk (n 5) (k 0) (k 3) (n 2) p \/ ∃ b, p = ⟨n 5, k 0, k 3, .switch b⟩) /\ ZG (n 6) (k 3) "base" q /\ qs = [p, q]
def Shp (qs : List Pa) : Prop := ∃ q1 p2 p3 p4 q5 f s, FeedS n k q1 /\ Hf f /\ Hf s /\ KeepS n k f p2 /\ Rk (n 3) (k 0) (k 2) (n 2) p3 /\ ZG (n 4) (k 2) "base" p4 /\ RestS n k s q5 /\ qs = q1 ++ [p2, p3, p4] ++ q5
end
structure NS (Z0 Z : List O) (l o m N K P : Nat) (ns ks : List D) (qs : List Pa) : Prop where
 pot : Pot Z l o m
 kp : Kp [l, o] Z0 Z
 hN : Z[N]? = some (.lst ns)
 hK : Z[K]? = some (.lst ks)
 hP : Z[P]? = some (.lst (qs.map Pa.d))
 b : Z0.length <= N /\ Z0.length <= K /\ Z0.length <= P
 a : l < Z0.length /\ o < Z0.length
 ne : N ≠ P /\ K ≠ P
theorem NS.step {Z0 Z Z' : List O} {l o m m' N K P : Nat} {ns ks : List D} {qs : List Pa} (h : NS Z0 Z l o m N K P ns ks qs) (w : Pot Z' l o m') (k : Kp [l, o] Z Z') : NS Z0 Z' l o m' N K P ns ks qs := by
 obtain ⟨b1, b2, b3⟩ := h.b
 obtain ⟨a1, a2⟩ := h.a
 exact ⟨w, h.kp.trans k, Ds k ⋯ h.hN, Ds k ⋯ h.hK, Ds k ⋯ h.hP, h.b, h.a, h.ne⟩
theorem NS.put {Z0 Z : List O} {l o m N K P : Nat} {ns ks : List D} {qs : List Pa} (h : NS Z0 Z l o m N K P ns ks qs) (p : Pa) : NS Z0 (Z.set P (.lst (qs.map Pa.d ++ [p.d]))) l o m N K P ns ks (qs ++ [p]) := by
 obtain ⟨b1, b2, b3⟩ := h.b
 obtain ⟨a1, a2⟩ := h.a
 refine ⟨h.pot.set ⋯ ⋯, Ka h.kp b3, ?_, ?_, ?_, h.b, h.a, h.ne⟩
 ·rw [getElem?_set_ne (Ne.symm h.ne.1)]; exact h.hN
 ·rw [getElem?_set_ne (Ne.symm h.ne.2)]; exact h.hK
 ·rw [map_append]; exact Ce h.hP
theorem NS.up {Z0 Z : List O} {l o m m' N K P : Nat} {ns ks : List D} {qs : List Pa} (h : NS Z0 Z l o m N K P ns ks qs) (hm : m <= m') : NS Z0 Z l o m' N K P ns ks qs := ⟨h.pot.up hm, h.kp, h.hN, h.hK, h.hP, h.b, h.a, h.ne⟩
theorem list8 {xs : List Str} (h : xs.length = 8) : ∃ a b c d e f g i, xs = [a, b, c, d, e, f, g, i] := by
 match xs, h with
 | [a, b, c, d, e, f, g, i], _ => exact ⟨a, b, c, d, e, f, g, i, rfl⟩
theorem list4 {xs : List Str} (h : xs.length = 4) : ∃ a b c d, xs = [a, b, c, d] := by
 match xs, h with
 | [a, b, c, d], _ => exact ⟨a, b, c, d, rfl⟩
section
variable {Z : List O} {E : Ex -> List O -> Prop} {l o n : Nat}
theorem run_net (h : Pot Z l o n) (hn : n + 400 <= 1000000) : Wp (Mf [.ref l]) Z (fun r Z' => (∃ (ps : List Pa) (ns ks : List Str) (qs : List Pa), r = .tup (ps.map Pa.d) /\ ps.Perm qs /\ ns.length = 8 /\ ks.length = 4 /\ NmL ns /\ NmL ks /\ Shp (ns.getD · "") (ks.getD · "") qs) /\ Pot Z' l o (n + 300) /\ Kp [l, o] Z Z') E := by
 unfold Mf c_l_net
 have hs := sizeLine_eq
 rw [Ig]
 refine ⟨rfl, ?_⟩
 have lt := h.lt
 refine Lq.Gm (fun Y Z' => ∃ N K ns ks w, Y = [some (.ref l), none, some (.ref N), some (.ref K), some (.int ((w : Nat) : Int)), none, none, none, none, none, none, none] /\ w < 4 /\ ns.length = 8 /\ ks.length = 4 /\ NmL ns /\ NmL ks /\ Z.length <= N /\ Z.length <= K /\ Z'[N]? = some (.lst (ns.map .str)) /\ Z'[K]? = some (.lst (ks.map .str)) /\ Pot Z' l o (n + 81) /\ Kp [l, o] Z Z') ?_ ?_
 ·walk_at "mi"
  refine Wp.go (RB (w := 8) h ⋯ ⋯) ?_
  rintro _ Z1 ⟨⟨N, ns, rfl, bN, hN, ln, okn⟩, w1, k1⟩
  refine Wp.go (RB (w := 4) w1 ⋯ ⋯) ?_
  rintro _ Z2 ⟨⟨K, ks, rfl, bK, hK, lk, okk⟩, w2, k2⟩
  refine Wp.go (Bs w2 ⋯ ⋯ ⋯) ?_
  rintro _ Z3 ⟨⟨w, rfl, hw⟩, w3, k3⟩
  have b1 := k1.1
  exact ⟨_, rfl, N, K, ns, ks, w, rfl, ⋯, ln, lk, okn, okk, bN, ⋯, Ds k3 ⋯ (Ds k2 ⋯ hN), Ds k3 ⋯ hK, w3, (k1.trans k2).trans k3⟩
 rintro _ Z1 ⟨N, K, ns, ks, w, rfl, hw, ln, lk, okn, okk, bN, bK, hN, hK, w1, k1⟩
 obtain ⟨n0, n1, n2, n3, n4, n5, n6, n7, rfl⟩ := list8 ln
 obtain ⟨c0, c1, c2, c3, rfl⟩ := list4 lk
 refine Lq.Gm (fun Y Z' => ∃ f s, Y = [some (.ref l), none, some (.ref N), some (.ref K), some (.int ((w : Nat) : Int)), some (fr f), some (fr s), none, none, none, none, none] /\ Hf f /\ Hf s /\ Z'[N]? = some (.lst ([n0, n1, n2, n3, n4, n5, n6, n7].map .str)) /\ Z'[K]? = some (.lst ([c0, c1, c2, c3].map .str)) /\ Pot Z' l o (n + 90) /\ Kp [l, o] Z Z') ?_ ?_
 ·rw [Lk]
  refine ws_asgL ?_
  walk_at "mi"
  refine ⟨∅, ?_⟩
  have lt1 := w1.lt
  refine V5 2 (fun i acc Z' => ∃ vs : List Rat, acc = vs.map fr /\ vs.length = i /\ (∀ v ∈ vs, Hf v) /\ Pot Z' l o (n + 81 + 2 * i) /\ Kp [l, o] Z1 Z' /\ Z'[Z1.length]? = some (.lst acc)) (Nat.le_refl 2) ⟨[], rfl, rfl, fun v hv => (by cases hv), w1.gr (Gr0.app _ _), Kp.gr (Gr0.app _ _), Ax⟩ ?_ ?_
  ·rintro i _ Z' hi ⟨vs, rfl, vl, hv, w3, k3, a3⟩
   refine ⟨.int ((0 : Int) + (i : Int)), by show (if i < 2 then some (some (D.int ((0 : Int) + (i : Int)))) else some none) = _; rw [if_pos hi], _, _, rfl, ?_⟩
   rw [Mv, Aj, if_pos rfl]
   walk_at "d"
   walk_at "mi"
   refine Wp.go (Bs w3 ⋯ ⋯ ⋯) ?_
   rintro _ Z4 ⟨⟨e, rfl, he⟩, w4, k4⟩
   walk_at "mi"
   refine Wp.go (Bs w4 ⋯ ⋯ ⋯) ?_
   rintro _ Z5 ⟨⟨f, rfl, hf⟩, w5, k5⟩
   walk_at "mi"
   refine Wp.go (Eh ⋯) ?_
   rintro _ _ ⟨rfl, rfl⟩
   have hv0 : Hf (Rat.divInt ((e : Int) - 4) (1 + (f : Int))) := ⟨(e : Int) - 4, 1 + f, ⋯, ⋯, by rw [Int.natCast_add]; rfl⟩
   have a5 := Ds k5 (i := Z1.length) ⋯ (Ds k4 (i := Z1.length) ⋯ a3)
   refine ⟨_, a5, by rw [length_map]; omega, vs ++ [_], by rw [map_append]; rfl, by rw [length_append]; show _ + 1 = _; omega, fun v hv' => ?_, (w5.set ⋯ ⋯).up ⋯, Ka ((k3.trans k4).trans k5) XqG, Ce a5⟩
   rcases mem_append.mp hv' with hv' | hv'
   ·exact hv v hv'
   ·rw [mem_singleton.mp hv']
    exact hv0
  ·rintro _ Z' ⟨vs, rfl, vl, hv, w3, k3, a3⟩
   refine ⟨by show (if 2 < 2 then some (some (D.int ((0 : Int) + ((2 : Nat) : Int)))) else some none) = _; rw [if_neg ⋯], ?_⟩
   match vs, vl with
   | [f, s], _ =>
    exact ⟨_, _, rfl, a3, rfl, _, _, rfl, _, rfl, f, s, rfl, hv f (by simp), hv s (by simp), Ds k3 ⋯ hN, Ds k3 ⋯ hK, w3.up ⋯, k1.trans k3⟩
 rintro _ Z2 ⟨f, s, rfl, hf, hs2, hN2, hK2, w2, k2⟩
 have kb := k2.1
 have hN2 : Z2[N]? = some (.lst [.str n0, .str n1, .str n2, .str n3, .str n4, .str n5, .str n6, .str n7]) := hN2
 have hK2 : Z2[K]? = some (.lst [.str c0, .str c1, .str c2, .str c3]) := hK2
 have bP : ∀ Z' : List O, Kp [l, o] Z Z' -> Z.length <= Z'.length := fun _ k => k.1
 -- the parts that feed
 refine Lq.Gm (fun Y Z' => ∃ P, Y = [some (.ref l), some (.ref P), some (.ref N), some (.ref K), some (.int ((w : Nat) : Int)), some (fr f), some (fr s), none, none, none, none, none] /\ ∃ v r, An v /\ Ab r /\ NS Z Z' l o (n + 100) N K P [.str n0, .str n1, .str n2, .str n3, .str n4, .str n5, .str n6, .str n7] [.str c0, .str c1, .str c2, .str c3] [⟨n0, "base", c0, .stream v⟩, ⟨n1, c0, "base", .resist r⟩]) ?_ ?_
 ·walk_at "mi"
  refine ⟨_, hN2, ?_⟩
  rw [Dy, Aj]
  refine ⟨_, hK2, ?_⟩
  rw [Dy, Aj]
  refine ⟨⋯, Wp.go (Yq4 w2 ⋯) ?_⟩
  rintro _ Z3 ⟨⟨v, rfl, hv⟩, w3, k3⟩
  refine ⟨⋯, ⋯, _, Ds k3 ⋯ hN2, ?_⟩
  rw [M4, Aj]
  refine ⟨_, Ds k3 ⋯ hK2, ?_⟩
  rw [Dy, Aj]
  refine ⟨⋯, Wp.go (CZ w3 ⋯) ?_⟩
  rintro _ Z4 ⟨⟨r, rfl, hr⟩, w4, k4⟩
  have K4 := (k2.trans k3).trans k4
  have hN4 := Ds k4 ⋯ (Ds k3 ⋯ hN2)
  have hK4 := Ds k4 ⋯ (Ds k3 ⋯ hK2)
  have lN := (XqB hN4).1
  have lK := (XqB hK4).1
  have b4 := K4.1
  refine ⟨⋯, ⋯, ⋯, _, rfl, _, rfl, v, r, hv, hr, (w4.gr (Gr0.app _ _)).up ⋯, K4.trans (Kp.gr (Gr0.app _ _)), (Gr0.app _ _).at_ _ _ hN4, (Gr0.app _ _).at_ _ _ hK4, by rw [Ax]; rfl, ⟨bN, bK, b4⟩, lt, ⟨⋯, ⋯⟩⟩
 rintro _ Z3 ⟨P0, rfl, v, r, hv, hr, h3⟩
 clear hN2 hK2 w2 k2 hN hK w1 k1
 -- or a height
 refine Lq.Gm (fun Y Z' => ∃ P, Y = [some (.ref l), some (.ref P), some (.ref N), some (.ref K), some (.int ((w : Nat) : Int)), some (fr f), some (fr s), none, none, none, none, none] /\ ∃ qs, FeedS ([n0, n1, n2, n3, n4, n5, n6, n7].getD · "") ([c0, c1, c2, c3].getD · "") qs /\ NS Z Z' l o (n + 120) N K P [.str n0, .str n1, .str n2, .str n3, .str n4, .str n5, .str n6, .str n7] [.str c0, .str c1, .str c2, .str c3] qs) ?_ ?_
 ·walk_at "mi"
  refine Wp.go (Bs h3.pot ⋯ ⋯ ⋯) ?_
  rintro _ Z4 ⟨⟨d, rfl, hd⟩, w4, k4⟩
  have h4 := h3.step w4 k4
  walk_at "mi"
  refine ⟨fun _ => ?_, fun _ => ⟨_, rfl, P0, rfl, _, .inl ⟨v, r, hv, hr, rfl⟩, h4.up ⋯⟩⟩
  refine ⟨_, h4.hN, ?_⟩
  rw [Dy, Aj]
  refine ⟨_, h4.hK, ?_⟩
  rw [M4, Aj]
  refine ⟨⋯, Wp.go (Yq4 h4.pot ⋯) ?_⟩
  rintro _ Z5 ⟨⟨v', rfl, hv'⟩, w5, k5⟩
  have h5 := h4.step w5 k5
  refine ⟨⋯, ⋯, ?_⟩
  refine ⟨_, h5.hN, ?_⟩
  rw [M4, Aj]
  refine ⟨_, h5.hK, ?_⟩
  rw [M4, Aj]
  refine ⟨_, h5.hK, ?_⟩
  rw [Dy, Aj]
  refine ⟨⋯, Wp.go (CZ h5.pot ⋯) ?_⟩
  rintro _ Z6 ⟨⟨r', rfl, hr'⟩, w6, k6⟩
  have h6 := h5.step w6 k6
  have lN := (XqB h6.hN).1
  have lK := (XqB h6.hK).1
  refine ⟨⋯, ⋯, ⋯, _, rfl, _, rfl, _, .inr ⟨v', r', hv', hr', rfl⟩, (w6.gr (Gr0.app _ _)).up ⋯, h6.kp.trans (Kp.gr (Gr0.app _ _)), (Gr0.app _ _).at_ _ _ h6.hN, (Gr0.app _ _).at_ _ _ h6.hK, by rw [Ax]; rfl, ⟨bN, bK, h6.kp.1⟩, lt, ⟨⋯, ⋯⟩⟩
 rintro _ Z4 ⟨P, rfl, q1, hq1, h4⟩
 clear h3
 have qd : ∀ q : List Pa, q.length <= 20 -> (q.map Pa.d).length < sizeLine := fun q hq => by rw [length_map]; omega
 have l1 : q1.length = 2 := by
  rcases hq1 with ⟨_, _, _, _, rfl⟩ | ⟨_, _, _, _, rfl⟩ <;> rfl
 -- what keeps
 refine Lq.Gm (fun Y Z' => Y = [some (.ref l), some (.ref P), some (.ref N), some (.ref K), some (.int ((w : Nat) : Int)), some (fr f), some (fr s), none, none, none, none, none] /\ ∃ p, KeepS ([n0, n1, n2, n3, n4, n5, n6, n7].getD · "") ([c0, c1, c2, c3].getD · "") f p /\ NS Z Z' l o (n + 140) N K P [.str n0, .str n1, .str n2, .str n3, .str n4, .str n5, .str n6, .str n7] [.str c0, .str c1, .str c2, .str c3] (q1 ++ [p])) ?_ ?_
 ·walk_at "mi"
  refine ⟨_, h4.hP, _, h4.hN, ?_⟩
  rw [Gy, Aj]
  refine ⟨_, h4.hK, ?_⟩
  rw [Dy, Aj]
  refine ⟨⋯, _, h4.hK, ?_⟩
  rw [Dy, Aj]
  refine ⟨⋯, ⋯, Wp.go (Ir h4.pot ⋯ (by show 0 < 2; omega) (by show 2 <= _; omega)) ?_⟩
  rintro d Z5 ⟨hd, w5, k5⟩
  have h5 := h4.step w5 k5
  refine Wp.go (CZ h5.pot ⋯) ?_
  rintro _ Z6 ⟨⟨c, rfl, hc⟩, w6, k6⟩
  have h6 := h5.step w6 k6
  refine ⟨⋯, ⋯, _, h6.hP, qd _ ⋯, ?_⟩
  simp only [mem_cons, not_mem_nil, or_false] at hd
  rcases hd with rfl | rfl
  ·exact ⟨_, rfl, rfl, _, ⟨c, hc, .inl rfl⟩, (h6.put ⟨n2, c0, "base", .keep c f⟩).up ⋯⟩
  ·exact ⟨_, rfl, rfl, _, ⟨c, hc, .inr rfl⟩, (h6.put ⟨n2, "base", c0, .keep c f⟩).up ⋯⟩
 rintro _ Z5 ⟨rfl, p2, hp2, h5⟩
 clear h4
 obtain ⟨q2, e2⟩ : ∃ q, q = q1 ++ [p2] := ⟨_, rfl⟩
 rw [<- e2] at h5
 have l2 : q2.length = 3 := by rw [e2, length_append, l1]; rfl
 -- a turn that watches it
 refine Lq.Gm (fun Y Z' => Y = [some (.ref l), some (.ref P), some (.ref N), some (.ref K), some (.int ((w : Nat) : Int)), some (fr f), some (fr s), none, none, none, none, none] /\ ∃ p, Rk n3 c0 c2 n2 p /\ NS Z Z' l o (n + 160) N K P [.str n0, .str n1, .str n2, .str n3, .str n4, .str n5, .str n6, .str n7] [.str c0, .str c1, .str c2, .str c3] (q2 ++ [p])) ?_ ?_
 ·walk_at "mi"
  refine ⟨_, h5.hP, _, h5.hN, ?_⟩
  rw [Ht, Aj]
  refine ⟨_, h5.hK, ?_⟩
  rw [Dy, Aj]
  refine ⟨_, h5.hK, ?_⟩
  rw [Gy, Aj]
  refine ⟨⋯, _, h5.hN, ?_⟩
  rw [Gy, Aj]
  refine Wp.go (Hj h5.pot ⋯ (hf.sm.up ⋯)) ?_
  rintro _ Z6 ⟨⟨x, y, b, rfl, sx, sy⟩, w6, k6⟩
  have h6 := h5.step w6 k6
  exact ⟨_, h6.hP, qd _ ⋯, _, rfl, rfl, _, ⟨x, y, b, sx, sy, rfl⟩, (h6.put ⟨n3, c0, c2, .turn n2 x y b⟩).up ⋯⟩
 rintro _ Z6 ⟨rfl, p3, hp3, h6⟩
 clear h5
 obtain ⟨q3, e3⟩ : ∃ q, q = q2 ++ [p3] := ⟨_, rfl⟩
 rw [<- e3] at h6
 have l3 : q3.length = 4 := by rw [e3, length_append, l2]; rfl
 -- what is behind the turn
 refine Lq.Gm (fun Y Z' => Y = [some (.ref l), some (.ref P), some (.ref N), some (.ref K), some (.int ((w : Nat) : Int)), some (fr f), some (fr s), none, none, none, none, none] /\ ∃ p, ZG n4 c2 "base" p /\ NS Z Z' l o (n + 190) N K P [.str n0, .str n1, .str n2, .str n3, .str n4, .str n5, .str n6, .str n7] [.str c0, .str c1, .str c2, .str c3] (q3 ++ [p])) ?_ ?_
 ·walk_at "mi"
  refine ⟨_, h6.hP, _, h6.hN, ?_⟩
  rw [atD_4, Aj]
  refine ⟨_, h6.hK, ?_⟩
  rw [Gy, Aj]
  refine ⟨⋯, Wp.go (Dz h6.pot ⋯) ?_⟩
  rintro _ Z7 ⟨⟨c, rfl, hc⟩, w7, k7⟩
  have h7 := h6.step w7 k7
  exact ⟨_, h7.hP, qd _ ⋯, _, rfl, rfl, _, ⟨c, hc, rfl⟩, (h7.put ⟨n4, c2, "base", c⟩).up ⋯⟩
 rintro _ Z7 ⟨rfl, p4, hp4, h7⟩
 clear h6
 obtain ⟨q4, e4⟩ : ∃ q, q = q3 ++ [p4] := ⟨_, rfl⟩
 rw [<- e4] at h7
 have l4 : q4.length = 5 := by rw [e4, length_append, l3]; rfl
 -- what else
 refine Lq.Gm (fun Y Z' => ∃ y7 y10 y11 q5, Y = [some (.ref l), some (.ref P), some (.ref N), some (.ref K), some (.int ((w : Nat) : Int)), some (fr f), some (fr s), y7, none, none, y10, y11] /\ NS Z Z' l o (n + 240) N K P [.str n0, .str n1, .str n2, .str n3, .str n4, .str n5, .str n6, .str n7] [.str c0, .str c1, .str c2, .str c3] (q4 ++ q5) /\ q5.length <= 3 /\ (w < 2 -> RestS ([n0, n1, n2, n3, n4, n5, n6, n7].getD · "") ([c0, c1, c2, c3].getD · "") s q5) /\ (2 <= w -> q5 = [])) ?_ ?_
 ·walk_at "mi"
  refine ⟨fun w2 => ?_, fun w2 => ⟨_, rfl, _, _, _, [], rfl, by rw [append_nil]; exact h7.up ⋯, ∅, fun z => absurd z ⋯, fun _ => rfl⟩⟩
  refine ⟨_, h7.hP, ?_⟩
  refine ⟨_, h7.hN, ?_⟩
  rw [atD_5, Aj]
  refine ⟨_, h7.hK, ?_⟩
  rw [Dy, Aj]
  refine ⟨_, h7.hK, ?_⟩
  rw [Ht, Aj]
  refine ⟨⋯, Wp.go (Dz h7.pot ⋯) ?_⟩
  rintro _ Z8 ⟨⟨c, rfl, hc⟩, w8, k8⟩
  have h8 := h7.step w8 k8
  have h9 := h8.put ⟨n5, c0, c3, c⟩
  refine ⟨_, h8.hP, qd _ ⋯, ?_⟩
  generalize Z8.set P (O.lst (q4.map Pa.d ++ [(Pa.mk n5 c0 c3 c).d])) = Z9 at h9 ⊢
  obtain ⟨q6, e6⟩ : ∃ q, q = q4 ++ [⟨n5, c0, c3, c⟩] := ⟨_, rfl⟩
  rw [<- e6] at h9
  have l6 : q6.length = 6 := by rw [e6, length_append, l4]; rfl
  refine ⟨_, h9.hK, ?_⟩
  rw [Ht, Aj]
  refine ⟨⋯, ?_⟩
  refine ⟨_, h9.hK, ?_⟩
  rw [Ht, Aj]
  refine ⟨⋯, ?_⟩
  refine ⟨_, h9.hK, ?_⟩
  rw [Ht, Aj]
  refine ⟨_, h9.hK, ?_⟩
  rw [Gy, Aj]
  refine ⟨⋯, ?_⟩
  refine ⟨_, h9.hK, ?_⟩
  rw [Gy, Aj]
  refine ⟨_, h9.hK, ?_⟩
  rw [Ht, Aj]
  refine ⟨⋯, ⋯, Wp.go (Ir h9.pot ⋯ (by show 0 < 4; omega) (by show 4 <= _; omega)) ?_⟩
  rintro en Z10 ⟨hen, w10, k10⟩
  have h10 := h9.step w10 k10
  obtain ⟨a, b, rfl, hab⟩ : ∃ a b : Str, en = .tup [.str a, .str b] /\ ((a = c3 /\ b = ("base" : Str)) \/ (a = ("base" : Str) /\ b = c3) \/ (a = c3 /\ b = c2) \/ (a = c2 /\ b = c3)) := by
   simp only [mem_cons, not_mem_nil, or_false] at hen
   rcases hen with rfl | rfl | rfl | rfl
   ·exact ⟨_, _, rfl, .inl ⟨rfl, rfl⟩⟩
   ·exact ⟨_, _, rfl, .inr (.inl ⟨rfl, rfl⟩)⟩
   ·exact ⟨_, _, rfl, .inr (.inr (.inl ⟨rfl, rfl⟩))⟩
   ·exact ⟨_, _, rfl, .inr (.inr (.inr ⟨rfl, rfl⟩))⟩
  obtain ⟨W, mk, ew, mw, mv, hmk⟩ : ∃ (W : Str) (mk : Rat -> Kd), atD [D.str (Str.ofString "keep"), D.str (Str.ofString "coil")] ((w : Nat) : Int) = M.ret (.str W) /\ (∀ c, (mk c).w = W) /\ (∀ c, (mk c).vals = [fr c, fr s]) /\ ((∀ c, mk c = .keep c s) \/ ∀ c, mk c = .coil c s) := by
   have hw2 : w = 0 \/ w = 1 := by omega
   rcases hw2 with rfl | rfl
   ·exact ⟨_, fun c => .keep c s, Cp rfl, fun _ => rfl, fun _ => rfl, .inl fun _ => rfl⟩
   ·exact ⟨_, fun c => .coil c s, Cp rfl, fun _ => rfl, fun _ => rfl, .inr fun _ => rfl⟩
  refine ⟨_, h10.hP, ⋯, ?_⟩
  have h11 := h10.step (h10.pot.gr (Gr0.app _ [O.lst [D.str (Str.ofString "keep"), D.str (Str.ofString "coil")]])) (Kp.gr (Gr0.app _ _))
  generalize Z10 ++ [O.lst [D.str (Str.ofString "keep"), D.str (Str.ofString "coil")]] = Z11 at h11 ⊢
  rw [ew, Aj]
  refine ⟨_, h11.hN, ?_⟩
  rw [ZC, Aj]
  refine Wp.go (CZ h11.pot ⋯) ?_
  rintro _ Z12 ⟨⟨c', rfl, hc'⟩, w12, k12⟩
  have h12 := h11.step w12 k12
  refine ⟨⋯, ⋯, _, h12.hP, qd _ ⋯, ?_⟩
  have ed : (Pa.mk n6 a b (mk c')).d = D.tup [.str W, .str n6, .tup [.str a, .str b], .tup [fr c', fr s]] := by
   show D.tup [.str (mk c').w, .str n6, .tup [.str a, .str b], .tup (mk c').vals] = _
   rw [mw, mv]
  have h13 := h12.put ⟨n6, a, b, mk c'⟩
  rw [<- ed]
  generalize Z12.set P (O.lst (q6.map Pa.d ++ [(Pa.mk n6 a b (mk c')).d])) = Z13 at h13 ⊢
  obtain ⟨q7, e7⟩ : ∃ q, q = q6 ++ [⟨n6, a, b, mk c'⟩] := ⟨_, rfl⟩
  rw [<- e7] at h13
  have l7 : q7.length = 7 := by rw [e7, length_append, l6]; rfl
  refine ⟨_, h13.hN, ?_⟩
  rw [Gy, Aj]
  refine ⟨⋯, ?_⟩
  refine ⟨_, h13.hN, ?_⟩
  rw [ZC, Aj]
  refine ⟨⋯, ?_⟩
  refine ⟨_, h13.hN, ?_⟩
  rw [ZC, Aj]
  refine ⟨⋯, ⋯, Wp.go (Ir h13.pot ⋯ (by show 0 < 3; omega) (by show 3 <= _; omega)) ?_⟩
  rintro wd Z14 ⟨hwd, w14, k14⟩
  have h14 := h13.step w14 k14
  obtain ⟨wn, wv, rfl, hwn, hwv⟩ : ∃ (wn : Str) (wv : Rat), wd = .tup [.str wn, fr wv] /\ (wn = n2 \/ wn = n6) /\ Sm 7 wv := by
   simp only [mem_cons, not_mem_nil, or_false] at hwd
   rcases hwd with rfl | rfl | rfl
   ·exact ⟨_, _, rfl, .inl rfl, hf.sm⟩
   ·exact ⟨_, _, rfl, .inr rfl, hs2.sm⟩
   ·exact ⟨_, _, rfl, .inr rfl, hs2.sm⟩
  refine ⟨_, rfl, rfl, _, _, rfl, ?_⟩
  dsimp only [set_cons_succ, set_cons_zero]
  walk_at "mi"
  refine ⟨_, h14.hP, ?_⟩
  refine ⟨_, h14.hN, ?_⟩
  rw [atD_7, Aj]
  refine ⟨_, h14.hK, ?_⟩
  rw [Dy, Aj]
  refine ⟨_, h14.hK, ?_⟩
  rw [Ht, Aj]
  refine ⟨⋯, Wp.go (Hj h14.pot ⋯ (hwv.up ⋯)) ?_⟩
  rintro _ Z15 ⟨⟨x, y, tb, rfl, sx, sy⟩, w15, k15⟩
  have h15 := h14.step w15 k15
  have hT : Rk n7 c0 c3 wn ⟨n7, c0, c3, .turn wn x y tb⟩ := ⟨x, y, tb, sx, sy, rfl⟩
  have h16 := h15.put ⟨n7, c0, c3, .turn wn x y tb⟩
  have eq7 : q7 ++ [⟨n7, c0, c3, .turn wn x y tb⟩] = q4 ++ [⟨n5, c0, c3, c⟩, ⟨n6, a, b, mk c'⟩, ⟨n7, c0, c3, .turn wn x y tb⟩] := by
   rw [e7, e6]
   simp
  rw [eq7] at h16
  refine ⟨_, h15.hP, qd _ ⋯, _, rfl, _, _, _, [⟨n5, c0, c3, c⟩, ⟨n6, a, b, mk c'⟩, ⟨n7, c0, c3, .turn wn x y tb⟩], rfl, h16.up ⋯, by show 3 <= 3; omega, fun _ => .inl ⟨_, _, _, ⟨c, hc, rfl⟩, ⟨c', a, b, hc', hab, ?_⟩, ?_, rfl⟩, fun z => absurd z ⋯⟩
  ·rcases hmk with hmk | hmk
   ·exact .inl (by rw [hmk]; rfl)
   ·exact .inr (by rw [hmk]; rfl)
  ·rcases hwn with rfl | rfl
   ·exact .inl hT
   ·exact .inr hT
 rintro _ Z8 ⟨y7, y10, y11, q5, rfl, h8, l5, c1', c2'⟩
 clear h7
 -- or a turn, or a switch
 refine Lq.Gm (fun Y Z' => ∃ y8 q5, Y = [some (.ref l), some (.ref P), some (.ref N), some (.ref K), some (.int ((w : Nat) : Int)), some (fr f), some (fr s), y7, y8, none, y10, y11] /\ NS Z Z' l o (n + 280) N K P [.str n0, .str n1, .str n2, .str n3, .str n4, .str n5, .str n6, .str n7] [.str c0, .str c1, .str c2, .str c3] (q4 ++ q5) /\ q5.length <= 3 /\ RestS ([n0, n1, n2, n3, n4, n5, n6, n7].getD · "") ([c0, c1, c2, c3].getD · "") s q5) ?_ ?_
 ·walk_at "mi"
  refine ⟨fun w2 => ?_, fun w2 => ⟨_, rfl, _, q5, rfl, h8.up ⋯, l5, c1' ⋯⟩⟩
  have e5 := c2' ⋯
  subst e5
  rw [append_nil] at h8
  refine ⟨_, h8.hN, ?_⟩
  rw [atD_5, Aj]
  refine ⟨_, h8.hK, ?_⟩
  rw [Dy, Aj]
  refine ⟨_, h8.hK, ?_⟩
  rw [Ht, Aj]
  refine ⟨⋯, Wp.go (Bs h8.pot ⋯ ⋯ ⋯) ?_⟩
  rintro _ Z9 ⟨⟨e, rfl, he⟩, w9, k9⟩
  have h9 := h8.step w9 k9
  walk_at "mi"
  refine ⟨⋯, ⋯, _, h9.hP, fun w3 => ?_, fun w3 => ?_⟩
  ·refine ⟨_, h9.hN, ?_⟩
   rw [atD_5, Aj]
   refine ⟨_, h9.hK, ?_⟩
   rw [Dy, Aj]
   refine ⟨_, h9.hK, ?_⟩
   rw [Ht, Aj]
   refine ⟨⋯, ?_⟩
   refine ⟨_, h9.hN, ?_⟩
   rw [Gy, Aj]
   refine Wp.go (Hj h9.pot ⋯ (hf.sm.up ⋯)) ?_
   rintro _ Z11 ⟨⟨x, y, tb, rfl, sx, sy⟩, w11, k11⟩
   have h11 := h9.step w11 k11
   have hp : Rk n5 c0 c3 n2 ⟨n5, c0, c3, .turn n2 x y tb⟩ \/ ∃ b, Pa.mk n5 c0 c3 (.turn n2 x y tb) = ⟨n5, c0, c3, .switch b⟩ := .inl ⟨x, y, tb, sx, sy, rfl⟩
   have h12 := h11.put ⟨n5, c0, c3, .turn n2 x y tb⟩
   refine ⟨_, h11.hP, qd _ ⋯, ?_⟩
   refine ⟨_, h12.hP, ?_⟩
   refine ⟨_, h12.hN, ?_⟩
   rw [ZC, Aj]
   refine ⟨_, h12.hK, ?_⟩
   rw [Ht, Aj]
   refine ⟨⋯, Wp.go (Dz h12.pot ⋯) ?_⟩
   rintro _ Z13 ⟨⟨c, rfl, hc⟩, w13, k13⟩
   have h13 := h12.step w13 k13
   have h14 := h13.put ⟨n6, c3, "base", c⟩
   rw [append_assoc] at h14
   exact ⟨_, h13.hP, qd _ (by rw [length_append, l4]; show 5 + 1 <= _; omega), _, rfl, _, _, rfl, h14.up ⋯, by show 2 <= 3; omega, .inr ⟨_, _, hp, ⟨c, hc, rfl⟩, rfl⟩⟩
  ·have hp : Rk n5 c0 c3 n2 ⟨n5, c0, c3, .switch (decide ((e : Int) = 0))⟩ \/ ∃ b, Pa.mk n5 c0 c3 (.switch (decide ((e : Int) = 0))) = ⟨n5, c0, c3, .switch b⟩ := .inr ⟨_, rfl⟩
   have h12 := h9.put ⟨n5, c0, c3, .switch (decide ((e : Int) = 0))⟩
   refine ⟨_, h9.hP, qd _ ⋯, ?_⟩
   refine ⟨_, h12.hP, ?_⟩
   refine ⟨_, h12.hN, ?_⟩
   rw [ZC, Aj]
   refine ⟨_, h12.hK, ?_⟩
   rw [Ht, Aj]
   refine ⟨⋯, Wp.go (Dz h12.pot ⋯) ?_⟩
   rintro _ Z13 ⟨⟨c, rfl, hc⟩, w13, k13⟩
   have h13 := h12.step w13 k13
   have h14 := h13.put ⟨n6, c3, "base", c⟩
   rw [append_assoc] at h14
   exact ⟨_, h13.hP, qd _ (by rw [length_append, l4]; show 5 + 1 <= _; omega), _, rfl, _, _, rfl, h14.up ⋯, by show 2 <= 3; omega, .inr ⟨_, _, hp, ⟨c, hc, rfl⟩, rfl⟩⟩
 rintro _ Z9 ⟨y8, q5, rfl, h9, l5, hq5⟩
 clear h8 c1' c2'
 -- told in any order
 have l9 : (q4 ++ q5).length <= 8 := by rw [length_append]; omega
 have shp : Shp ([n0, n1, n2, n3, n4, n5, n6, n7].getD · "") ([c0, c1, c2, c3].getD · "") (q4 ++ q5) := ⟨q1, p2, p3, p4, q5, f, s, hq1, hf, hs2, hp2, hp3, hp4, hq5, by rw [e4, e3, e2]; simp⟩
 generalize q4 ++ q5 = qs at h9 l9 shp
 walk_at "mi"
 refine ⟨_, h9.hP, by unfold ok62; rw [length_map]; omega, ?_⟩
 rw [show (((qs.map Pa.d).length : Nat) : Int).toNat = qs.length by rw [length_map]; omega]
 have lt9 := h9.pot.lt
 have lP := (XqB h9.hP).1
 have b9 := h9.kp.1
 have bP3 := h9.b.2.2
 refine V5 qs.length (fun i acc Z' => ∃ done rest, acc = done.map Pa.d /\ done.length = i /\ (done ++ rest).Perm qs /\ Z'[P]? = some (.lst (rest.map Pa.d)) /\ Pot Z' l o (n + 280 + i) /\ Kp [l, o] Z Z' /\ Z'[Z9.length]? = some (.lst acc)) XqG ⟨[], qs, rfl, rfl, .refl _, (Gr0.app _ _).at_ _ _ h9.hP, h9.pot.gr (Gr0.app _ _), h9.kp.trans (Kp.gr (Gr0.app _ _)), Ax⟩ ?_ ?_
 ·rintro i _ Z' hi ⟨done, rest, rfl, dl, pm, hP, w10, k10, a10⟩
  refine ⟨.int ((0 : Int) + (i : Int)), by show (if i < qs.length then some (some (D.int ((0 : Int) + (i : Int)))) else some none) = _; rw [if_pos hi], _, _, rfl, ?_⟩
  rw [Mv, Aj, if_pos rfl]
  walk_at "d"
  have lr : i + rest.length = qs.length := by
   have := pm.length_eq
   rw [length_append, dl] at this
   omega
  walk_at "mi"
  refine ⟨_, hP, _, hP, ?_⟩
  rw [length_map]
  refine Wp.go (Bs w10 ⋯ ⋯ ⋯) ?_
  rintro _ Z11 ⟨⟨j, rfl, hj⟩, w11, k11⟩
  have hP11 := Ds k11 (i := P) ⋯ hP
  have a11 := Ds k11 (i := Z9.length) ⋯ a10
  have hj' : j < rest.length := by omega
  have ey : rest[j]? = some rest[j] := getElem?_eq_getElem hj'
  generalize rest[j] = p at ey
  rw [Qh hP11 (y := p.d) (by rw [getElem?_map, ey]; rfl) ⋯, erasM]
  have nX : P ≠ Z9.length := by omega
  have a12 : (Z11.set P (O.lst ((rest.eraseIdx j).map Pa.d)))[Z9.length]? = some (.lst (done.map Pa.d)) := by rw [getElem?_set_ne nX]; exact a11
  have hP12 : (Z11.set P (O.lst ((rest.eraseIdx j).map Pa.d)))[P]? = some (.lst ((rest.eraseIdx j).map Pa.d)) := Ce hP11
  refine ⟨_, a12, by rw [length_map]; omega, done ++ [p], rest.eraseIdx j, by rw [map_append]; rfl, by rw [length_append]; show _ + 1 = _; omega, ?_, by rw [getElem?_set_ne (Ne.symm nX)]; exact hP12, (((w11.set ⋯ ⋯).set ⋯ ⋯)).up ⋯, Ka (Ka (k10.trans k11) bP3) b9, Ce a12⟩
  have q : (done ++ [p] ++ rest.eraseIdx j) = done ++ (p :: rest.eraseIdx j) := by simp
  rw [q]
  exact ((erasP ey).append_left done).symm.trans pm
 ·rintro _ Z' ⟨done, rest, rfl, dl, pm, hP, w10, k10, a10⟩
  refine ⟨by show (if qs.length < qs.length then some (some (D.int ((0 : Int) + (qs.length : Int)))) else some none) = _; rw [if_neg ⋯], ?_⟩
  have r0 : rest = [] := by
   have := pm.length_eq
   rw [length_append, dl] at this
   exact eq_nil_of_length_eq_zero ⋯
  subst r0
  rw [append_nil] at pm
  rw [Hz, Cq, DG a10, Aj]
  exact ⟨⟨done, _, _, qs, rfl, pm, rfl, rfl, okn, okk, shp⟩, w10.up ⋯, k10⟩
end
end Tn
namespace Tn
open PySem L2 PyProof.Rows Mi Std Rn Rg Gq
open Lq (Kp)
theorem JP {g : CG} {f : Mi.Env -> M Bool} {e : Mi.Env -> M D} {Y : Mi.Env} {Z : List O} {P : D -> List O -> Prop} {E : Ex -> List O -> Prop} {w : Wk} {a : Type} (ds : List a) (c : a -> D) (p : a -> Bool) (φ : a -> D) (hz : ds.length <= 1000000) (hf : ds.length <= w.fuel) (src : ∀ i Z', Gr0 Z Z' -> w.get i Z' = some (ds[i]?.map c))
  (step : ∀ d ∈ ds, ∀ Z', Gr0 Z Z' -> ∃ Y1, g.run (c d) Y Z' = some (Y1, Z') /\ Wp (f Y1) Z' (fun b Z2 => b = p d /\ Gr0 Z' Z2) (fun _ _ => False) /\ (p d = true -> ∀ Z2, Gr0 Z Z2 -> Wp (e Y1) Z2 (fun y Z3 => y = φ d /\ Gr0 Z2 Z3) (fun _ _ => False)))
  (q : ∀ Z3, Gr0 Z Z3 -> Z3[Z.length]? = some (.lst ((ds.filter p).map φ)) -> P (.ref Z.length) Z3) : Wp (lcM w g f e Y) Z P E := by
 have hs := sizeLine_eq
 refine V5 ds.length (fun i acc Z' => i <= ds.length /\ acc = ((ds.take i).filter p).map φ /\ Gr0 Z Z' /\ Z'[Z.length]? = some (.lst acc)) hf ⟨Nat.zero_le _, by simp, Gr0.app _ _, Ax⟩ ?_ ?_
 ·rintro i acc Z' hi ⟨_, rfl, g1, a1⟩
  obtain ⟨Y1, s1, s2, s3⟩ := step ds[i] (getElem_mem hi) Z' g1
  have et : ds.take (i + 1) = ds.take i ++ [ds[i]] := by rw [take_succ, getElem?_eq_getElem hi]; rfl
  refine ⟨c ds[i], (by rw [src _ _ g1, getElem?_eq_getElem hi]; rfl), Y1, _, s1, s2.mono ?_ fun _ _ z => z⟩
  rintro b Z2 ⟨rfl, g2⟩
  have a2 := g2.at_ _ _ a1
  have g12 := g1.trans g2
  by_cases hp : p ds[i] = true
  ·rw [if_pos hp]
   refine (s3 hp Z2 g12).mono ?_ fun _ _ z => z
   rintro y Z3 ⟨rfl, g3⟩
   have a3 := g3.at_ _ _ a2
   have lt : ((ds.take i).filter p).length <= ds.length := Nat.le_trans (length_filter_le _ _) (by rw [length_take]; omega)
   refine ⟨_, a3, by rw [length_map]; omega, hi, ?_, ?_, Ce a3⟩
   ·rw [et, filter_append, List.filter_cons_of_pos hp, map_append]; rfl
   ·exact Gr.off (((g12.trans g3).gr (l := Z.length)).trans (Gr.set _ _ _)) XqG
  ·rw [if_neg hp]
   refine ⟨_, hi, ?_, g12, a2⟩
   rw [et, filter_append, List.filter_cons_of_neg hp, List.filter_nil, append_nil]
 ·rintro acc Z' ⟨_, rfl, g1, a1⟩
  refine ⟨by rw [src _ _ g1, getElem?_eq_none XqG]; rfl, q Z' g1 (by rw [take_length] at a1; exact a1)⟩
theorem inP2 (k x y : Str) (P : D -> List O -> Prop) (E : Ex -> List O -> Prop) (Z : List O) : Wp (inD false (.str k) (.tup [.str x, .str y])) Z P E ↔ P (.bl (decide (k ∈ [x, y]))) Z := by
 show Wp (Zo false (.str k) ([x, y].map .str)) Z P E ↔ _
 rw [Ho, Aj]
 rfl
def isKp (k : Kd) : Bool := match k with
 | .keep _ _ => true
 | .coil _ _ => true
 | _ => false
def valK (k : Kd) : Rat := match k with
 | .keep _ v => v
 | .coil _ v => v
 | _ => 0
theorem isKp_w {k : Kd} : decide (k.w ∈ [("keep" : Str), "coil"]) = isKp k := by cases k <;> rfl
def Gj (ps : List Pa) : List (Str × Rat) := (ps.filter fun p => isKp p.k).map fun p => (p.nm, valK p.k)
def Bx (ps : List Pa) : List (Str × Rat) := Rv (Gj ps)
theorem Ue {ps : List Pa} (nd : (ps.map (·.nm)).Nodup) : ((Gj ps).map (·.1)).Nodup := by
 have e : (Gj ps).map (·.1) = (ps.filter fun p => isKp p.k).map (·.nm) := by
  unfold Gj
  rw [map_map]
  rfl
 rw [e]
 exact (List.filter_sublist.map _).nodup nd
theorem kept_len {ps : List Pa} : (Gj ps).length <= ps.length := by
 unfold Gj
 rw [length_map]
 exact length_filter_le _ _
section
variable {Z : List O} {E : Ex -> List O -> Prop}
theorem VG {ps : List Pa} (nd : (ps.map (·.nm)).Nodup) (ln : ps.length <= 100) : Wp (G9 [.tup (ps.map Pa.d)]) Z (fun r Z' => r = .tpl (Gq.prD (Bx ps)) /\ Gr0 Z Z') E := by
 unfold G9 c_l_start
 have hs := sizeLine_eq
 walk_at "mi"
 refine JP ps Pa.d (fun p => isKp p.k) (fun p => .tup [.str p.nm, fr (valK p.k)]) ⋯ (by show _ <= (List.map _ ps).length; rw [length_map]; exact XqG) (fun i Z' _ => by rw [M7, getElem?_map]) ?_ ?_
 ·intro p hp Z' g
  refine ⟨_, rfl, ?_, fun hk Z2 _ => ?_⟩
  ·walk_at "d"
   walk_at "mi"
   refine ⟨⋯, ?_⟩
   rw [inP2]
   walk_at "mi"
   exact ⟨isKp_w, Gr0.refl _⟩
  ·walk_at "d"
   have two : ∀ c v : Rat, p.k.vals = [fr c, fr v] -> valK p.k = v -> Wp ((Bg (Aa (Ae 2) (Aa (cIx (Ae 4) (cInt 1)) aNil))).run [some (D.tup (ps.map Pa.d)), some (D.str p.k.w), some (D.str p.nm), some (D.tup [D.str p.a, D.str p.b]), some (D.tup p.k.vals)]) Z2 (fun y Z3 => y = D.tup [D.str p.nm, fr (valK p.k)] /\ Gr0 Z2 Z3) (fun _ _ => False) := fun c v e1 e2 => by
    rw [e1, e2]
    walk_at "mi"
    exact ⟨⋯, Gr0.refl _⟩
   cases hk2 : p.k with
   | keep c v => rw [<- hk2]; exact two c v (by rw [hk2]; rfl) (by rw [hk2]; rfl)
   | coil c v => rw [<- hk2]; exact two c v (by rw [hk2]; rfl) (by rw [hk2]; rfl)
   | _ => rw [hk2] at hk; exact absurd (show false = true from hk) ∅
 intro Z1 g1 h1
 have h1' : Z1[Z.length]? = some (.lst ((Gj ps).map fun q => D.tup [.str q.1, fr q.2])) := by
  unfold Gj
  rw [map_map]
  exact h1
 have ndk := Ue nd
 rw [Kl h1' (Yr _) (Kw (c := Std.pF) _ (fun _ _ _ _ => V4 _ _) (fun _ _ => by unfold Std.pF; simp [PyData.depth, PyData.depthAll]))]
 rw [FZ ndk (fun q => D.tup [.str q.1, fr q.2]) Std.pF (fun _ _ _ _ => V4 _ _) (fun _ _ => eqv_pF _)]
 rw [o_tplL, Cq, DG (by rw [Ax]; rfl), Aj]
 exact ⟨rfl, g1.trans (Gr0.app _ _)⟩
def KH (v x y : Rat) (c : Bool) : Bool := !decide (v < y) || (c && decide (x < v))
theorem T6 {nm w : Str} {ks : D} {x y v : Rat} {c : Bool} {A : Nat} {qs : List (Str × Rat)} (nd : (qs.map (·.1)).Nodup) (hv : (w, v) ∈ qs) (sx : Sm A x) (sy : Sm A y) (sv : Sm A v) (h0 : 0 < A) (hA : A <= 400000) : Wp (Hl [.tup [.str "turn", .str nm, ks, .tup [.str w, fr x, fr y, .bl c]], .tpl (Gq.prD qs)]) Z (fun r Z' => r = .bl (KH v x y c) /\ Gr0 Z Z') E := by
 unfold Hl c_l_wishes
 have hs := sizeLine_eq
 walk_at "mi"
 rw [Uw (RQ _), Sw nd, XS (by rw [Ax]; rfl) (kvF_at nd hv)]
 have g := Gr0.app Z [O.dct (kvF qs)]
 generalize Z ++ [O.dct (kvF qs)] = Z1 at g ⊢
 refine Wp.go (JT sv sy h0 hA) ?_
 rintro _ _ ⟨rfl, rfl⟩
 rw [Q8, Aj]
 unfold KH
 by_cases h1 : v < y
 ·rw [decide_eq_true h1]
  refine ⟨fun z => absurd (show false = true from z) ∅, fun _ => ⟨fun hc => ?_, fun hc => ?_⟩⟩
  ·refine (JT sx sv h0 hA).mono ?_ fun _ _ z => z
   rintro _ _ ⟨rfl, rfl⟩
   rw [hc]
   exact ⟨rfl, g⟩
  ·rw [Bool.not_eq_true] at hc
   rw [hc]
   exact ⟨rfl, g⟩
 ·rw [decide_eq_false h1]
  exact ⟨fun _ => ⟨rfl, g⟩, fun z => absurd rfl z⟩
def Ky (k : Kd) : Bool := match k with
 | .turn _ _ _ _ => true
 | _ => false
theorem isTn_w {k : Kd} : decide (k.w = ("turn" : Str)) = Ky k := by cases k <;> rfl
def agB (qs : List (Str × Rat)) (p : Pa) : Bool := match p.k with
 | .turn w x y c => (match qs.find? (fun q => decide (q.1 = w)) with
  | some q => KH q.2 x y c != c
  | none => false)
 | _ => false
def TnOk (qs : List (Str × Rat)) (p : Pa) : Prop := ∀ w x y c, p.k = .turn w x y c -> Sm 60 x /\ Sm 60 y /\ ∃ v, (w, v) ∈ qs /\ Sm 60 v
theorem find_q {qs : List (Str × Rat)} (nd : (qs.map (·.1)).Nodup) {w : Str} {v : Rat} (h : (w, v) ∈ qs) : qs.find? (fun q => decide (q.1 = w)) = some (w, v) := by
 induction qs with
 | nil => cases h
 | cons q r ih =>
  rw [map_cons, nodup_cons] at nd
  rw [find?_cons]
  rcases mem_cons.mp h with rfl | h
  ·simp
  ·have : ¬ q.1 = w := fun e => nd.1 (by rw [e]; exact mem_map_of_mem (f := (·.1)) h)
   rw [decide_eq_false this]
   exact ih nd.2 h
def CN (qs : List (Str × Rat)) (ps : List Pa) : List Str := (ps.filter (agB qs)).map (·.nm)
theorem RG {ps : List Pa} {qs : List (Str × Rat)} (nd : (qs.map (·.1)).Nodup) (ln : ps.length <= 100) (ok : ∀ p ∈ ps, TnOk qs p) : Wp (Ey [.tup (ps.map Pa.d), .tpl (Gq.prD qs)]) Z (fun r Z' => (∃ l, r = .ref l /\ Z'[l]? = some (.lst ((CN qs ps).map .str))) /\ Gr0 Z Z') E := by
 unfold Ey c_l_against
 have hs := sizeLine_eq
 walk_at "mi"
 refine JP ps Pa.d (fun p => Ky p.k) Pa.d ⋯ (by show _ <= (List.map _ ps).length; rw [length_map]; exact XqG) (fun i Z' _ => by rw [M7, getElem?_map]) ?_ ?_
 ·intro p hp Z' g
  refine ⟨_, rfl, ?_, fun hk Z2 _ => ?_⟩
  ·walk_at "d"
   unfold Pa.d
   walk_at "mi"
   exact ⟨isTn_w, Gr0.refl _⟩
  ·walk_at "d"
   walk_at "mi"
   exact Gr0.refl _
 intro Z1 g1 h1
 try walk_at "mi"
 refine ⟨_, h1, ?_⟩
 have lf : (ps.filter fun p => Ky p.k).length <= ps.length := length_filter_le _ _
 refine JP (ps.filter fun p => Ky p.k) Pa.d (agB qs) (fun p => .str p.nm) ⋯ (by show _ <= (List.map _ _).length; rw [length_map]; exact XqG) (fun i Z' g => by rw [Lq.KD (g.at_ _ _ h1), getElem?_map]) ?_ ?_
 ·intro p hp Z' g
  obtain ⟨hp1, hp2⟩ := mem_filter.mp hp
  refine ⟨_, rfl, ?_, fun hk Z2 _ => ?_⟩
  ·walk_at "d"
   have okp := ok p hp1
   obtain ⟨nm, a, b, k⟩ := p
   cases k with
   | turn w x y c =>
    obtain ⟨sx, sy, v, hv, sv⟩ := okp w x y c rfl
    rw [show (Pa.mk nm a b (.turn w x y c)).d = D.tup [.str "turn", .str nm, .tup [.str a, .str b], .tup [.str w, fr x, fr y, .bl c]] from rfl]
    walk_at "mi"
    refine Wp.go (T6 nd hv sx sy sv ⋯ ⋯) ?_
    rintro _ Z3 ⟨rfl, g3⟩
    walk_at "mi"
    refine ⟨?_, g3⟩
    unfold agB
    dsimp only
    rw [find_q nd hv]
    show (!decide (KH v x y c = c)) = (KH v x y c != c)
    cases KH v x y c <;> cases c <;> rfl
   | _ => exact absurd (show false = true from hp2) ∅
  ·walk_at "d"
   unfold Pa.d
   walk_at "mi"
   exact Gr0.refl _
 intro Z3 g3 h3
 refine ⟨⟨_, rfl, ?_⟩, g1.trans g3⟩
 rw [h3, List.filter_filter]
 unfold CN
 rw [map_map]
 congr 3
 refine List.filter_congr fun p _ => ?_
 unfold agB Ky
 cases p.k <;> simp
def flipK (k : Kd) : Kd := match k with
 | .turn w x y c => .turn w x y (!c)
 | k => k
def BW (names : List Str) (p : Pa) : Pa := if p.nm ∈ names then ⟨p.nm, p.a, p.b, flipK p.k⟩ else p
theorem T9 {names : List Str} {p : Pa} : (BW names p).nm = p.nm := by unfold BW; split <;> rfl
def onK (k : Kd) : Bool := match k with
 | .turn _ _ _ c => c
 | _ => false
def M6 (names : List Str) (ps : List Pa) : List (Str × Bool) := Rv ((ps.filter fun p => decide (p.nm ∈ names)).map fun p => (p.nm, onK p.k))
def bPr (qs : List (Str × Bool)) : List D := qs.map fun q => .tup [.str q.1, .bl q.2]
theorem Ys {Z : List O} (qs : List (Str × Bool)) : Fb (see Z 62) (qs.map fun q => D.tup [.str q.1, .bl q.2]) = some (qs.map fun q => .tuple [.str q.1, .bool q.2]) := by
 induction qs with
 | nil => rfl
 | cons q r ih =>
  show (match see Z 62 (.tup [.str q.1, .bl q.2]), Fb (see Z 62) (r.map fun q => .tup [.str q.1, .bl q.2]) with | some a, some b => some (a :: b) | _, _ => none) = _
  rw [ih]
  rfl
theorem RD {ps : List Pa} {names : List Str} {l : Nat} (hl : Z[l]? = some (.lst (names.map .str))) (ln : ps.length <= 100) (on : ∀ p ∈ ps, p.nm ∈ names -> Ky p.k = true) : Wp (DR [.tup (ps.map Pa.d), .ref l]) Z (fun r Z' => r = .tup ((ps.map (BW names)).map Pa.d) /\ Gr0 Z Z') E := by
 unfold DR c_l_over_all
 have hs := sizeLine_eq
 walk_at "mi"
 refine ⟨Nat.zero_le _, ?_⟩
 have a0 : (Z ++ [O.lst []])[Z.length]? = some (.lst (((ps.take 0).map (BW names)).map Pa.d)) := by rw [Ax]; rfl
 have g0 := Gr0.app Z [O.lst []]
 generalize Z ++ [O.lst []] = Z1 at a0 g0 ⊢
 refine Tp ps.length (fun i => (ps.getD i ⟨"", "", "", .switch true⟩).d) (fun i Y Z' => i <= ps.length /\ (∃ x3 x4 x5 x6, Y = [some (.tup (ps.map Pa.d)), some (.ref l), some (.ref Z.length), x3, x4, x5, x6]) /\ Gr0 Z Z' /\ Z'[Z.length]? = some (.lst (((ps.take i).map (BW names)).map Pa.d))) ?_ ?_ (by first | exact XqG | (show _ <= (List.map _ _).length; rw [length_map]; exact XqG)) ⟨Nat.zero_le _, ⟨_, _, _, _, rfl⟩, g0, a0⟩ ?_ ?_
 ·rintro i Y Z' hi _
  rw [M7, getElem?_map, getD_eq_getElem?_getD, getElem?_eq_getElem hi]
  rfl
 ·rintro Y Z' _
  rw [M7, getElem?_eq_none (by simp)]
 ·rintro i Y Z' hi ⟨_, ⟨x3, x4, x5, x6, rfl⟩, gg, aa⟩
  have ep : ps[i]? = some (ps.getD i ⟨"", "", "", .switch true⟩) := by rw [getD_eq_getElem?_getD, getElem?_eq_getElem hi]; rfl
  generalize ps.getD i ⟨"", "", "", .switch true⟩ = p at ep ⊢
  have hp := mem_of_getElem? ep
  have onp := on p hp
  have tk : ((ps.take (i + 1)).map (BW names)).map Pa.d = ((ps.take i).map (BW names)).map Pa.d ++ [(BW names p).d] := by
   rw [take_succ, ep, map_append, map_append]
   rfl
  have lnn : (((ps.take i).map (BW names)).map Pa.d).length < sizeLine := by rw [length_map, length_map, length_take]; omega
  refine ⟨_, _, rfl, ?_⟩
  dsimp only [set_cons_succ, set_cons_zero]
  have fin : ∀ d : D, d = (BW names p).d -> i + 1 <= ps.length /\ Gr0 Z (Z'.set Z.length (.lst (((ps.take i).map (BW names)).map Pa.d ++ [d]))) /\ (Z'.set Z.length (.lst (((ps.take i).map (BW names)).map Pa.d ++ [d])))[Z.length]? = some (.lst (((ps.take (i + 1)).map (BW names)).map Pa.d)) := fun d hd => by
   rw [hd, <- tk]
   exact ⟨hi, grSet gg XqG, Ce aa⟩
  have hl' := gg.at_ _ _ hl
  walk_at "mi"
  refine ⟨_, aa, ?_⟩
  rw [Ro hl', Ho, Aj]
  walk_at "mi"
  refine ⟨fun hm => ?_, fun hm => ?_⟩
  ·have tn := onp hm
   obtain ⟨nm, a, b, k⟩ := p
   cases k with
   | turn w x y c =>
    have f := fin (.tup [.str "turn", .str nm, .tup [.str a, .str b], .tup ([.str w, fr x, fr y] ++ [.bl !c])]) (by unfold BW; rw [if_pos hm]; rfl)
    rw [show (Pa.mk nm a b (.turn w x y c)).k.vals = [.str w, fr x, fr y, .bl c] from rfl, Ht, Aj, Q8, Aj]
    rw [show Mi.cutD [D.str w, fr x, fr y, .bl c] none (some 3) = [.str w, fr x, fr y] from rfl]
    exact ⟨⋯, by show 3 + 1 <= _; omega, ⋯, _, aa, lnn, f.1, ⟨_, _, _, _, rfl⟩, f.2.1, f.2.2⟩
   | _ => exact absurd (show false = true from tn) ∅
  ·have f := fin (.tup [.str p.k.w, .str p.nm, .tup [.str p.a, .str p.b], .tup p.k.vals]) (by unfold BW; rw [if_neg hm]; rfl)
   exact ⟨⋯, _, aa, lnn, f.1, ⟨_, _, _, _, rfl⟩, f.2.1, f.2.2⟩
 ·rintro Y Z' ⟨_, ⟨x3, x4, x5, x6, rfl⟩, gg, aa⟩
  rw [take_length] at aa
  walk_at "mi"
  refine ⟨_, aa, ?_⟩
  exact ⟨rfl, gg⟩
theorem Yy {ps : List Pa} {names : List Str} {l : Nat} (hl : Z[l]? = some (.lst (names.map .str))) (ln : ps.length <= 100) (nd : (ps.map (·.nm)).Nodup) (on : ∀ p ∈ ps, p.nm ∈ names -> Ky p.k = true) : Wp (IK [.tup (ps.map Pa.d), .ref l]) Z (fun r Z' => r = .tup (bPr (M6 names ps)) /\ Gr0 Z Z') E := by
 unfold IK c_l_told
 have hs := sizeLine_eq
 walk_at "mi"
 refine JP ps Pa.d (fun p => decide (p.nm ∈ names)) (fun p => .tup [.str p.nm, .bl (onK p.k)]) ⋯ (by show _ <= (List.map _ ps).length; rw [length_map]; exact XqG) (fun i Z' _ => by rw [M7, getElem?_map]) ?_ ?_
 ·intro p hp Z' g
  refine ⟨_, rfl, ?_, fun hk Z2 _ => ?_⟩
  ·walk_at "d"
   walk_at "mi"
   rw [Ro (g.at_ _ _ hl), Ho, Aj]
   walk_at "mi"
   exact Gr0.refl _
  ·walk_at "d"
   have tn := on p hp (of_decide_eq_true hk)
   obtain ⟨nm, a, b, k⟩ := p
   cases k with
   | turn w x y c =>
    unfold Kd.vals
    walk_at "mi"
    exact ⟨⋯, rfl, Gr0.refl _⟩
   | _ => exact absurd (show false = true from tn) ∅
 intro Z1 g1 h1
 have h1' : Z1[Z.length]? = some (.lst (((ps.filter fun p => decide (p.nm ∈ names)).map fun p => (p.nm, onK p.k)).map fun q => D.tup [.str q.1, .bl q.2])) := by
  rw [map_map]
  exact h1
 have ndk : (((ps.filter fun p => decide (p.nm ∈ names)).map fun p => (p.nm, onK p.k)).map (·.1)).Nodup := by
  rw [map_map]
  exact (List.filter_sublist.map _).nodup nd
 have al : ∀ a b : Bool, W.alike (.bool a) (.bool b) = true := fun a b => by simp [W.alike]
 rw [Kl h1' (Ys _) (Kw (c := fun b => .bool b) _ (fun _ _ _ _ => al _ _) (fun _ _ => by simp [PyData.depth]))]
 rw [FZ ndk (fun q => D.tup [.str q.1, .bl q.2]) (fun b => .bool b) (fun _ _ _ _ => al _ _) (fun _ _ => by simp [PyData.eqv])]
 rw [Hz, Cq, DG (by rw [Ax]; rfl), Aj]
 exact ⟨rfl, g1.trans (Gr0.app _ _)⟩
end
end Tn
namespace Tn
open PySem L2 PyProof.Rows Mi Std Rn Rg Gq
open Lq (Kp)
section
variable {Z : List O} {E : Ex -> List O -> Prop}
theorem Yw {ps : List Pa} (nd : (ps.map (·.nm)).Nodup) (ln : ps.length <= 100) : Wp (QD [.tup (ps.map Pa.d)]) Z (fun r Z' => r = .tpl (Gq.prD (Bx ps)) /\ Gr0 Z Z') E := by
 unfold QD c_start k_KEEP k_COIL
 have hs := sizeLine_eq
 walk_at "mi"
 refine JP ps Pa.d (fun p => isKp p.k) (fun p => .tup [.str p.nm, fr (valK p.k)]) ⋯ (by show _ <= (List.map _ ps).length; rw [length_map]; exact XqG) (fun i Z' _ => by rw [M7, getElem?_map]) ?_ ?_
 ·intro p hp Z' g
  refine ⟨_, rfl, ?_, fun hk Z2 _ => ?_⟩
  ·walk_at "d"
   unfold Pa.d
   walk_at "mi"
   refine ⟨⋯, ?_⟩
   rw [inP2]
   walk_at "mi"
   exact ⟨isKp_w, Gr0.refl _⟩
  ·walk_at "d"
   obtain ⟨nm, a, b, k⟩ := p
   cases k with
   | keep c v =>
    rw [show (Pa.mk nm a b (.keep c v)).d = D.tup [.str "keep", .str nm, .tup [.str a, .str b], .tup [fr c, fr v]] from rfl]
    walk_at "mi"
    exact ⟨⋯, rfl, Gr0.refl _⟩
   | coil c v =>
    rw [show (Pa.mk nm a b (.coil c v)).d = D.tup [.str "coil", .str nm, .tup [.str a, .str b], .tup [fr c, fr v]] from rfl]
    walk_at "mi"
    exact ⟨⋯, rfl, Gr0.refl _⟩
   | _ => exact absurd (show false = true from hk) ∅
 intro Z1 g1 h1
 have h1' : Z1[Z.length]? = some (.lst ((Gj ps).map fun q => D.tup [.str q.1, fr q.2])) := by
  unfold Gj
  rw [map_map]
  exact h1
 have ndk := Ue nd
 rw [Kl h1' (Yr _) (Kw (c := Std.pF) _ (fun _ _ _ _ => V4 _ _) (fun _ _ => by unfold Std.pF; simp [PyData.depth, PyData.depthAll]))]
 rw [FZ ndk (fun q => D.tup [.str q.1, fr q.2]) Std.pF (fun _ _ _ _ => V4 _ _) (fun _ _ => eqv_pF _)]
 rw [o_tplL, Cq, DG (by rw [Ax]; rfl), Aj]
 exact ⟨rfl, g1.trans (Gr0.app _ _)⟩
theorem JS {ps : List Pa} (ln : ps.length <= 100) : Wp (El [.tup (ps.map Pa.d)]) Z (fun r Z' => r = .ref Z.length /\ Z'[Z.length]? = some (.lst ((ps.filter fun p => Ky p.k).map Pa.d)) /\ Gr0 Z Z') E := by
 unfold El c_turns_of k_TURN
 have hs := sizeLine_eq
 walk_at "mi"
 refine JP ps Pa.d (fun p => Ky p.k) Pa.d ⋯ (by show _ <= (List.map _ ps).length; rw [length_map]; exact XqG) (fun i Z' _ => by rw [M7, getElem?_map]) ?_ ?_
 ·intro p hp Z' g
  refine ⟨_, rfl, ?_, fun hk Z2 _ => ?_⟩
  ·walk_at "d"
   unfold Pa.d
   walk_at "mi"
   exact ⟨isTn_w, Gr0.refl _⟩
  ·walk_at "d"
   walk_at "mi"
   exact Gr0.refl _
 intro Z1 g1 h1
 try walk_at "mi"
 exact ⟨h1, g1⟩
theorem Qt {nm w : Str} {ks : D} {x y v : Rat} {c : Bool} {A : Nat} {qs : List (Str × Rat)} (nd : (qs.map (·.1)).Nodup) (hv : (w, v) ∈ qs) (sx : Sm A x) (sy : Sm A y) (sv : Sm A v) (h0 : 0 < A) (hA : A <= 400000) : Wp (Gh [.tup [.str "turn", .str nm, ks, .tup [.str w, fr x, fr y, .bl c]], .tpl (Gq.prD qs)]) Z (fun r Z' => r = .bl (KH v x y c) /\ Gr0 Z Z') E := by
 unfold Gh c_wishes_on
 have hs := sizeLine_eq
 walk_at "mi"
 rw [Uw (RQ _), Sw nd, XS (by rw [Ax]; rfl) (kvF_at nd hv)]
 have g := Gr0.app Z [O.dct (kvF qs)]
 generalize Z ++ [O.dct (kvF qs)] = Z1 at g ⊢
 refine Wp.go (Qw sv sy h0 hA) ?_
 rintro _ _ ⟨rfl, rfl⟩
 rw [Q8, Aj]
 unfold KH
 by_cases h1 : v < y
 ·rw [decide_eq_true h1]
  refine ⟨fun z => absurd (show false = true from z) ∅, fun _ => ⟨fun hc => ?_, fun hc => ?_⟩⟩
  ·refine (Qw sx sv h0 hA).mono ?_ fun _ _ z => z
   rintro _ _ ⟨rfl, rfl⟩
   rw [hc]
   exact ⟨rfl, g⟩
  ·rw [Bool.not_eq_true] at hc
   rw [hc]
   exact ⟨rfl, g⟩
 ·rw [decide_eq_false h1]
  exact ⟨fun _ => ⟨rfl, g⟩, fun z => absurd rfl z⟩
theorem Ln {p : Pa} {names : List Str} {l : Nat} (hl : Z[l]? = some (.lst (names.map .str))) (on : p.nm ∈ names -> Ky p.k = true) : Wp (Ei [p.d, .ref l]) Z (fun r Z' => r = (BW names p).d /\ Z' = Z) E := by
 unfold Ei c_turned_over k_TURN
 have hs := sizeLine_eq
 by_cases hm : p.nm ∈ names
 ·have tn := on hm
  obtain ⟨nm, a, b, k⟩ := p
  cases k with
  | turn w x y c =>
   rw [show (Pa.mk nm a b (.turn w x y c)).d = D.tup [.str "turn", .str nm, .tup [.str a, .str b], .tup [.str w, fr x, fr y, .bl c]] from rfl]
   walk_at "mi"
   rw [Ro hl, Ho, Aj]
   walk_at "mi"
   have hm' : nm ∈ names := hm
   rw [decide_eq_true hm']
   refine ⟨fun z => absurd (show false = true from z) ∅, fun _ => ⟨⋯, by show 3 + 1 <= _; omega, ⋯, ?_⟩⟩
   unfold BW
   rw [if_pos hm]
   rfl
  | _ => exact absurd (show false = true from tn) ∅
 ·rw [show BW names p = p from if_neg hm]
  unfold Pa.d
  walk_at "mi"
  refine ⟨fun _ => trivial, fun _ => ?_⟩
  rw [Ro hl, Ho, Aj]
  walk_at "mi"
  rw [decide_eq_false hm]
  exact ⟨fun _ => trivial, fun z => absurd rfl z⟩
theorem YJ {names : List Str} {p : Pa} (on : p.nm ∈ names -> Ky p.k = true) : (BW names p).nm ∈ names -> Ky (BW names p).k = true := fun h => by
 rw [T9] at h
 have := on h
 unfold BW
 rw [if_pos h]
 obtain ⟨nm, a, b, k⟩ := p
 cases k <;> first | exact this | rfl
theorem YK {names : List Str} {ps : List Pa} (nd : (ps.map (·.nm)).Nodup) : ((ps.map (BW names)).map (·.nm)).Nodup := by
 have e : (ps.map (BW names)).map (·.nm) = ps.map (·.nm) := by
  rw [map_map]
  exact List.map_congr_left fun p _ => T9
 rw [e]
 exact nd
theorem M8 {ps : List Pa} {names : List Str} {l : Nat} (hl : Z[l]? = some (.lst (names.map .str))) (nd : (ps.map (·.nm)).Nodup) (ln : ps.length <= 100) (on : ∀ p ∈ ps, p.nm ∈ names -> Ky p.k = true) : Wp (DY [.tup (ps.map Pa.d), .ref l]) Z (fun r Z' => r = .tup [.tup ((ps.map (BW names)).map Pa.d), .tup (bPr (M6 names (ps.map (BW names))))] /\ Gr0 Z Z') E := by
 unfold DY c_all_turned
 have hs := sizeLine_eq
 walk_at "mi"
 refine wp_lc_gr ps Pa.d (fun p => (BW names p).d) ⋯ (by show _ <= (List.map _ ps).length; rw [length_map]; exact XqG) (fun i Z' _ => by rw [M7, getElem?_map]) (fun p hp Z' g => ⟨_, rfl, ?_, ?_⟩) (fun Z1 g1 h1 => ?_)
 ·rw [Mv, Aj]; exact ⟨rfl, rfl⟩
 ·walk_at "d"
  walk_at "mi"
  refine (Ln (g.at_ _ _ hl) (on p hp)).mono ?_ fun _ _ z => z
  rintro _ _ ⟨rfl, rfl⟩
  exact ⟨rfl, Gr0.refl _⟩
 have h1' : Z1[Z.length]? = some (.lst ((ps.map (BW names)).map Pa.d)) := by rw [h1, map_map]; rfl
 rw [Hz, Cq, DG h1', Aj]
 have nd' := YK (names := names) nd
 have on' : ∀ p ∈ ps.map (BW names), p.nm ∈ names -> Ky p.k = true := fun q hq => by
  obtain ⟨p, hp, rfl⟩ := mem_map.mp hq
  exact YJ (on p hp)
 have ln' : (ps.map (BW names)).length <= 100 := by rw [length_map]; exact ln
 generalize ps.map (BW names) = qs at nd' on' ln' ⊢
 try walk_at "mi"
 refine Wp.go (JS ln') ?_
 rintro _ Z2 ⟨rfl, h2, g2⟩
 try walk_at "mi"
 refine ⟨_, h2, ?_⟩
 have lf : (qs.filter fun p => Ky p.k).length <= qs.length := length_filter_le _ _
 refine JP (qs.filter fun p => Ky p.k) Pa.d (fun p => decide (p.nm ∈ names)) (fun p => .tup [.str p.nm, .bl (onK p.k)]) ⋯ (by show _ <= (List.map _ _).length; rw [length_map]; exact XqG) (fun i Z' g => by rw [Lq.KD (g.at_ _ _ h2), getElem?_map]) ?_ ?_
 ·intro p hp Z' g
  obtain ⟨hp1, hp2⟩ := mem_filter.mp hp
  refine ⟨_, rfl, ?_, fun hk Z3 _ => ?_⟩
  ·walk_at "d"
   unfold Pa.d
   walk_at "mi"
   rw [Ro (((g1.trans g2).trans g).at_ _ _ hl), Ho, Aj]
   walk_at "mi"
   exact Gr0.refl _
  ·walk_at "d"
   obtain ⟨nm, a, b, k⟩ := p
   cases k with
   | turn w x y c =>
    rw [show (Pa.mk nm a b (.turn w x y c)).d = D.tup [.str "turn", .str nm, .tup [.str a, .str b], .tup [.str w, fr x, fr y, .bl c]] from rfl]
    walk_at "mi"
    exact ⟨⋯, rfl, Gr0.refl _⟩
   | _ => exact absurd (show false = true from hp2) ∅
 intro Z3 g3 h3
 have ef : (qs.filter fun p => Ky p.k).filter (fun p => decide (p.nm ∈ names)) = qs.filter fun p => decide (p.nm ∈ names) := by
  rw [List.filter_filter]
  refine List.filter_congr fun p hp => ?_
  by_cases e : p.nm ∈ names
  ·rw [decide_eq_true e, on' p hp e]
   rfl
  ·rw [decide_eq_false e]
   rfl
 rw [ef] at h3
 have h3' : Z3[Z2.length]? = some (.lst (((qs.filter fun p => decide (p.nm ∈ names)).map fun p => (p.nm, onK p.k)).map fun q => D.tup [.str q.1, .bl q.2])) := by
  rw [map_map]
  exact h3
 have ndk : (((qs.filter fun p => decide (p.nm ∈ names)).map fun p => (p.nm, onK p.k)).map (·.1)).Nodup := by
  rw [map_map]
  exact (List.filter_sublist.map _).nodup nd'
 have al : ∀ a b : Bool, W.alike (.bool a) (.bool b) = true := fun a b => by simp [W.alike]
 rw [Kl h3' (Ys _) (Kw (c := fun b => .bool b) _ (fun _ _ _ _ => al _ _) (fun _ _ => by simp [PyData.depth]))]
 rw [FZ ndk (fun q => D.tup [.str q.1, .bl q.2]) (fun b => .bool b) (fun _ _ _ _ => al _ _) (fun _ _ => by simp [PyData.eqv])]
 rw [Hz, Cq, DG (by rw [Ax]; rfl), Aj]
 exact ⟨⋯, rfl, ((g1.trans g2).trans g3).trans (Gr0.app _ _)⟩
end
end Tn
namespace Tn
open PySem L2 PyProof.Rows Mi Std Rn Rg Gq
open Lq (Kp)
def Rw (n m : Nat) (d : D) : Prop := ∃ P : PyData, (∀ (Z : List O) (k : Nat), m < k -> see Z k d = some P) /\ P.showable = true /\ P.leavesShort 400 = true /\ P.bulk <= n /\ P.depth <= m
def RwL (n m : Nat) (ds : List D) : Prop := ∃ Ps : List PyData, (∀ (Z : List O) (k : Nat), m < k -> Fb (see Z k) ds = some Ps) /\ PyData.showableAll Ps = true /\ PyData.leavesShortAll 400 Ps = true /\ PyData.bulkAll Ps <= n /\ PyData.depthAll Ps <= m
theorem Rw.up {n n' m m' : Nat} {d : D} (h : Rw n m d) (hn : n <= n') (hm : m <= m') : Rw n' m' d := by
 obtain ⟨P, h1, h2, h3, h4, h5⟩ := h
 exact ⟨P, fun Z k hk => h1 Z k ⋯, h2, h3, ⋯, ⋯⟩
theorem RwL.nil : RwL 0 0 [] := ⟨[], fun _ _ _ => rfl, by simp [PyData.showableAll], by simp [PyData.leavesShortAll], by simp [PyData.bulkAll], by simp [PyData.depthAll]⟩
theorem RwL.up {n n' m m' : Nat} {d : List D} (h : RwL n m d) (hn : n <= n') (hm : m <= m') : RwL n' m' d := by
 obtain ⟨P, h1, h2, h3, h4, h5⟩ := h
 exact ⟨P, fun Z k hk => h1 Z k ⋯, h2, h3, ⋯, ⋯⟩
theorem RwL.cons {n n' m : Nat} {d : D} {ds : List D} (h : Rw n m d) (hs : RwL n' m ds) : RwL (n + 1 + n') m (d :: ds) := by
 obtain ⟨P, h1, h2, h3, h4, h5⟩ := h
 obtain ⟨Ps, k1, k2, k3, k4, k5⟩ := hs
 refine ⟨P :: Ps, fun Z k hk => ?_, by simp [PyData.showableAll, h2, k2], by simp [PyData.leavesShortAll, h3, k3], by simp [PyData.bulkAll]; omega, by simp [PyData.depthAll]; omega⟩
 show (match see Z k d, Fb (see Z k) ds with | some a, some b => some (a :: b) | _, _ => none) = _
 rw [h1 Z k hk, k1 Z k hk]
theorem RwL.tup {n m : Nat} {ds : List D} (h : RwL n m ds) : Rw n (m + 1) (.tup ds) := by
 obtain ⟨Ps, k1, k2, k3, k4, k5⟩ := h
 refine ⟨.tuple Ps, fun Z k hk => ?_, by simp [PyData.showable, k2], by simp [PyData.leavesShort, k3], by simp [PyData.bulk]; omega, by simp [PyData.depth]; omega⟩
 obtain ⟨j, rfl⟩ : ∃ j, k = j + 1 := ⟨k - 1, ⋯⟩
 show (Fb (see Z j) ds).map PyData.tuple = _
 rw [k1 Z j ⋯]
 rfl
theorem RwL.map {α : Type} {n m : Nat} {xs : List α} {f : α -> D} (h : ∀ x ∈ xs, Rw n m (f x)) : RwL (xs.length * (n + 1)) m (xs.map f) := by
 induction xs with
 | nil => exact RwL.nil.up (by simp) ⋯
 | cons x r ih =>
  have := RwL.cons (h x (mem_cons_self ..)) (ih fun y hy => h y (mem_cons_of_mem _ hy))
  refine this.up ?_ XqG
  rw [length_cons, Nat.succ_mul]
  omega
theorem rw_str {x : Str} (h : PyData.strOk x = true) : Rw x.cps.size 1 (.str x) :=
 ⟨.str x, fun Z k hk => by (obtain ⟨j, rfl⟩ : ∃ j, k = j + 1 := ⟨k - 1, ⋯⟩); rfl, by simp [PyData.showable], PyData.leavesShort_of_canLay0 400 (.str x) (by simpa only [PyData.canLay0] using h) rfl, by simp [PyData.bulk], by simp [PyData.depth]⟩
theorem rw_bl {b : Bool} : Rw 0 1 (.bl b) := ⟨.bool b, fun Z k hk => by (obtain ⟨j, rfl⟩ : ∃ j, k = j + 1 := ⟨k - 1, ⋯⟩); rfl, by simp [PyData.showable], by simp [PyData.leavesShort], by simp [PyData.bulk], by simp [PyData.depth]⟩
theorem rw_non : Rw 0 1 .non := ⟨.none, fun Z k hk => by (obtain ⟨j, rfl⟩ : ∃ j, k = j + 1 := ⟨k - 1, ⋯⟩); rfl, by simp [PyData.showable], by simp [PyData.leavesShort], by simp [PyData.bulk], by simp [PyData.depth]⟩
theorem pow_100 : 2 ^ 1000 < 10 ^ 390 := ∅
theorem UG {i : Int} (h : i.natAbs < 2 ^ 1000) : Rw 0 1 (.int i) := by
 refine ⟨.int i, fun Z k hk => by (obtain ⟨j, rfl⟩ : ∃ j, k = j + 1 := ⟨k - 1, ⋯⟩); rfl, ?_, ?_, by simp [PyData.bulk], by simp [PyData.depth]⟩
 ·have : i.natAbs.log2 < 1920 := Nat.lt_of_lt_of_le (Std.log2_lt h ⋯) ⋯
  simp [PyData.showable, this]
 ·have := int_text_length_le10 (a := i) (k := 390) ⋯ (Nat.lt_trans h pow_100)
  have e : (PyData.shown (.int i)).length <= 400 := by
   show (Str.ofString (toString i)).length <= _
   rw [PySem.ofString_length]
   omega
  simp only [PyData.leavesShort, decide_eq_true_eq]
  exact e
theorem rw_fr {q : Rat} (h : Sm 1000 q) : Rw 2 2 (fr q) := (RwL.cons (UG h.1) (RwL.cons (UG (i := ((q.den : Nat) : Int)) (by rw [Int.natAbs_natCast]; exact h.2)) (RwL.nil.up XqG ⋯))).tup.up ⋯ XqG
theorem Rw.repr {n m : Nat} {d : D} (h : Rw n m d) (hn : n <= 40000) (hm : m <= 60) : ∃ P : PyData, (∀ Z : List O, see Z 62 d = some P) /\ JV P = true := by
 obtain ⟨P, h1, h2, h3, h4, h5⟩ := h
 refine ⟨P, fun Z => h1 Z 62 ⋯, ?_⟩
 have hz := sizeLine_eq
 have sh := PyData.shown_le_bulk 400 ⋯ P h3
 unfold JV
 simp only [and_eq_true, decide_eq_true_eq]
 refine ⟨h2, ?_, ⋯⟩
 have : (400 + 2) * P.bulk <= 402 * 40000 := Nat.mul_le_mul ⋯ ⋯
 omega
def Nz (x : Str) : Prop := PyData.strOk x = true /\ x.cps.size <= 5
def KdZ : Kd -> Prop
 | .resist r => Sm 1000 r
 | .height v => Sm 1000 v
 | .stream v => Sm 1000 v
 | .keep c v => Sm 1000 c /\ Sm 1000 v
 | .coil c v => Sm 1000 c /\ Sm 1000 v
 | .switch _ => True
 | .turn w x y _ => Nz w /\ Sm 1000 x /\ Sm 1000 y
 | .bent s es => Sm 1000 s /\ es.length <= 2 /\ ∀ q ∈ es, Sm 1000 q.1 /\ Sm 1000 q.2
def PtZ (p : Pa) : Prop := Nz p.nm /\ Nz p.a /\ Nz p.b /\ KdZ p.k
theorem Nz.rw {x : Str} (h : Nz x) : Rw 5 4 (.str x) := (rw_str h.1).up h.2 ⋯
theorem w_z (k : Kd) : Rw 6 4 (.str k.w) := by
 have key : ∀ x ∈ (["resist", "height", "stream", "keep", "coil", "switch", "turn", "bent"] : List Str), PyData.strOk x = true /\ x.cps.size <= 6 := ∅
 have hm : k.w ∈ (["resist", "height", "stream", "keep", "coil", "switch", "turn", "bent"] : List Str) := by cases k <;> simp [Kd.w]
 obtain ⟨h1, h2⟩ := key _ hm
 exact (rw_str h1).up h2 ⋯
theorem fr_z {q : Rat} (h : Sm 1000 q) : Rw 2 4 (fr q) := (rw_fr h).up XqG ⋯
theorem vals_z {k : Kd} (h : KdZ k) : RwL 30 4 k.vals := by
 have one : ∀ {d : D} {n : Nat}, Rw n 4 d -> n <= 20 -> RwL 30 4 [d] := fun h hn => (RwL.cons h (RwL.nil.up XqG ⋯)).up ⋯ XqG
 have two : ∀ {d e : D} {n m : Nat}, Rw n 4 d -> Rw m 4 e -> n + m <= 20 -> RwL 30 4 [d, e] := fun h k hn => (RwL.cons h (RwL.cons k (RwL.nil.up XqG ⋯))).up ⋯ XqG
 cases k with
 | resist r => exact one (fr_z h) ⋯
 | height r => exact one (fr_z h) ⋯
 | stream r => exact one (fr_z h) ⋯
 | keep c v => exact two (fr_z h.1) (fr_z h.2) ⋯
 | coil c v => exact two (fr_z h.1) (fr_z h.2) ⋯
 | switch c => exact one (rw_bl.up XqG ⋯) ⋯
 | turn w x y c => exact (RwL.cons h.1.rw (RwL.cons (fr_z h.2.1) (RwL.cons (fr_z h.2.2) (RwL.cons (rw_bl.up XqG ⋯) (RwL.nil.up XqG ⋯))))).up ⋯ XqG
 | bent s es =>
  have hl : es.length <= 2 := h.2.1
  have e1 : RwL (es.length * (6 + 1)) 3 (FW es) := RwL.map fun q hq => by
   obtain ⟨k1, k2⟩ := h.2.2 q hq
   exact (RwL.cons (rw_fr k1) (RwL.cons (rw_fr k2) (RwL.nil.up XqG ⋯))).tup.up ⋯ ⋯
  exact two (fr_z h.1) (e1.up (n' := 14) ⋯ XqG).tup ⋯
theorem part_z {p : Pa} (h : PtZ p) : Rw 60 6 p.d := by
 obtain ⟨h1, h2, h3, h4⟩ := h
 have kn : Rw 12 5 (.tup [.str p.a, .str p.b]) := (RwL.cons h2.rw (RwL.cons h3.rw (RwL.nil.up XqG ⋯))).tup.up ⋯ ⋯
 have vl : Rw 30 5 (.tup p.k.vals) := (vals_z h4).tup
 exact (RwL.cons ((w_z p.k).up XqG ⋯) (RwL.cons (h1.rw.up XqG ⋯) (RwL.cons kn (RwL.cons vl (RwL.nil.up XqG ⋯))))).tup.up ⋯ XqG
theorem parts_z {ps : List Pa} (h : ∀ p ∈ ps, PtZ p) (ln : ps.length <= 20) : Rw 1300 7 (.tup (ps.map Pa.d)) := ((RwL.map fun p hp => part_z (h p hp)).tup).up ⋯ ⋯
end Tn
namespace Tn
open PySem L2 PyProof.Rows Mi Std Rn Rg Gq
open Lq (Kp)
section
variable {n k : Nat -> Str} {qs : List Pa}
theorem shp_len (h : Shp n k qs) : qs.length <= 8 := by
 obtain ⟨q1, p2, p3, p4, q5, f, s, h1, _, _, _, _, _, h5, rfl⟩ := h
 have l1 : q1.length = 2 := by rcases h1 with ⟨_, _, _, _, rfl⟩ | ⟨_, _, _, _, rfl⟩ <;> rfl
 have l5 : q5.length <= 3 := by
  rcases h5 with ⟨_, _, _, _, _, _, rfl⟩ | ⟨_, _, _, _, rfl⟩
  ·exact Nat.le_refl 3
  ·show 2 <= 3
   omega
 rw [length_append, length_append, l1]
 show 2 + 3 + _ <= _
 omega
theorem Yp (h : Shp n k qs) : qs.map (·.nm) = [n 0, n 1, n 2, n 3, n 4, n 5, n 6, n 7] \/ qs.map (·.nm) = [n 0, n 1, n 2, n 3, n 4, n 5, n 6] := by
 obtain ⟨q1, p2, p3, p4, q5, f, s, h1, _, _, h2, h3, h4, h5, rfl⟩ := h
 have e1 : q1.map (·.nm) = [n 0, n 1] := by rcases h1 with ⟨_, _, _, _, rfl⟩ | ⟨_, _, _, _, rfl⟩ <;> rfl
 have e2 : p2.nm = n 2 := by obtain ⟨_, _, rfl | rfl⟩ := h2 <;> rfl
 have e3 : p3.nm = n 3 := by obtain ⟨_, _, _, _, _, rfl⟩ := h3; rfl
 have e4 : p4.nm = n 4 := by obtain ⟨_, _, rfl⟩ := h4; rfl
 have e5 : q5.map (·.nm) = [n 5, n 6, n 7] \/ q5.map (·.nm) = [n 5, n 6] := by
  rcases h5 with ⟨p, q, r, ⟨_, _, rfl⟩, ⟨_, _, _, _, _, hq⟩, hr, rfl⟩ | ⟨p, q, hp, ⟨_, _, rfl⟩, rfl⟩
  ·refine .inl ?_
   have eq : q.nm = n 6 := by rcases hq with rfl | rfl <;> rfl
   have er : r.nm = n 7 := by rcases hr with ⟨_, _, _, _, _, rfl⟩ | ⟨_, _, _, _, _, rfl⟩ <;> rfl
   show [n 5, q.nm, r.nm] = _
   rw [eq, er]
  ·refine .inr ?_
   have ep : p.nm = n 5 := by
    rcases hp with ⟨_, _, _, _, _, rfl⟩ | ⟨_, rfl⟩ <;> rfl
   show [p.nm, n 6] = _
   rw [ep]
 rw [map_append, map_append, e1]
 rcases e5 with e5 | e5
 ·refine .inl ?_
  rw [e5]
  show [n 0, n 1, p2.nm, p3.nm, p4.nm, n 5, n 6, n 7] = _
  rw [e2, e3, e4]
 ·refine .inr ?_
  rw [e5]
  show [n 0, n 1, p2.nm, p3.nm, p4.nm, n 5, n 6] = _
  rw [e2, e3, e4]
theorem cd_z {c : Kd} (h : CdK c) : KdZ c /\ Ky c = false /\ isKp c = false := by
 have up : ∀ {v : Rat}, Ab v -> Sm 1000 v := fun h => h.sm.up ⋯
 rcases h with ⟨r, rfl, hr⟩ | ⟨s, es, rfl, hs, hl, he⟩
 ·exact ⟨up hr, rfl, rfl⟩
 ·exact ⟨⟨up hs, hl, fun q hq => ⟨(he q hq).1.up ⋯, up (he q hq).2⟩⟩, rfl, rfl⟩
theorem shp_each (h : Shp n k qs) (hn : ∀ i, i < 8 -> Nz (n i)) (hk : ∀ i, i < 4 -> Nz (k i)) : (∀ p ∈ qs, PtZ p) /\ ∀ p ∈ qs, TnOk (Gj qs) p := by
 obtain ⟨q1, p2, p3, p4, q5, f, s, h1, hf, hs, h2, h3, h4, h5, rfl⟩ := h
 have bz : Nz "base" := by unfold Nz; decide +kernel
 have ua : ∀ {v : Rat}, An v -> Sm 1000 v := fun h => h.sm.up ⋯
 have ub : ∀ {v : Rat}, Ab v -> Sm 1000 v := fun h => h.sm.up ⋯
 have uh : ∀ {v : Rat}, Hf v -> Sm 1000 v := fun h => h.sm.up ⋯
 have keep2 : (n 2, f) ∈ Gj (q1 ++ [p2, p3, p4] ++ q5) := by
  unfold Gj
  refine mem_map.mpr ⟨p2, mem_filter.mpr ⟨by simp, ?_⟩, ?_⟩
  ·obtain ⟨_, _, rfl | rfl⟩ := h2 <;> rfl
  ·obtain ⟨_, _, rfl | rfl⟩ := h2 <;> rfl
 -- a turn
 have turn : ∀ {nm a b w : Str} {p : Pa} {qs : List (Str × Rat)} {v : Rat}, Rk nm a b w p -> Nz nm -> Nz a -> Nz b -> Nz w -> (w, v) ∈ qs -> Hf v -> PtZ p /\ TnOk qs p := fun {nm a b w p qs v} h zn za zb zw hv hfv => by
  obtain ⟨x, y, c, sx, sy, rfl⟩ := h
  refine ⟨⟨zn, za, zb, zw, sx.up ⋯, sy.up ⋯⟩, fun w' x' y' c' e => ?_⟩
  cases e
  exact ⟨sx.up ⋯, sy.up ⋯, v, hv, hfv.sm.up ⋯⟩
 have no : ∀ {p : Pa} {qs : List (Str × Rat)}, Ky p.k = false -> TnOk qs p := fun {p qs} h w x y c e => by
  rw [e] at h
  exact absurd (show true = false from h) ∅
 have cond : ∀ {nm a b : Str} {p : Pa} {qs : List (Str × Rat)}, ZG nm a b p -> Nz nm -> Nz a -> Nz b -> PtZ p /\ TnOk qs p := fun {nm a b p qs} h zn za zb => by
  obtain ⟨c, hc, rfl⟩ := h
  obtain ⟨c1, c2, _⟩ := cd_z hc
  exact ⟨⟨zn, za, zb, c1⟩, no c2⟩
 have all : ∀ p ∈ q1 ++ [p2, p3, p4] ++ q5, PtZ p /\ TnOk (Gj (q1 ++ [p2, p3, p4] ++ q5)) p := fun p hp => by
  rw [mem_append, mem_append] at hp
  rcases hp with (hp | hp) | hp
  ·rcases h1 with ⟨v, r, hv, hr, rfl⟩ | ⟨v, r, hv, hr, rfl⟩
   ·simp only [mem_cons, not_mem_nil, or_false] at hp
    rcases hp with rfl | rfl
    ·exact ⟨⟨hn 0 ⋯, bz, hk 0 ⋯, ua hv⟩, no rfl⟩
    ·exact ⟨⟨hn 1 ⋯, hk 0 ⋯, bz, ub hr⟩, no rfl⟩
   ·simp only [mem_cons, not_mem_nil, or_false] at hp
    rcases hp with rfl | rfl
    ·exact ⟨⟨hn 0 ⋯, hk 1 ⋯, bz, ua hv⟩, no rfl⟩
    ·exact ⟨⟨hn 1 ⋯, hk 1 ⋯, hk 0 ⋯, ub hr⟩, no rfl⟩
  ·simp only [mem_cons, not_mem_nil, or_false] at hp
   rcases hp with rfl | rfl | rfl
   ·obtain ⟨c, hc, rfl | rfl⟩ := h2
    ·exact ⟨⟨hn 2 ⋯, hk 0 ⋯, bz, ub hc, uh hf⟩, no rfl⟩
    ·exact ⟨⟨hn 2 ⋯, bz, hk 0 ⋯, ub hc, uh hf⟩, no rfl⟩
   ·exact turn h3 (hn 3 ⋯) (hk 0 ⋯) (hk 2 ⋯) (hn 2 ⋯) keep2 hf
   ·exact cond h4 (hn 4 ⋯) (hk 2 ⋯) bz
  ·rcases h5 with ⟨p, q, r, hp5, hq5, hr5, rfl⟩ | ⟨p, q, hp5, hq5, rfl⟩
   ·have keep6 : (n 6, s) ∈ Gj (q1 ++ [p2, p3, p4] ++ [p, q, r]) := by
     unfold Gj
     refine mem_map.mpr ⟨q, mem_filter.mpr ⟨by simp, ?_⟩, ?_⟩
     ·obtain ⟨_, _, _, _, _, rfl | rfl⟩ := hq5 <;> rfl
     ·obtain ⟨_, _, _, _, _, rfl | rfl⟩ := hq5 <;> rfl
    simp only [mem_cons, not_mem_nil, or_false] at hp
    rcases hp with rfl | rfl | rfl
    ·exact cond hp5 (hn 5 ⋯) (hk 0 ⋯) (hk 3 ⋯)
    ·obtain ⟨c, a, b, hc, hab, hq⟩ := hq5
     have zab : Nz a /\ Nz b := by
      rcases hab with ⟨rfl, rfl⟩ | ⟨rfl, rfl⟩ | ⟨rfl, rfl⟩ | ⟨rfl, rfl⟩
      ·exact ⟨hk 3 ⋯, bz⟩
      ·exact ⟨bz, hk 3 ⋯⟩
      ·exact ⟨hk 3 ⋯, hk 2 ⋯⟩
      ·exact ⟨hk 2 ⋯, hk 3 ⋯⟩
     rcases hq with rfl | rfl
     ·exact ⟨⟨hn 6 ⋯, zab.1, zab.2, ub hc, uh hs⟩, no rfl⟩
     ·exact ⟨⟨hn 6 ⋯, zab.1, zab.2, ub hc, uh hs⟩, no rfl⟩
    ·rcases hr5 with hr5 | hr5
     ·exact turn hr5 (hn 7 ⋯) (hk 0 ⋯) (hk 3 ⋯) (hn 2 ⋯) keep2 hf
     ·exact turn hr5 (hn 7 ⋯) (hk 0 ⋯) (hk 3 ⋯) (hn 6 ⋯) keep6 hs
   ·simp only [mem_cons, not_mem_nil, or_false] at hp
    rcases hp with rfl | rfl
    ·rcases hp5 with hp5 | ⟨b, rfl⟩
     ·exact turn hp5 (hn 5 ⋯) (hk 0 ⋯) (hk 3 ⋯) (hn 2 ⋯) keep2 hf
     ·exact ⟨⟨hn 5 ⋯, hk 0 ⋯, hk 3 ⋯, trivial⟩, no rfl⟩
    ·exact cond hq5 (hn 6 ⋯) (hk 3 ⋯) bz
 exact ⟨fun p hp => (all p hp).1, fun p hp => (all p hp).2⟩
end
structure NetT (ps : List Pa) : Prop where
 nd : (ps.map (·.nm)).Nodup
 ln : ps.length <= 8
 z : ∀ p ∈ ps, PtZ p
 tn : ∀ p ∈ ps, TnOk (Bx ps) p
theorem net_t {ps qs : List Pa} {ns ks : List Str} (pm : ps.Perm qs) (ln : ns.length = 8) (lk : ks.length = 4) (on : NmL ns) (ok : NmL ks) (h : Shp (ns.getD · "") (ks.getD · "") qs) : NetT ps := by
 have zn : ∀ i, i < 8 -> Nz (ns.getD i "") := fun i hi => by
  have hm : ns.getD i "" ∈ ns := by rw [getD_eq_getElem?_getD, getElem?_eq_getElem ⋯]; exact getElem_mem _
  have := on.ok _ hm
  exact ⟨this.1, this.2.1⟩
 have zk : ∀ i, i < 4 -> Nz (ks.getD i "") := fun i hi => by
  have hm : ks.getD i "" ∈ ks := by rw [getD_eq_getElem?_getD, getElem?_eq_getElem ⋯]; exact getElem_mem _
  have := ok.ok _ hm
  exact ⟨this.1, this.2.1⟩
 obtain ⟨e1, e2⟩ := shp_each h zn zk
 have pk : (Gj ps).Perm (Gj qs) := (pm.filter _).map _
 refine ⟨?_, ?_, fun p hp => e1 p ((pm.mem_iff).mp hp), fun p hp w x y c e => ?_⟩
 ·rw [(pm.map _).nodup_iff]
  obtain ⟨n0, n1, n2, n3, n4, n5, n6, n7, rfl⟩ := list8 ln
  have nd := on.nd
  rcases Yp h with e | e
  ·rw [e]
   exact nd
  ·rw [e]
   exact (List.take_sublist 7 [n0, n1, n2, n3, n4, n5, n6, n7]).nodup nd
 ·rw [pm.length_eq]
  exact shp_len h
 ·obtain ⟨sx, sy, v, hv, sv⟩ := e2 p ((pm.mem_iff).mp hp) w x y c e
  exact ⟨sx, sy, v, KR.mpr ((pk.mem_iff).mpr hv), sv⟩
theorem NetT.start_nd {ps : List Pa} (h : NetT ps) : ((Bx ps).map (·.1)).Nodup := sortK_nd (Ue h.nd)
theorem Sv {α β : Type} {f : α -> β} : ∀ {xs : List α}, (xs.map f).Nodup -> ∀ x ∈ xs, ∀ y ∈ xs, f x = f y -> x = y
 | [], _, x, hx, _, _, _ => (by cases hx)
 | a :: r, nd, x, hx, y, hy, e => by
  rw [map_cons, nodup_cons] at nd
  rcases mem_cons.mp hx with ex | hx'
  ·rcases mem_cons.mp hy with ey | hy'
   ·rw [ex, ey]
   ·exact absurd (by rw [<- ex, e]; exact mem_map_of_mem hy') nd.1
  ·rcases mem_cons.mp hy with ey | hy'
   ·exact absurd (by rw [<- ey, <- e]; exact mem_map_of_mem hx') nd.1
   ·exact Sv nd.2 x hx' y hy' e
theorem NetT.ag {ps : List Pa} (h : NetT ps) : ∀ p ∈ ps, p.nm ∈ CN (Bx ps) ps -> Ky p.k = true := fun p hp hm => by
 obtain ⟨q, hq, e⟩ := mem_map.mp hm
 obtain ⟨hq1, hq2⟩ := mem_filter.mp hq
 have : q = p := Sv h.nd q hq1 p hp e
 subst this
 unfold agB at hq2
 unfold Ky
 revert hq2
 cases q.k <;> simp
end Tn
namespace Law
open PySem L2 PyProof.Rows Mi Lq Gq Tn
open Std hiding c_l_begin c_l_sum BP BJ
open Rn Rg
theorem for0 {lo : Int} {g : CG} {b : CB} {Y : Mi.Env} {Z : List O} {S : SR -> List O -> Prop} (h : S (.nx Y) Z) : Ws (Bw (wkR lo 0) g b 0 0 Y) Z S :=
 Qc (fun _ r m => r = Y /\ m = Z) ⟨rfl, rfl⟩ (fun _ _ _ hi => absurd hi (Nat.not_lt_zero _)) (by rintro _ _ ⟨rfl, rfl⟩; exact h)
def rowD (ps : List Pa) : D := .tup [.tup [.int 0, .int 1], .tup (bPr (M6 (CN (Bx ps) ps) (ps.map (BW (CN (Bx ps) ps))))), .non, .tpl (Gq.prD (Bx ps))]
section
variable {Z : List O} {E : Ex -> List O -> Prop}
theorem VD {ps : List Pa} (T : NetT ps) {h : D} : Wp (Iu [.tup (ps.map Pa.d), h, .int 0]) Z (fun r Z' => r = .tup [rowD ps] /\ Gr0 Z Z') E := by
 unfold Iu c_turned
 have hs := sizeLine_eq
 have ln := T.ln
 walk_at "mi"
 refine Wp.go (Yw T.nd ⋯) ?_
 rintro _ Z1 ⟨rfl, g1⟩
 refine Wp.go (JS ⋯) ?_
 rintro _ Z2 ⟨rfl, h2, g2⟩
 walk_at "mi"
 refine ⟨_, h2, ?_⟩
 have lf : (ps.filter fun p => Ky p.k).length <= ps.length := length_filter_le _ _
 refine JP (ps.filter fun p => Ky p.k) Pa.d (agB (Bx ps)) (fun p => .str p.nm) ⋯ (by show _ <= (List.map _ _).length; rw [length_map]; exact XqG) (fun i Z' g => by rw [Lq.KD (g.at_ _ _ h2), getElem?_map]) ?_ ?_
 ·intro p hp Z' g
  obtain ⟨hp1, hp2⟩ := mem_filter.mp hp
  refine ⟨_, rfl, ?_, fun hk Z2 _ => ?_⟩
  ·walk_at "d"
   have okp := T.tn p hp1
   obtain ⟨nm, a, b, k⟩ := p
   cases k with
   | turn w x y c =>
    obtain ⟨sx, sy, v, hv, sv⟩ := okp w x y c rfl
    rw [show (Pa.mk nm a b (.turn w x y c)).d = D.tup [.str "turn", .str nm, .tup [.str a, .str b], .tup [.str w, fr x, fr y, .bl c]] from rfl]
    walk_at "mi"
    refine Wp.go (Qt T.start_nd hv sx sy sv ⋯ ⋯) ?_
    rintro _ Z3 ⟨rfl, g3⟩
    walk_at "mi"
    refine ⟨?_, g3⟩
    unfold agB
    dsimp only
    rw [find_q T.start_nd hv]
    show (!decide (KH v x y c = c)) = (KH v x y c != c)
    cases KH v x y c <;> cases c <;> rfl
   | _ => exact absurd (show false = true from hp2) ∅
  ·walk_at "d"
   unfold Pa.d
   walk_at "mi"
   exact Gr0.refl _
 intro Z3 g3 h3
 have h3' : Z3[Z2.length]? = some (.lst ((CN (Bx ps) ps).map .str)) := by
  rw [h3, List.filter_filter]
  unfold CN
  rw [map_map]
  congr 3
  refine List.filter_congr fun p _ => ?_
  unfold agB Ky
  cases p.k <;> simp
 have ag := T.ag
 unfold rowD
 generalize CN (Bx ps) ps = names at h3' ag ⊢
 refine Wp.go (M8 h3' T.nd ⋯ ag) ?_
 rintro _ Z4 ⟨rfl, g4⟩
 refine ⟨_, rfl, rfl, _, _, rfl, ?_⟩
 dsimp only [set_cons_succ, set_cons_zero]
 walk_at "mi"
 refine ⟨⋯, ⋯, ∅, ?_⟩
 rw [show Int.toNat 0 = 0 from rfl]
 refine for0 ?_
 try walk_at "mi"
 exact ⟨rfl, ((((g1.trans g2).trans g3).trans g4)).trans (Gr0.app _ _)⟩
theorem Vt : ∀ qs : List (Str × Bool), HF (bPr qs) = bPr qs
 | [] => rfl
 | q :: r => by
  show Rc (.tup [.str q.1, .bl q.2]) :: HF (bPr r) = _
  rw [Vt r]
  rfl
theorem Vs : ∀ qs : List (Str × Rat), HF (Gq.prD qs) = Gq.prD qs
 | [] => rfl
 | q :: r => by
  show Rc (.tup [.str q.1, fr q.2]) :: HF (Gq.prD r) = _
  rw [Vs r]
  rfl
theorem row_z {ps : List Pa} (T : NetT ps) : Rw 2000 9 (Rc (.tup [rowD ps])) := by
 have e : Rc (.tup [rowD ps]) = .tup [.tup [.tup [.int 0, .int 1], .tup (bPr (M6 (CN (Bx ps) ps) (ps.map (BW (CN (Bx ps) ps))))), .non, .tup (Gq.prD (Bx ps))]] := by
  show D.tup [.tup [.tup [.int 0, .int 1], .tup (HF (bPr _)), .non, .tup (HF (Gq.prD _))]] = _
  rw [Vt, Vs]
 rw [e]
 have ln := T.ln
 have sub : ∀ n ∈ (ps.map (BW (CN (Bx ps) ps))).map (·.nm), Nz n := fun n hn => by
  have e1 : (ps.map (BW (CN (Bx ps) ps))).map (·.nm) = ps.map (·.nm) := by
   rw [map_map]
   exact List.map_congr_left fun p _ => T9
  rw [e1] at hn
  obtain ⟨p, hp, rfl⟩ := mem_map.mp hn
  exact (T.z p hp).1
 have tl : ∀ q ∈ M6 (CN (Bx ps) ps) (ps.map (BW (CN (Bx ps) ps))), Nz q.1 := fun q hq => by
  unfold M6 at hq
  obtain ⟨p, hp, rfl⟩ := mem_map.mp (KR.mp hq)
  exact sub _ (mem_map_of_mem (mem_filter.mp hp).1)
 have tn : (M6 (CN (Bx ps) ps) (ps.map (BW (CN (Bx ps) ps)))).length <= 8 := by
  unfold M6
  have := (mergeSort_perm (((ps.map (BW (CN (Bx ps) ps))).filter fun p => decide (p.nm ∈ CN (Bx ps) ps)).map fun p => (p.nm, onK p.k)) fun a b => leS a.1 b.1).length_eq
  unfold Rv
  rw [this, length_map]
  refine Nat.le_trans (length_filter_le _ _) ?_
  rw [length_map]
  exact ln
 have sl : ∀ q ∈ Bx ps, Nz q.1 /\ Sm 1000 q.2 := fun q hq => by
  obtain ⟨p, hp, rfl⟩ := mem_map.mp (KR.mp hq)
  obtain ⟨hp1, hp2⟩ := mem_filter.mp hp
  obtain ⟨z1, _, _, z4⟩ := T.z p hp1
  refine ⟨z1, ?_⟩
  show Sm 1000 (valK p.k)
  obtain ⟨nm, a, b, k⟩ := p
  cases k with
  | keep c v => exact z4.2
  | coil c v => exact z4.2
  | _ => exact absurd (show false = true from hp2) ∅
 have sn : (Bx ps).length <= 8 := by
  unfold Bx Rv
  rw [(mergeSort_perm (Gj ps) fun a b => leS a.1 b.1).length_eq]
  exact Nat.le_trans kept_len ln
 generalize M6 (CN (Bx ps) ps) (ps.map (BW (CN (Bx ps) ps))) = ts at tl tn ⊢
 generalize Bx ps = ss at sl sn ⊢
 have r1 : Rw 100 6 (.tup (bPr ts)) := ((RwL.map (n := 10) (m := 5) fun q hq => (RwL.cons (tl q hq).rw (RwL.cons (rw_bl.up XqG ⋯) (RwL.nil.up XqG ⋯))).tup.up ⋯ XqG).tup).up ⋯ XqG
 have r2 : Rw 200 6 (.tup (Gq.prD ss)) := ((RwL.map (n := 20) (m := 5) fun q hq => (RwL.cons (sl q hq).1.rw (RwL.cons ((rw_fr (sl q hq).2).up XqG ⋯) (RwL.nil.up XqG ⋯))).tup.up ⋯ XqG).tup).up ⋯ XqG
 have r0 : Rw 10 6 (.tup [.int 0, .int 1]) := (RwL.cons (UG (i := 0) ∅) (RwL.cons (UG (i := 1) ∅) (RwL.nil.up XqG ⋯))).tup.up ⋯ ⋯
 have row := (RwL.cons r0 (RwL.cons r1 (RwL.cons (rw_non.up XqG ⋯) (RwL.cons r2 (RwL.nil.up XqG ⋯))))).tup
 exact (RwL.cons row (RwL.nil.up XqG ⋯)).tup.up ⋯ ⋯
end
section
variable {Z : List O} {l o n : Nat}
def lbody : CB := (Af (Jy 5 6 (Am "_law_net" Mf (Aa (Ae 1) aNil)) (Am "_law_above" BK (Aa (Ae 1) aNil)))
 (Af (Jy 7 8 (cB "repr" reprD (Aa (Ae 5) aNil)) (Am "_law_start" G9 (Aa (Ae 5) aNil)))
 (Af (Bv (gN 3) (Am "_law_against" Ey (Aa (Ae 5) (Aa (Ae 8) aNil))))
 (Af (Bv (gN 4) (Bg (Aa (Bg (Aa (Bg (Aa (cInt 0) (Aa (cInt 1) aNil))) (Aa (Am "_law_told" IK (Aa (Am "_law_over_all" DR (Aa (Ae 5) (Aa (Ae 3) aNil))) (Aa (Ae 3) aNil))) (Aa cNon (Aa (Ae 8) aNil))))) aNil)))
 (Af (sIf (wOr (Ba .NotEq neD (cB "repr" reprD (Aa (X7 (Am "turned" Iu (Aa (Ae 5) (Aa (Ae 6) (Aa (cInt 0) aNil))))) aNil)) (cB "repr" reprD (Aa (X7 (Ae 4)) aNil))) (wOr1 (Ba .NotEq neD (cB "repr" reprD (Aa (Ae 5) aNil)) (Ae 7)))) (Af (Cr (cBl false))
 bNil) bNil)
 bNil)))))
theorem Hj {v0 x2 x3 x4 x5 x6 x7 x8 : Option D} {S : SR -> List O -> Prop} (h : Pot Z l o n) (hn : n + 500 <= 1000000)
  (k : ∀ Z' y3 y4 y5 y6 y7 y8, Pot Z' l o (n + 400) -> S (.nx [v0, some (.ref l), x2, y3, y4, y5, y6, y7, y8]) Z') : Ws (lbody.run [v0, some (.ref l), x2, x3, x4, x5, x6, x7, x8]) Z S := by
 have hs := sizeLine_eq
 unfold lbody
 walk_at "mi"
 refine Wp.go (run_net h ⋯) ?_
 rintro _ Z1 ⟨⟨ps, ns, ks, qs, rfl, pm, ln, lk, okn, okk, shp⟩, w1, k1⟩
 have T := net_t pm ln lk okn okk shp
 clear shp pm okn okk
 refine Wp.go (CZ w1 ⋯) ?_
 rintro _ Z2 ⟨⟨v, rfl, hv⟩, w2, k2⟩
 obtain ⟨P, hP, hR⟩ := ((parts_z T.z (by have := T.ln; omega)).up (n' := 2000) (m' := 9) ⋯ ⋯).repr ⋯ ⋯
 rw [Qg (hP Z2) hR]
 have lnp := T.ln
 refine Wp.go (VG T.nd ⋯) ?_
 rintro _ Z3 ⟨rfl, g3⟩
 refine Wp.go (RG T.start_nd ⋯ T.tn) ?_
 rintro _ Z4 ⟨⟨a, rfl, ha⟩, g4⟩
 try walk_at "mi"
 have ag := T.ag
 refine ⟨⋯, ?_⟩
 refine Wp.go (RD ha ⋯ ag) ?_
 rintro _ Z5 ⟨rfl, g5⟩
 refine Wp.go (Yy (g5.at_ _ _ ha) (by rw [length_map]; omega) (YK T.nd) fun q hq => ?_) ?_
 ·obtain ⟨p, hp, rfl⟩ := mem_map.mp hq
  exact YJ (ag p hp)
 rintro _ Z6 ⟨rfl, g6⟩
 refine ⟨⋯, ⋯, ?_⟩
 rw [show D.tup [D.tup [D.tup [D.int 0, D.int 1], D.tup (bPr (M6 (CN (Bx ps) ps) (ps.map (BW (CN (Bx ps) ps))))), D.non, D.tpl (Gq.prD (Bx ps))]] = D.tup [rowD ps] from rfl]
 simp only [r_deep]
 walk_at "mi"
 refine Wp.go (VD T) ?_
 rintro _ Z7 ⟨rfl, g7⟩
 obtain ⟨P2, hP2, hR2⟩ := (row_z T).repr ⋯ ⋯
 rw [Qg (hP2 Z7) hR2, Qg (hP2 Z7) hR2]
 walk_at "mi"
 rw [Qg (hP Z7) hR]
 walk_at "mi"
 exact k _ _ _ _ _ _ _ (((((w2.gr g3).gr g4).gr g5).gr g6).gr g7 |>.up ⋯)
end
theorem Y0 {ns : List Int} {E : Ex -> List O -> Prop} (h : ns.length <= 63) : Wp (Ze [scr ns]) [] (fun r _ => r = .bl true) E := by
 have hs := sizeLine_eq
 unfold Ze c_law
 walk_at "mi"
 refine Wp.go (RK h) ?_
 rintro _ Z1 ⟨l, o, rfl, w1, g1, _, _⟩
 rw [show lenD [scr ns] = M.ret (.int (((ns.map D.int).length : Nat) : Int)) from rfl, Aj, length_map]
 walk_at "mi"
 obtain ⟨m, hm, em⟩ : ∃ m : Nat, m <= 12 /\ (2 + if ((ns.length : Nat) : Int) < 10 then ((ns.length : Nat) : Int) else 10) = (m : Int) := by
  split
  ·exact ⟨2 + ns.length, ⋯, ⋯⟩
  ·exact ⟨12, ⋯, ⋯⟩
 rw [em]
 refine ⟨by unfold ok62; omega, ?_⟩
 rw [show ((m : Int)).toNat = m by omega]
 refine Qc (fun i Y Z' => (∃ x2 x3 x4 x5 x6 x7 x8, Y = [some (scr ns), some (.ref l), x2, x3, x4, x5, x6, x7, x8]) /\ Pot Z' l o (400 * i)) ⟨⟨_, _, _, _, _, _, _, rfl⟩, w1⟩ ?_ ?_
 ·rintro i _ Z' hi ⟨⟨x2, x3, x4, x5, x6, x7, x8, rfl⟩, w⟩
  refine ⟨_, _, rfl, ?_⟩
  dsimp only [set_cons_succ, set_cons_zero]
  exact Hj w ⋯ fun Z3 y3 y4 y5 y6 y7 y8 w3 => ⟨⟨_, _, _, _, _, _, _, rfl⟩, w3.up ⋯⟩
 ·rintro Y Z' ⟨⟨x2, x3, x4, x5, x6, x7, x8, rfl⟩, w⟩
  walk_at "mi"
theorem law_true : ∀ ns : List Int, ns.length <= 63 -> ∃ Z', Ze [scr ns] [] = some (.ok (.bl true), Z') := by
 intro ns h
 obtain ⟨r, Z', e, q⟩ := Y0 (E := fun _ _ => False) h
 cases r with
 | error x => exact q.elim
 | ok d => exact ⟨Z', by rw [e, show d = .bl true from q]⟩
end Law
end
namespace Law
open PySem L2 PyProof.Rows Mi Lq Gq Tn
open Std hiding c_l_begin c_l_sum BP BJ
variable [Tb]
abbrev FnA (K : PySem.W.Frag) (mg : Str -> Option Value) (x : Str) (s : Stmt) : Prop := ∃ f fd, Fun K x x s f fd /\ mg x = some (.ref f)
structure Tx (K : PySem.W.Frag) (mg : Str -> Option Value) : Prop where
 b_abs : mg "abs" = none
 b_dict : mg "dict" = none
 b_enumerate : mg "enumerate" = none
 b_len : mg "len" = none
 b_list : mg "list" = none
 b_min : mg "min" = none
 b_range : mg "range" = none
 b_repr : mg "repr" = none
 b_sorted : mg "sorted" = none
 b_tuple : mg "tuple" = none
 c_COIL : ∃ u, mg "COIL" = some u /\ CR K k_COIL u
 c_KEEP : ∃ u, mg "KEEP" = some u /\ CR K k_KEEP u
 c_NOUGHT : ∃ u, mg "NOUGHT" = some u /\ CR K k_NOUGHT u
 c_ONE : ∃ u, mg "ONE" = some u /\ CR K k_ONE u
 c_TURN : ∃ u, mg "TURN" = some u /\ CR K k_TURN u
 d_l_begin : FnA K mg "_law_begin" G5
 d_l_take : FnA K mg "_law_take" Io
 d_l_of : FnA K mg "_law_of" R8
 d_l_names : FnA K mg "_law_names" G4
 d_l_fraction : FnA K mg "_law_fraction" DP
 d_l_above : FnA K mg "_law_above" G6
 d_l_any : FnA K mg "_law_any" Lj
 d_l_sum : FnA K mg "_law_sum" Lg
 d_l_turn : FnA K mg "_law_turn" Il
 d_l_conducting : FnA K mg "_law_conducting" CV
 d_l_net : FnA K mg "_law_net" Lh
 d_l_start : FnA K mg "_law_start" G3
 d_l_is_below : FnA K mg "_law_is_below" DN
 d_l_wishes : FnA K mg "_law_wishes" Fy
 d_l_against : FnA K mg "_law_against" Et
 d_l_told : FnA K mg "_law_told" Im
 d_l_over_all : FnA K mg "_law_over_all" DK
 d_start : FnA K mg "start" La
 d_turns_of : FnA K mg "turns_of" Fw
 d_less : FnA K mg "less" R6
 d_wishes_on : FnA K mg "wishes_on" Ep
 d_turned_over : FnA K mg "turned_over" Di
 d_all_turned : FnA K mg "all_turned" DQ
 d_step : FnA K mg "step" R3
 d_shared_by : FnA K mg "shared_by" Es
 d_times : FnA K mg "times" KZ
 d_over : FnA K mg "over" R5
 d_plus : FnA K mg "plus" R4
 d_minus : FnA K mg "minus" Lf
 d_share_of : FnA K mg "share_of" Fx
 d_first_shares : FnA K mg "first_shares" CW
 d_state_between : FnA K mg "state_between" Cu
 d_turned : FnA K mg "turned" Ik
 d_law : FnA K mg "law" R7
abbrev Kn : Kno := fun P _ K mg base => Tx K mg /\ SysOk P base
theorem ig_COIL : Uu Kn "COIL" k_COIL := Zk fun _ _ _ _ _ h => h.1.c_COIL
theorem ig_KEEP : Uu Kn "KEEP" k_KEEP := Zk fun _ _ _ _ _ h => h.1.c_KEEP
theorem Zr : Uu Kn "NOUGHT" k_NOUGHT := Zk fun _ _ _ _ _ h => h.1.c_NOUGHT
theorem ig_ONE : Uu Kn "ONE" k_ONE := Zk fun _ _ _ _ _ h => h.1.c_ONE
theorem Zq : Uu Kn "TURN" k_TURN := Zk fun _ _ _ _ _ h => h.1.c_TURN
local macro_rules | `(tactic| walk_at "sc") => `(tactic| exact ⟨rfl, rfl, rfl, ∅, rfl, ∅, ∅⟩)
theorem knG {x : Str} {st : Stmt} {N ps : List Str} {k : Nat} {c : CB} (d : ∀ P w K mg base, Kn P w K mg base -> ∃ f fd, Fun K x x st f fd /\ mg x = some (.ref f)) (S : FnScope N ps (defScope st)) (g : GB Kn k c) (hc : c.chk ⟨N, defScope st, nlam⟩ (defBody st) = true)
  (b : ∀ {K : PySem.W.Frag} {f : Addr} {fd : FuncData}, Fun K x x st f fd -> Binds K fd ps []) : Knw Kn x ps (mir N.length ps.length c.run) (k + 1) := fun P w K mg base h => by
 obtain ⟨f, fd, F, hm⟩ := d P w K mg base h
 exact ⟨f, fd, fnG (Kn := Kn) F S h h.2 g hc, hm, F.kp, b F⟩
def gb0 {k : Nat} {a : CA} (h : GA Kn k a) := g_B ok_len (fun _ _ _ _ _ h => h.1.b_len) ∅ ∅ ∅ h
def gb1 {k : Nat} {a : CA} (h : GA Kn k a) := g_B ok_abs (fun _ _ _ _ _ h => h.1.b_abs) ∅ ∅ ∅ h
def gb2 {k : Nat} {a : CA} (h : GA Kn k a) := g_Ty ok_listX (fun _ _ _ _ _ h => h.1.b_list) ∅ ∅ ∅ h
def gb3 {k : Nat} {a : CA} (h : GA Kn k a) := g_Ty ok_tuple (fun _ _ _ _ _ h => h.1.b_tuple) ∅ ∅ ∅ h
def gb4 {k : Nat} {a : CA} (h : GA Kn k a) := g_Ty ok_tpl (fun _ _ _ _ _ h => h.1.b_tuple) ∅ ∅ ∅ h
def gb5 {k : Nat} {a : CA} (h : GA Kn k a) := g_B ok_sortG (fun _ _ _ _ _ h => h.1.b_sorted) ∅ ∅ ∅ h
def gb6 {k : Nat} {a : CA} (h : GA Kn k a) := g_Ty ok_dictL (fun _ _ _ _ _ h => h.1.b_dict) ∅ ∅ ∅ h
def gb7 {k : Nat} {a : CA} (h : GA Kn k a) := g_B ok_min (fun _ _ _ _ _ h => h.1.b_min) ∅ ∅ ∅ h
def gb8 {k : Nat} {a : CA} (h : GA Kn k a) := g_B ok_repr (fun _ _ _ _ _ h => h.1.b_repr) ∅ ∅ ∅ h
theorem Ww : GB Kn 0 c_l_begin := (Ag (Jd (Bb Dc (gb0 (Ac Ad Ah)) Ai) (Fq Ah)) (Ag (Pq (Xn (Ar Cj (Ar Cj Dq))) (g_iEn (fun _ _ _ _ _ h => h.1.b_enumerate) (Mr Ad Zv (SQ Ai))) (Ag (Bc Cj (Bb Hw (Bb Dc (Bb Dc (Bb Ca Ad Ai) (Bb Hw Ad (Bb UV Ai Ai))) (Bb Ca Ai Ad)) Ai)) (Ag (Je (BL ok_ge (gb1 (Ac Ad Ah)) (Bb UV Ai Ai)) (Ag (Do (g_m Cz FP Ad (Ac (Bb Hw (gb1 (Ac Ad Ah)) (Bb Ca (Bb UV Ai Ai) (Bb UV Ai Ai))) Ah))) Aq) Aq) Aq))) (Ag (Bj (Fq (Ac Ad (Ac Ad (Ac Ai Ah))))) Aq)))
theorem Xi : Knw Kn "_law_begin" ["_law_script"] BP 1 := knG (N := ["_law_script", "_law_seed", "_law_own", "_law_k", "_law_cell"]) (fun _ _ _ _ _ h => h.1.d_l_begin) (by walk_at "sc") Ww ∅ fun F => F.binds fun _ _ _ _ _ _ => len1 fun _ => rfl
theorem YS : GB Kn 0 c_l_take := (Ag (QW (GW.t (g_and (BL ok_nen (Bf Ad Ai) (Fq Ah)) (Vn (BL LC (Bf (Bf Ad Ai) Ai) Ai)))) (Ag (Do (g_m k_pop TQ (Bf Ad Ai) (Ac Ai Ah))) Aq)) (Ag (Je (BL ok_nen (Bf Ad Ai) (Fq Ah)) (Ag (Bc Cj (Bb Hw (Bf (Bf Ad Ai) Ai) Ad)) (Ag (Bc (g_gS (Bf Ad Ai) Ai) (Bb Dk (Bf (Bf Ad Ai) Ai) Ad)) (Ag (Bj Ad) Aq))) Aq) (Ag (Bc (g_gS Ad Ai) (Bb Dc (Bf Ad Ai) Ai)) (Ag (Bc Cj (Bb Hw (Bb Ca (Bb Dc (Bb Dc (Bf Ad Ai) (Bb Ca (Bb Ca Ai (Bf Ad Ai)) (Bf Ad Ai))) Ai) Ai) Ai)) (Ag (Bc Cj (Bb Hw (Bb Ca Ad (Bb Dc (Bb Hw Ad Ai) (Bb Ca Ai (Bf Ad Ai)))) Ai)) (Ag (Bj (Bb Hw (Bb Dc (Bb Dk Ad Ai) (Bb Dk Ad Ai)) Ad)) Aq))))))
theorem Br : Knw Kn "_law_take" ["_law_pot", "_law_width"] Be 1 := knG (N := ["_law_pot", "_law_width", "_law_mixed", "_law_digit"]) (fun _ _ _ _ _ h => h.1.d_l_take) (by walk_at "sc") YS ∅ fun F => F.binds fun _ _ _ _ _ _ => OJ fun _ _ => rfl
theorem ok_l_of : GB Kn 1 c_l_of := (Ag (Bj (Bf Ad (Ao (Br.up ∅) (Ac Ad (Ac (gb0 (Ac Ad Ah)) Ah))))) Aq)
theorem Fp : Knw Kn "_law_of" ["_law_pot", "_law_some"] Dd 2 := knG (N := ["_law_pot", "_law_some"]) (fun _ _ _ _ _ h => h.1.d_l_of) (by walk_at "sc") ok_l_of ∅ fun F => F.binds fun _ _ _ _ _ _ => OJ fun _ _ => rfl
theorem Wv : GB Kn 2 c_l_names := (Ag (Bc Cj (gb2 (Ac Ea Ah))) (Ag (Bc Cj (g_m k_join ok_join Ea (Ac (XH (Xl (fun _ _ _ _ _ h => h.1.b_range) (Ao (Fp.up ∅) (Ac Ad (Ac (Fq (Ac Ai (Ac Ai (Ac Ai (Ac Ai Ah))))) Ah)))) (M3 ∅) Pr (Ao (Fp.up ∅) (Ac Ad (Ac Ea Ah)))) Ah))) (Ag (Jd (Ao (Br.up ∅) (Ac Ad (Ac (Bb Dc (gb0 (Ac Ad Ah)) Ai) Ah))) (Fq Ah)) (Ag (Pq Cj (Xl (fun _ _ _ _ _ h => h.1.b_range) Ad) (Ag (Do (g_m Cz FP Ad (Ac (Bb Dc (Bb Dc (Mr Ad Zv (SQ Ad)) (g_m k_pop TQ Ad (Ac (Ao (Br.up ∅) (Ac Ad (Ac (gb0 (Ac Ad Ah)) Ah))) Ah))) (Mr Ad (SQ Ad) Zv)) Ah))) Aq)) (Ag (Bj Ad) Aq)))))
theorem Pg : Knw Kn "_law_names" ["_law_pot", "_law_width"] GD 3 := knG (N := ["_law_pot", "_law_width", "_law_letters", "_law_stem", "_law_k", "_law_spot", "_law_found"]) (fun _ _ _ _ _ h => h.1.d_l_names) (by walk_at "sc") Wv ∅ fun F => F.binds fun _ _ _ _ _ _ => OJ fun _ _ => rfl
theorem Q6 : GB Kn 0 c_l_fraction := (Ag (Jd (gb1 (Ac Ad Ah)) (gb1 (Ac Ad Ah))) (Ag (QW (BL ok_gt Ad Ai) (Ag (Jd Ad (Bb Hw Ad Ad)) Aq)) (Ag (Bc Cj (g_if (BL ok_gt Ad Ai) Ai (QZ Ai))) (Ag (Bj (Ay (Ac (Bb Dk (Bb Ca Ad Ad) Ad) (Ac (Bb Dk (Bb Ca Ad Ad) Ad) Ah)))) Aq))))
theorem Ek : Knw Kn "_law_fraction" ["_law_p", "_law_q"] Cv 1 := knG (N := ["_law_p", "_law_q", "_law_sign", "_law_one", "_law_other"]) (fun _ _ _ _ _ h => h.1.d_l_fraction) (by walk_at "sc") Q6 ∅ fun F => F.binds fun _ _ _ _ _ _ => OJ fun _ _ => rfl
theorem Wx : GB Kn 2 c_l_above := (Ag (Bj (Ao (Ek.up ∅) (Ac (Bb Dc Ai (Ao (Fp.up ∅) (Ac Ad (Ac (Fq (Ac Ai (Ac Ai (Ac Ai (Ac Ai (Ac Ai (Ac (Ao (Br.up ∅) (Ac Ad (Ac Ai Ah))) Ah))))))) Ah)))) (Ac (Bb Dc Ai (Ao (Fp.up ∅) (Ac Ad (Ac (Fq (Ac Ai (Ac Ai (Ac Ai (Ac Ai (Ac Ai Ah)))))) Ah)))) Ah)))) Aq)
theorem Ci : Knw Kn "_law_above" ["_law_pot"] BK 3 := knG (N := ["_law_pot"]) (fun _ _ _ _ _ h => h.1.d_l_above) (by walk_at "sc") Wx ∅ fun F => F.binds fun _ _ _ _ _ _ => len1 fun _ => rfl
theorem ok_l_any : GB Kn 3 c_l_any := (Ag (Bc (Xn (Ar Cj (Ar Cj Dq))) (Ao (Ci.up ∅) (Ac Ad Ah))) (Ag (Bj (Bf (Fq (Ac (Ay (Ac Ad (Ac Ad Ah))) (Ac (Ay (Ac Ad (Ac Ad Ah))) (Ac (Ay (Ac (QZ Ad) (Ac Ad Ah))) (Ac (Ay (Ac Ai (Ac Ai Ah))) Ah))))) (Ao (Br.up ∅) (Ac Ad (Ac Ai Ah))))) Aq))
theorem Vh : Knw Kn "_law_any" ["_law_pot"] Mg 4 := knG (N := ["_law_pot", "_law_p", "_law_q"]) (fun _ _ _ _ _ h => h.1.d_l_any) (by walk_at "sc") ok_l_any ∅ fun F => F.binds fun _ _ _ _ _ _ => len1 fun _ => rfl
theorem ok_l_sum : GB Kn 1 c_l_sum := (Ag (Bj (Ao (Ek.up ∅) (Ac (Bb Dc (Bb Ca (Bf Ad Ai) (Bf Ad Ai)) (Bb Ca (Bf Ad Ai) (Bf Ad Ai))) (Ac (Bb Ca (Bf Ad Ai) (Bf Ad Ai)) Ah)))) Aq)
theorem QQ : Knw Kn "_law_sum" ["_law_a", "_law_b"] BJ 2 := knG (N := ["_law_a", "_law_b"]) (fun _ _ _ _ _ h => h.1.d_l_sum) (by walk_at "sc") ok_l_sum ∅ fun F => F.binds fun _ _ _ _ _ _ => OJ fun _ _ => rfl
theorem YM : GB Kn 2 c_l_turn := (Ag (Bc Cj (Ao (QQ.up ∅) (Ac Ad (Ac (Ao (Fp.up ∅) (Ac Ad (Ac (Fq (Ac (Ay (Ac (QZ Ai) (Ac Ai Ah))) (Ac (Ay (Ac (QZ Ai) (Ac Ai Ah))) (Ac (Ay (Ac (QZ Ai) (Ac Ai Ah))) (Ac (Ay (Ac Ai (Ac Ai Ah))) (Ac (Ay (Ac Ai (Ac Ai Ah))) (Ac (Ay (Ac (QZ Ai) (Ac Ai Ah))) Ah))))))) Ah))) Ah)))) (Ag (Bc Cj (Ao (QQ.up ∅) (Ac Ad (Ac (Ao (Fp.up ∅) (Ac Ad (Ac (Fq (Ac (Ay (Ac Ai (Ac Ai Ah))) (Ac (Ay (Ac Ai (Ac Ai Ah))) (Ac (Ay (Ac Ai (Ac Ai Ah))) (Ac (Ay (Ac Ai (Ac Ai Ah))) Ah))))) Ah))) Ah)))) (Ag (Bj (Ay (Ac Ea (Ac Ad (Ac Ad (Ac (Ay (Ac Ad (Ac Ad (Ac Ad (Ac (g_cmp LC (Ao (Br.up ∅) (Ac Ad (Ac Ai Ah))) Ai) Ah))))) Ah)))))) Aq)))
theorem Ml : Knw Kn "_law_turn" ["_law_pot", "_law_name", "_law_knots", "_law_watched", "_law_value"] Hm 3 := knG (N := ["_law_pot", "_law_name", "_law_knots", "_law_watched", "_law_value", "_law_low", "_law_high"]) (fun _ _ _ _ _ h => h.1.d_l_turn) (by walk_at "sc") YM ∅ fun F => F.binds fun _ _ _ _ _ _ => len5 fun _ _ _ _ _ => rfl
theorem Ly : GB Kn 3 c_l_conducting := (Ag (Je (BL ok_gt (Ao (Br.up ∅) (Ac Ad (Ac Ai Ah))) Ai) (Ag (Bj (Ay (Ac Ea (Ac Ad (Ac Ad (Ac (Ay (Ac (Ao (Ci.up ∅) (Ac Ad Ah)) Ah)) Ah)))))) Aq) Aq) (Ag (Bc Cj (Ao (Ek.up ∅) (Ac (Bb ok_sub (Ao (Br.up ∅) (Ac Ad (Ac Ai Ah))) Ai) (Ac (Bb Dc Ai (Ao (Br.up ∅) (Ac Ad (Ac Ai Ah)))) Ah)))) (Ag (Bc Cj (Fq (Ac (Ay (Ac Ad (Ac (Ao (Ci.up ∅) (Ac Ad Ah)) Ah))) Ah))) (Ag (Je (BL LC (Ao (Br.up ∅) (Ac Ad (Ac Ai Ah))) Ai) (Ag (Do (g_m Cz FP Ad (Ac (Ay (Ac (Ao (QQ.up ∅) (Ac Ad (Ac (Ao (Fp.up ∅) (Ac Ad (Ac (Fq (Ac (Ay (Ac Ai (Ac Ai Ah))) (Ac (Ay (Ac Ai (Ac Ai Ah))) (Ac (Ay (Ac Ai (Ac Ai Ah))) Ah)))) Ah))) Ah))) (Ac (Ao (Ci.up ∅) (Ac Ad Ah)) Ah))) Ah))) Aq) Aq) (Ag (Bj (Ay (Ac Ea (Ac Ad (Ac Ad (Ac (Ay (Ac (Ao (Ci.up ∅) (Ac Ad Ah)) (Ac (gb3 (Ac Ad Ah)) Ah))) Ah)))))) Aq)))))
theorem Ez : Knw Kn "_law_conducting" ["_law_pot", "_law_name", "_law_knots"] Cg 4 := knG (N := ["_law_pot", "_law_name", "_law_knots", "_law_edge", "_law_edges"]) (fun _ _ _ _ _ h => h.1.d_l_conducting) (by walk_at "sc") Ly ∅ fun F => F.binds fun _ _ _ _ _ _ => len3 fun _ _ _ => rfl
theorem ok_l_net : GB Kn 4 c_l_net := (Ag (g_sPar3 (Ao (Pg.up ∅) (Ac Ad (Ac Ai Ah))) (Ao (Pg.up ∅) (Ac Ad (Ac Ai Ah))) (Ao (Br.up ∅) (Ac Ad (Ac Ai Ah)))) (Ag (g_sAsg2 (g_gL (Ar Cj (Ar Cj Dq))) (XH (Xl (fun _ _ _ _ _ h => h.1.b_range) Ai) (M3 ∅) Pr (Ao (Ek.up ∅) (Ac (Bb ok_sub (Ao (Br.up ∅) (Ac Ad (Ac Ai Ah))) Ai) (Ac (Bb Dc Ai (Ao (Br.up ∅) (Ac Ad (Ac Ai Ah)))) Ah))))) (Ag (Bc Cj (Fq (Ac (Ay (Ac Ea (Ac (Bf Ad Ai) (Ac (Ay (Ac Ea (Ac (Bf Ad Ai) Ah))) (Ac (Ay (Ac (Ao (Vh.up ∅) (Ac Ad Ah)) Ah)) Ah))))) (Ac (Ay (Ac Ea (Ac (Bf Ad Ai) (Ac (Ay (Ac (Bf Ad Ai) (Ac Ea Ah))) (Ac (Ay (Ac (Ao (Ci.up ∅) (Ac Ad Ah)) Ah)) Ah))))) Ah)))) (Ag (Je (BL LC (Ao (Br.up ∅) (Ac Ad (Ac Ai Ah))) Ai) (Ag (Bc Cj (Fq (Ac (Ay (Ac Ea (Ac (Bf Ad Ai) (Ac (Ay (Ac (Bf Ad Ai) (Ac Ea Ah))) (Ac (Ay (Ac (Ao (Vh.up ∅) (Ac Ad Ah)) Ah)) Ah))))) (Ac (Ay (Ac Ea (Ac (Bf Ad Ai) (Ac (Ay (Ac (Bf Ad Ai) (Ac (Bf Ad Ai) Ah))) (Ac (Ay (Ac (Ao (Ci.up ∅) (Ac Ad Ah)) Ah)) Ah))))) Ah)))) Aq) Aq) (Ag (Do (g_m Cz FP Ad (Ac (Ay (Ac Ea (Ac (Bf Ad Ai) (Ac (Ao (Fp.up ∅) (Ac Ad (Ac (Fq (Ac (Ay (Ac (Bf Ad Ai) (Ac Ea Ah))) (Ac (Ay (Ac Ea (Ac (Bf Ad Ai) Ah))) Ah))) Ah))) (Ac (Ay (Ac (Ao (Ci.up ∅) (Ac Ad Ah)) (Ac Ad Ah))) Ah))))) Ah))) (Ag (Do (g_m Cz FP Ad (Ac (Ao (Ml.up ∅) (Ac Ad (Ac (Bf Ad Ai) (Ac (Ay (Ac (Bf Ad Ai) (Ac (Bf Ad Ai) Ah))) (Ac (Bf Ad Ai) (Ac Ad Ah)))))) Ah))) (Ag (Do (g_m Cz FP Ad (Ac (Ao (Ez.up ∅) (Ac Ad (Ac (Bf Ad Ai) (Ac (Ay (Ac (Bf Ad Ai) (Ac Ea Ah))) Ah)))) Ah))) (Ag (Je (BL ok_lt Ad Ai) (Ag (Do (g_m Cz FP Ad (Ac (Ao (Ez.up ∅) (Ac Ad (Ac (Bf Ad Ai) (Ac (Ay (Ac (Bf Ad Ai) (Ac (Bf Ad Ai) Ah))) Ah)))) Ah))) (Ag (Bc Cj (Ao (Fp.up ∅) (Ac Ad (Ac (Fq (Ac (Ay (Ac (Bf Ad Ai) (Ac Ea Ah))) (Ac (Ay (Ac Ea (Ac (Bf Ad Ai) Ah))) (Ac (Ay (Ac (Bf Ad Ai) (Ac (Bf Ad Ai) Ah))) (Ac (Ay (Ac (Bf Ad Ai) (Ac (Bf Ad Ai) Ah))) Ah))))) Ah)))) (Ag (Do (g_m Cz FP Ad (Ac (Ay (Ac (Bf (Fq (Ac Ea (Ac Ea Ah))) Ad) (Ac (Bf Ad Ai) (Ac Ad (Ac (Ay (Ac (Ao (Ci.up ∅) (Ac Ad Ah)) (Ac Ad Ah))) Ah))))) Ah))) (Ag (Bc (Xn (Ar Cj (Ar Cj Dq))) (Ao (Fp.up ∅) (Ac Ad (Ac (Fq (Ac (Ay (Ac (Bf Ad Ai) (Ac Ad Ah))) (Ac (Ay (Ac (Bf Ad Ai) (Ac Ad Ah))) (Ac (Ay (Ac (Bf Ad Ai) (Ac Ad Ah))) Ah)))) Ah)))) (Ag (Do (g_m Cz FP Ad (Ac (Ao (Ml.up ∅) (Ac Ad (Ac (Bf Ad Ai) (Ac (Ay (Ac (Bf Ad Ai) (Ac (Bf Ad Ai) Ah))) (Ac Ad (Ac Ad Ah)))))) Ah))) Aq))))) Aq) (Ag (Je (BL ok_ge Ad Ai) (Ag (Bc Cj (Ay (Ac Ea (Ac (Bf Ad Ai) (Ac (Ay (Ac (Bf Ad Ai) (Ac (Bf Ad Ai) Ah))) (Ac (Ay (Ac (g_cmp LC (Ao (Br.up ∅) (Ac Ad (Ac Ai Ah))) Ai) Ah)) Ah)))))) (Ag (Do (g_m Cz FP Ad (Ac (g_if (BL LC Ad Ai) (Ao (Ml.up ∅) (Ac Ad (Ac (Bf Ad Ai) (Ac (Ay (Ac (Bf Ad Ai) (Ac (Bf Ad Ai) Ah))) (Ac (Bf Ad Ai) (Ac Ad Ah)))))) Ad) Ah))) (Ag (Do (g_m Cz FP Ad (Ac (Ao (Ez.up ∅) (Ac Ad (Ac (Bf Ad Ai) (Ac (Ay (Ac (Bf Ad Ai) (Ac Ea Ah))) Ah)))) Ah))) Aq))) Aq) (Ag (Bj (gb3 (Ac (XH (Xl (fun _ _ _ _ _ h => h.1.b_range) (gb0 (Ac Ad Ah))) (M3 ∅) Pr (g_m k_pop TQ Ad (Ac (Ao (Br.up ∅) (Ac Ad (Ac (gb0 (Ac Ad Ah)) Ah))) Ah))) Ah))) Aq))))))))))
theorem kn_l_net : Knw Kn "_law_net" ["_law_pot"] Mf 5 := knG (N := ["_law_pot", "_law_parts", "_law_n", "_law_k", "_law_way", "_law_first", "_law_second", "_law_ends", "_law_switch", "_law_turn_here", "_law_watched", "_law_value"]) (fun _ _ _ _ _ h => h.1.d_l_net) (by walk_at "sc") ok_l_net ∅ fun F => F.binds fun _ _ _ _ _ _ => len1 fun _ => rfl
theorem Wu : GB Kn 0 c_l_start := (Ag (Bj (gb4 (Ac (gb5 (Ac (XH (Vm Ad) (c_gT (De (M3 ∅) (De (M3 ∅) (De (M3 ∅) (De (M3 ∅) Rh))))) (Jf (BL YT Ad (Ay (Ac Ea (Ac Ea Ah))))) (Ay (Ac Ad (Ac (Bf Ad Ai) Ah)))) Ah)) Ah))) Aq)
theorem Xh : Knw Kn "_law_start" ["_law_parts"] G9 1 := knG (N := ["_law_parts", "_law_kind", "_law_name", "_law_knots", "_law_values"]) (fun _ _ _ _ _ h => h.1.d_l_start) (by walk_at "sc") Wu ∅ fun F => F.binds fun _ _ _ _ _ _ => len1 fun _ => rfl
theorem Q5 : GB Kn 0 c_l_is_below := (Ag (Bj (g_cmp ok_lt (Bb Ca (Bf Ad Ai) (Bf Ad Ai)) (Bb Ca (Bf Ad Ai) (Bf Ad Ai)))) Aq)
theorem IW : Knw Kn "_law_is_below" ["_law_a", "_law_b"] DW 1 := knG (N := ["_law_a", "_law_b"]) (fun _ _ _ _ _ h => h.1.d_l_is_below) (by walk_at "sc") Q5 ∅ fun F => F.binds fun _ _ _ _ _ _ => OJ fun _ _ => rfl
theorem TV : GB Kn 1 c_l_wishes := (Ag (Bc (Xn (Ar Cj (Ar Cj (Ar Cj (Ar Cj Dq))))) (Bf Ad Ai)) (Ag (Bc Cj (Bf (gb6 (Ac Ad Ah)) Ad)) (Ag (Bj (g_vor (g_not (Ao (IW.up ∅) (Ac Ad (Ac Ad Ah)))) (Zu (g_vand Ad (Zu (Ao (IW.up ∅) (Ac Ad (Ac Ad Ah)))))))) Aq)))
theorem Uc : Knw Kn "_law_wishes" ["_law_part", "_law_state"] Hl 2 := knG (N := ["_law_part", "_law_state", "_law_value", "_law_watched", "_law_low", "_law_high", "_law_stands"]) (fun _ _ _ _ _ h => h.1.d_l_wishes) (by walk_at "sc") TV ∅ fun F => F.binds fun _ _ _ _ _ _ => OJ fun _ _ => rfl
theorem Sd : GB Kn 2 c_l_against := (Ag (QX (Vm Ad) (M3 ∅) (Jf (BL LC (Bf Ad Ai) Ea)) Ad) (Ag (Bj (XH (Vm Ad) (M3 ∅) (Jf (BL Wt (Ao (Uc.up ∅) (Ac Ad (Ac Ad Ah))) (Bf (Bf Ad Ai) Ai))) (Bf Ad Ai))) Aq))
theorem SJ : Knw Kn "_law_against" ["_law_parts", "_law_state"] Ey 3 := knG (N := ["_law_parts", "_law_state", "_law_some", "_law_part"]) (fun _ _ _ _ _ h => h.1.d_l_against) (by walk_at "sc") Sd ∅ fun F => F.binds fun _ _ _ _ _ _ => OJ fun _ _ => rfl
theorem YQ : GB Kn 0 c_l_told := (Ag (Bj (gb3 (Ac (gb5 (Ac (XH (Vm Ad) (c_gT (De (M3 ∅) (De (M3 ∅) (De (M3 ∅) (De (M3 ∅) Rh))))) (Jf (BL YT Ad Ad)) (Ay (Ac Ad (Ac (Bf Ad Ai) Ah)))) Ah)) Ah))) Aq)
theorem Zi : Knw Kn "_law_told" ["_law_parts", "_law_names_here"] IK 1 := knG (N := ["_law_parts", "_law_names_here", "_law_kind", "_law_name", "_law_knots", "_law_values"]) (fun _ _ _ _ _ h => h.1.d_l_told) (by walk_at "sc") YQ ∅ fun F => F.binds fun _ _ _ _ _ _ => OJ fun _ _ => rfl
theorem Q4 : GB Kn 0 c_l_over_all := (Ag (Bc Cj (Fq Ah)) (Ag (Pq (Xn (Ar Cj (Ar Cj (Ar Cj (Ar Cj Dq))))) (Vm Ad) (Ag (Do (g_m Cz FP Ad (Ac (Ay (Ac Ad (Ac Ad (Ac Ad (Ac (g_if (BL YT Ad Ad) (Bb Dc (Mr Ad Zv (SQ Ai)) (Ay (Ac (g_not (Bf Ad Ai)) Ah))) Ad) Ah))))) Ah))) Aq)) (Ag (Bj (gb3 (Ac Ad Ah))) Aq)))
theorem QR : Knw Kn "_law_over_all" ["_law_parts", "_law_names_here"] DR 1 := knG (N := ["_law_parts", "_law_names_here", "_law_found", "_law_kind", "_law_name", "_law_knots", "_law_values"]) (fun _ _ _ _ _ h => h.1.d_l_over_all) (by walk_at "sc") Q4 ∅ fun F => F.binds fun _ _ _ _ _ _ => OJ fun _ _ => rfl
theorem ok_start : GB Kn 0 c_start := (Ag (Bj (gb4 (Ac (gb5 (Ac (XH (Vm Ad) (M3 ∅) (Jf (BL YT (Bf Ad Ai) (Ay (Ac (Xm ig_KEEP) (Ac (Xm ig_COIL) Ah))))) (Ay (Ac (Bf Ad Ai) (Ac (Bf (Bf Ad Ai) Ai) Ah)))) Ah)) Ah))) Aq)
theorem kn_start : Knw Kn "start" ["parts"] QD 1 := knG (N := ["parts", "part"]) (fun _ _ _ _ _ h => h.1.d_start) (by walk_at "sc") ok_start ∅ fun F => F.binds fun _ _ _ _ _ _ => len1 fun _ => rfl
theorem TF : GB Kn 0 c_turns_of := (Ag (Bj (XH (Vm Ad) (M3 ∅) (Jf (BL LC (Bf Ad Ai) (Xm Zq))) Ad)) Aq)
theorem HY : Knw Kn "turns_of" ["parts"] El 1 := knG (N := ["parts", "part"]) (fun _ _ _ _ _ h => h.1.d_turns_of) (by walk_at "sc") TF ∅ fun F => F.binds fun _ _ _ _ _ _ => len1 fun _ => rfl
theorem ok_less : GB Kn 0 c_less := (Ag (Bj (g_cmp ok_lt (Bb Ca (Bf Ad Ai) (Bf Ad Ai)) (Bb Ca (Bf Ad Ai) (Bf Ad Ai)))) Aq)
theorem Mj : Knw Kn "less" ["a", "b"] Iw 1 := knG (N := ["a", "b"]) (fun _ _ _ _ _ h => h.1.d_less) (by walk_at "sc") ok_less ∅ fun F => F.binds fun _ _ _ _ _ _ => OJ fun _ _ => rfl
theorem RW : GB Kn 1 c_wishes_on := (Ag (Bc (Xn (Ar Cj (Ar Cj (Ar Cj (Ar Cj Dq))))) (Bf Ad Ai)) (Ag (Bc Cj (Bf (gb6 (Ac Ad Ah)) Ad)) (Ag (Je (g_tnot (Mq (Ao (Mj.up ∅) (Ac Ad (Ac Ad Ah))))) (Ag (Bj g_bl) Aq) Aq) (Ag (Bj (g_vand Ad (Zu (Ao (Mj.up ∅) (Ac Ad (Ac Ad Ah)))))) Aq))))
theorem S9 : Knw Kn "wishes_on" ["part", "state"] Gh 2 := knG (N := ["part", "state", "value", "watched", "low", "high", "is_on"]) (fun _ _ _ _ _ h => h.1.d_wishes_on) (by walk_at "sc") RW ∅ fun F => F.binds fun _ _ _ _ _ _ => OJ fun _ _ => rfl
theorem M9 : GB Kn 0 c_turned_over := (Ag (Bc (Xn (Ar Cj (Ar Cj (Ar Cj (Ar Cj Dq))))) Ad) (Ag (Je (GW.t (g_or (BL Wt Ad (Xm Zq)) (g_or1 (BL ok_notin Ad Ad)))) (Ag (Bj Ad) Aq) Aq) (Ag (Bj (Ay (Ac Ad (Ac Ad (Ac Ad (Ac (Bb Dc (Mr Ad Zv (SQ Ai)) (Ay (Ac (g_not (Bf Ad Ai)) Ah))) Ah)))))) Aq)))
theorem MF : Knw Kn "turned_over" ["part", "names"] Ei 1 := knG (N := ["part", "names", "kind", "name", "knots", "values"]) (fun _ _ _ _ _ h => h.1.d_turned_over) (by walk_at "sc") M9 ∅ fun F => F.binds fun _ _ _ _ _ _ => OJ fun _ _ => rfl
theorem Q7 : GB Kn 1 c_all_turned := (Ag (Bc Cj (gb3 (Ac (XH (Vm Ad) (M3 ∅) Pr (Ao (MF.up ∅) (Ac Ad (Ac Ad Ah)))) Ah))) (Ag (Bj (Ay (Ac Ad (Ac (gb3 (Ac (gb5 (Ac (XH (Vm (Ao (HY.up ∅) (Ac Ad Ah))) (M3 ∅) (Jf (BL YT (Bf Ad Ai) Ad)) (Ay (Ac (Bf Ad Ai) (Ac (Bf (Bf Ad Ai) Ai) Ah)))) Ah)) Ah)) Ah)))) Aq))
theorem Ja : Knw Kn "all_turned" ["parts", "names"] DY 2 := knG (N := ["parts", "names", "found", "part"]) (fun _ _ _ _ _ h => h.1.d_all_turned) (by walk_at "sc") Q7 ∅ fun F => F.binds fun _ _ _ _ _ _ => OJ fun _ _ => rfl
theorem kn_step : Knw Kn "step" ["parts", "state", "h"] m_step 1 := fun P w K mg base h => by
 obtain ⟨f, fd, F, hm⟩ := h.1.d_step
 exact ⟨f, fd, fnG_stop, hm, F.kp, F.binds fun _ _ _ _ _ _ => len3 fun _ _ _ => rfl⟩
theorem RX : GB Kn 0 c_shared_by := (Ag (QW (BL Wt Ad Ai) (Ag (Jd Ad (Bb Hw Ad Ad)) Aq)) (Ag (Bj Ad) Aq))
theorem Fd : Knw Kn "shared_by" ["one", "other"] BZ 1 := knG (N := ["one", "other"]) (fun _ _ _ _ _ h => h.1.d_shared_by) (by walk_at "sc") RX ∅ fun F => F.binds fun _ _ _ _ _ _ => OJ fun _ _ => rfl
theorem ok_times : GB Kn 1 c_times := (Ag (Jd (Ao (Fd.up ∅) (Ac (gb1 (Ac (Bf Ad Ai) Ah)) (Ac (Bf Ad Ai) Ah))) (Ao (Fd.up ∅) (Ac (gb1 (Ac (Bf Ad Ai) Ah)) (Ac (Bf Ad Ai) Ah)))) (Ag (Bj (Ay (Ac (Bb Ca (Bb Dk (Bf Ad Ai) Ad) (Bb Dk (Bf Ad Ai) Ad)) (Ac (Bb Ca (Bb Dk (Bf Ad Ai) Ad) (Bb Dk (Bf Ad Ai) Ad)) Ah)))) Aq))
theorem QL : Knw Kn "times" ["a", "b"] Du 2 := knG (N := ["a", "b", "first", "second"]) (fun _ _ _ _ _ h => h.1.d_times) (by walk_at "sc") ok_times ∅ fun F => F.binds fun _ _ _ _ _ _ => OJ fun _ _ => rfl
theorem ok_over : GB Kn 2 c_over := (Ag (Je (BL LC (Bf Ad Ai) Ai) (Ag g_sNever Aq) Aq) (Ag (Bj (Ao (QL.up ∅) (Ac Ad (Ac (g_if (BL ok_gt (Bf Ad Ai) Ai) (Ay (Ac (Bf Ad Ai) (Ac (Bf Ad Ai) Ah))) (Ay (Ac (QZ (Bf Ad Ai)) (Ac (QZ (Bf Ad Ai)) Ah)))) Ah)))) Aq))
theorem kn_over : Knw Kn "over" ["a", "b"] Gp 3 := knG (N := ["a", "b"]) (fun _ _ _ _ _ h => h.1.d_over) (by walk_at "sc") ok_over ∅ fun F => F.binds fun _ _ _ _ _ _ => OJ fun _ _ => rfl
theorem ok_plus : GB Kn 1 c_plus := (Ag (Bc Cj (Ao (Fd.up ∅) (Ac (Bf Ad Ai) (Ac (Bf Ad Ai) Ah)))) (Ag (Je (BL LC Ad Ai) (Ag (Bj (Ay (Ac (Bb Dc (Bb Ca (Bf Ad Ai) (Bf Ad Ai)) (Bb Ca (Bf Ad Ai) (Bf Ad Ai))) (Ac (Bb Ca (Bf Ad Ai) (Bf Ad Ai)) Ah)))) Aq) Aq) (Ag (Bc Cj (Bb Dc (Bb Ca (Bf Ad Ai) (Bb Dk (Bf Ad Ai) Ad)) (Bb Ca (Bf Ad Ai) (Bb Dk (Bf Ad Ai) Ad)))) (Ag (Bc Cj (Ao (Fd.up ∅) (Ac (gb1 (Ac Ad Ah)) (Ac Ad Ah)))) (Ag (Bj (Ay (Ac (Bb Dk Ad Ad) (Ac (Bb Ca (Bb Dk (Bf Ad Ai) Ad) (Bb Dk (Bf Ad Ai) Ad)) Ah)))) Aq)))))
theorem Ub : Knw Kn "plus" ["a", "b"] JZ 2 := knG (N := ["a", "b", "shared", "top", "more"]) (fun _ _ _ _ _ h => h.1.d_plus) (by walk_at "sc") ok_plus ∅ fun F => F.binds fun _ _ _ _ _ _ => OJ fun _ _ => rfl
theorem ok_minus : GB Kn 2 c_minus := (Ag (Bj (Ao (Ub.up ∅) (Ac Ad (Ac (Ay (Ac (QZ (Bf Ad Ai)) (Ac (Bf Ad Ai) Ah))) Ah)))) Aq)
theorem QM : Knw Kn "minus" ["a", "b"] Eu 3 := knG (N := ["a", "b"]) (fun _ _ _ _ _ h => h.1.d_minus) (by walk_at "sc") ok_minus ∅ fun F => F.binds fun _ _ _ _ _ _ => OJ fun _ _ => rfl
theorem TJ : GB Kn 3 c_share_of := (Ag (Bc (Xn (Ar Cj (Ar Cj (Ar Cj (Ar Cj Dq))))) (Bf Ad Ai)) (Ag (Jd (Bf (gb6 (Ac Ad Ah)) Ad) (Bf (gb6 (Ac Ad Ah)) Ad)) (Ag (Je (GW.t (g_or (GW.t (g_and (Mq Ad) (Vn (Mq (Ao (Mj.up ∅) (Ac Ad (Ac Ad Ah))))))) (g_or1 (GW.t (g_and (g_tnot (Mq Ad)) (Vn (Mq (Ao (Mj.up ∅) (Ac Ad (Ac Ad Ah)))))))))) (Ag (Bj g_non) Aq) Aq) (Ag (Bj (Ao (kn_over.up ∅) (Ac (Ao (QM.up ∅) (Ac (g_if (Mq Ad) Ad Ad) (Ac Ad Ah))) (Ac (Ao (QM.up ∅) (Ac Ad (Ac Ad Ah))) Ah)))) Aq))))
theorem Ua : Knw Kn "share_of" ["part", "ahead", "behind"] O7 4 := knG (N := ["part", "ahead", "behind", "watched", "low", "high", "is_on", "begin", "end"]) (fun _ _ _ _ _ h => h.1.d_share_of) (by walk_at "sc") TJ ∅ fun F => F.binds fun _ _ _ _ _ _ => len3 fun _ _ _ => rfl
theorem Lz : GB Kn 4 c_first_shares := (Ag (QX (Vm (Ao (HY.up ∅) (Ac Ad Ah))) (M3 ∅) Pr (Ay (Ac (Bf Ad Ai) (Ac (Ao (Ua.up ∅) (Ac Ad (Ac Ad (Ac Ad Ah)))) Ah)))) (Ag (Bc Cj (Xm ig_ONE)) (Ag (Pq (Xn (Ar Cj (Ar Cj Dq))) (Vm Ad) (Ag (Je (GW.t (g_and (BL ok_isn Ad g_non) (Vn (Mq (Ao (Mj.up ∅) (Ac Ad (Ac Ad Ah))))))) (Ag (Bc Cj Ad) Aq) Aq) Aq)) (Ag (Bj (Ay (Ac Ad (Ac (XH (Vm Ad) (c_gT (De (M3 ∅) (De (M3 ∅) Rh))) (Jf (BL LC Ad Ad)) Ad) Ah)))) Aq))))
theorem Mp : Knw Kn "first_shares" ["parts", "ahead", "behind"] HD 5 := knG (N := ["parts", "ahead", "behind", "shares", "first", "name", "share", "part"]) (fun _ _ _ _ _ h => h.1.d_first_shares) (by walk_at "sc") Lz ∅ fun F => F.binds fun _ _ _ _ _ _ => len3 fun _ _ _ => rfl
theorem Kf : GB Kn 3 c_state_between := (Ag (Bc Cj (gb6 (Ac Ad Ah))) (Ag (Bj (gb3 (Ac (XH (Vm Ad) (c_gT (De (M3 ∅) (De (M3 ∅) Rh))) Pr (Ay (Ac Ad (Ac (Ao (Ub.up ∅) (Ac Ad (Ac (Ao (QL.up ∅) (Ac Ad (Ac (Ao (QM.up ∅) (Ac (Bf Ad Ad) (Ac Ad Ah))) Ah))) Ah))) Ah)))) Ah))) Aq))
theorem Kg : Knw Kn "state_between" ["ahead", "behind", "share"] G8 4 := knG (N := ["ahead", "behind", "share", "ends", "name", "value"]) (fun _ _ _ _ _ h => h.1.d_state_between) (by walk_at "sc") Kf ∅ fun F => F.binds fun _ _ _ _ _ _ => len3 fun _ _ _ => rfl
theorem YL : GB Kn 5 c_turned := (Ag (Bc Cj (Ao (kn_start.up ∅) (Ac Ad Ah))) (Ag (QX (Vm (Ao (HY.up ∅) (Ac Ad Ah))) (M3 ∅) (Jf (BL Wt (Ao (S9.up ∅) (Ac Ad (Ac Ad Ah))) (Bf (Bf Ad Ai) Ai))) (Bf Ad Ai)) (Ag (Bc (Xn (Ar Cj (Ar Cj Dq))) (Ao (Ja.up ∅) (Ac Ad (Ac Ad Ah)))) (Ag (Bc Cj (Xm Zr)) (Ag (Bc Cj (Fq (Ac (Ay (Ac Ad (Ac Ad (Ac g_non (Ac Ad Ah))))) Ah))) (Ag (Pq Cj (Xl (fun _ _ _ _ _ h => h.1.b_range) Ad) (Ag (Bc (Xn (Ar Cj (Ar Cj (Ar Cj Dq)))) (Ao (kn_step.up ∅) (Ac Ad (Ac Ad (Ac Ad Ah))))) (Ag (Bc (Xn (Ar Cj (Ar Cj Dq))) (Ao (Mp.up ∅) (Ac Ad (Ac Ad (Ac Ad Ah))))) (Ag (Bc (Xn (Ar Cj (Ar Cj Dq))) (Ao (Ja.up ∅) (Ac Ad (Ac Ad Ah)))) (Ag (Bc Cj (Ao (Kg.up ∅) (Ac Ad (Ac Ad (Ac Ad Ah))))) (Ag (Bc Cj (Ao (Ub.up ∅) (Ac Ad (Ac (Ao (QL.up ∅) (Ac Ad (Ac Ad Ah))) Ah)))) (Ag (Do (g_m Cz FP Ad (Ac (Ay (Ac Ad (Ac Ad (Ac Ad (Ac Ad Ah))))) Ah))) Aq))))))) (Ag (Bj (gb3 (Ac Ad Ah))) Aq)))))))
theorem Zh : Knw Kn "turned" ["parts", "h", "many"] Iu 6 := knG (N := ["parts", "h", "many", "state", "against", "now", "rows", "turn", "told", "part", "heights", "streams", "end", "share", "names"]) (fun _ _ _ _ _ h => h.1.d_turned) (by walk_at "sc") YL ∅ fun F => F.binds fun _ _ _ _ _ _ => len3 fun _ _ _ => rfl
theorem sc_law : FnScope ["_law_script", "_law_pot", "_law_turn_here", "_law_names_here", "_law_due", "_law_parts", "_law_h", "_law_kept", "_law_state"] ["_law_script"] (defScope R7) := by walk_at "sc"
theorem ok_law : GB Kn 6 c_law := (Ag (Bc Cj (Ao (Xi.up ∅) (Ac Ad Ah))) (Ag (Pq Cj (Xl (fun _ _ _ _ _ h => h.1.b_range) (Bb Dc Ai (gb7 (Ac Ai (Ac (gb0 (Ac Ad Ah)) Ah))))) (Ag (Jd (Ao (kn_l_net.up ∅) (Ac Ad Ah)) (Ao (Ci.up ∅) (Ac Ad Ah))) (Ag (Jd (gb8 (Ac Ad Ah)) (Ao (Xh.up ∅) (Ac Ad Ah))) (Ag (Bc Cj (Ao (SJ.up ∅) (Ac Ad (Ac Ad Ah)))) (Ag (Bc Cj (Ay (Ac (Ay (Ac (Ay (Ac Ai (Ac Ai Ah))) (Ac (Ao (Zi.up ∅) (Ac (Ao (QR.up ∅) (Ac Ad (Ac Ad Ah))) (Ac Ad Ah))) (Ac g_non (Ac Ad Ah))))) Ah))) (Ag (Je (GW.t (g_or (BL Wt (gb8 (Ac (g_deep (Ao (Zh.up ∅) (Ac Ad (Ac Ad (Ac Ai Ah))))) Ah)) (gb8 (Ac (g_deep Ad) Ah))) (g_or1 (BL Wt (gb8 (Ac Ad Ah)) Ad)))) (Ag (Bj g_bl) Aq) Aq) Aq)))))) (Ag (Bj g_bl) Aq)))
theorem ck_law : c_law.chk ⟨["_law_script", "_law_pot", "_law_turn_here", "_law_names_here", "_law_due", "_law_parts", "_law_h", "_law_kept", "_law_state"], defScope R7, nlam⟩ (defBody R7) = true := ∅
end Law
set_option maxHeartbeats 0
namespace Law
open PySem L2 PyProof.Rows Mi Lq Gq Tn
open Std hiding c_l_begin c_l_sum BP BJ
theorem hfacts {P : Program} {w : World} {K : PySem.W.Frag} {h : Heap} {mg : Str -> Option Value} {fa : Addr} (X : K.In h) (G : h.Ns mainGlobals mg) (hfa' : mg "law" = some (.ref fa)) (c : SaysM hfa hfn hcs K) :
  ∃ (fd : FuncData) (_ : Tb), Tb.T = [] /\ (∀ (s : Shared) (v : Value), BindsTo s fd ⟨[v], []⟩ [("_law_script", v)]) /\ ∀ base : Heap, K.In base -> base.Ns mainGlobals mg -> SysOk P base -> FnG P w K mg base 7 fa fd ["_law_script"] (Tv K mg Ze) := by
 letI tbI : Tb := { T := [], C := He.ga K, F := He.ga K }
 have T : Tx K mg := ⟨He.free_ok X G (c.e.fact 0 (f := .free "abs") rfl), He.free_ok X G (c.e.fact 1 (f := .free "dict") rfl), He.free_ok X G (c.e.fact 2 (f := .free "enumerate") rfl), He.free_ok X G (c.e.fact 3 (f := .free "len") rfl), He.free_ok X G (c.e.fact 4 (f := .free "list") rfl), He.free_ok X G (c.e.fact 5 (f := .free "min") rfl), He.free_ok X G (c.e.fact 6 (f := .free "range") rfl), He.free_ok X G (c.e.fact 7 (f := .free "repr") rfl), He.free_ok X G (c.e.fact 8 (f := .free "sorted") rfl), He.free_ok X G (c.e.fact 9 (f := .free "tuple") rfl), conB_ok X G (c.con 0 (p := ("COIL", k_COIL)) rfl), conB_ok X G (c.con 1 (p := ("KEEP", k_KEEP)) rfl), conB_ok X G (c.con 2 (p := ("NOUGHT", k_NOUGHT)) rfl), conB_ok X G (c.con 3 (p := ("ONE", k_ONE)) rfl), conB_ok X G (c.con 4 (p := ("TURN", k_TURN)) rfl), c.fun_ X G 0 10 11 (st := G5) rfl rfl rfl, c.fun_ X G 1 12 13 (st := Io) rfl rfl rfl, c.fun_ X G 2 14 15 (st := R8) rfl rfl rfl, c.fun_ X G 3 16 17 (st := G4) rfl rfl rfl, c.fun_ X G 4 18 19 (st := DP) rfl rfl rfl, c.fun_ X G 5 20 21 (st := G6) rfl rfl rfl, c.fun_ X G 6 22 23 (st := Lj) rfl rfl rfl, c.fun_ X G 7 24 25 (st := Lg) rfl rfl rfl, c.fun_ X G 8 26 27 (st := Il) rfl rfl rfl, c.fun_ X G 9 28 29 (st := CV) rfl rfl rfl, c.fun_ X G 10 30 31 (st := Lh) rfl rfl rfl, c.fun_ X G 11 32 33 (st := G3) rfl rfl rfl, c.fun_ X G 12 34 35 (st := DN) rfl rfl rfl, c.fun_ X G 13 36 37 (st := Fy) rfl rfl rfl, c.fun_ X G 14 38 39 (st := Et) rfl rfl rfl, c.fun_ X G 15 40 41 (st := Im) rfl rfl rfl, c.fun_ X G 16 42 43 (st := DK) rfl rfl rfl, c.fun_ X G 17 44 45 (st := La) rfl rfl rfl, c.fun_ X G 18 46 47 (st := Fw) rfl rfl rfl, c.fun_ X G 19 48 49 (st := R6) rfl rfl rfl, c.fun_ X G 20 50 51 (st := Ep) rfl rfl rfl, c.fun_ X G 21 52 53 (st := Di) rfl rfl rfl, c.fun_ X G 22 54 55 (st := DQ) rfl rfl rfl, c.fun_ X G 23 56 57 (st := R3) rfl rfl rfl, c.fun_ X G 24 58 59 (st := Es) rfl rfl rfl, c.fun_ X G 25 60 61 (st := KZ) rfl rfl rfl, c.fun_ X G 26 62 63 (st := R5) rfl rfl rfl, c.fun_ X G 27 64 65 (st := R4) rfl rfl rfl, c.fun_ X G 28 66 67 (st := Lf) rfl rfl rfl, c.fun_ X G 29 68 69 (st := Fx) rfl rfl rfl, c.fun_ X G 30 70 71 (st := CW) rfl rfl rfl, c.fun_ X G 31 72 73 (st := Cu) rfl rfl rfl, c.fun_ X G 32 74 75 (st := Ik) rfl rfl rfl, c.fun_ X G 33 76 77 (st := R7) rfl rfl rfl⟩
 obtain ⟨f, fd, FF, e⟩ := T.d_law
 rw [hfa'] at e
 cases e
 refine ⟨fd, tbI, rfl, fun s v => ?_, fun base _ _ hs => fnG (Kn := Kn) FF sc_law ⟨T, hs⟩ hs ok_law ck_law⟩
 obtain ⟨oc, od, kV, doc, pm, an, cdv, ct, osl, rfl, _, _⟩ := FF.ex
 exact .of_eq rfl
end Law
open PySem PySem.W PySem.Calls PyProof.Rows in
set_option maxRecDepth 100000 in
set_option maxHeartbeats 0 in
theorem PySem.Challenge.cw_wirereckon_k57_turns_at_the_first_row_holds : PySem.Challenge.rw_wirereckon_k57_turns_at_the_first_row.Holds := by
 w_on; o_law
 refine HandSHeadRun.head_any (r := OpenLaw.row PySem.Challenge.rw_wirereckon_k57_turns_at_the_first_row) (q := Law.hq) (H := Law.hk) (ob := Law.hob) (M := 6000) (loose := Law.hnm) (d := HandSHeadRun.topDef (OpenLaw.row PySem.Challenge.rw_wirereckon_k57_turns_at_the_first_row).prog 87) (kwd := []) Law.hob_eq
  (by kernel_rfl) (fun s => by kernel_rfl) Law.hrun (by kernel_rfl) (by kernel_rfl) (by kernel_rfl) (by rfl) (by first | assumption | decide +kernel) ∅ ⟨rfl, rfl, rfl, rfl, rfl, ∅⟩ ?hw ?hc
 case hw => w_witness2
 case hc =>
  refine Mi.walkGE (l := PySem.Challenge.rw_wirereckon_k57_turns_at_the_first_row) (m := Law.Ze) (k := 7) (x := "_law_script") rfl ∅ (by kernel_rfl) ⟨⟨rfl, ∅, ∅⟩, ∅⟩ rfl ∅ ?F Law.law_true
  intro w mg fa h Y_ G hmg0
  obtain ⟨K, KX, c⟩ := Y_
  have hmg : mg ("law" : PySem.Str) = some (.ref fa) := by
   have e : (HandSHeadRun.topDef (OpenLaw.row PySem.Challenge.rw_wirereckon_k57_turns_at_the_first_row).prog 87).name = ("law" : PySem.Str) := by kernel_rfl
   rw [<- e]
   exact hmg0
  obtain ⟨fd, tb, h1, h2, h3⟩ := Law.hfacts (P := (PySem.Challenge.rw_wirereckon_k57_turns_at_the_first_row).prog) (w := w) KX G hmg c
  exact ⟨K, fd, tb, KX, h1, h2, h3⟩
