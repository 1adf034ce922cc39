import PyProof.Rows.All
import Wide.All
import OpenK.AllK
import Wide.FinOn
import HandS.ForMost
import HandS.Exc
import HandS.TryOnly
import HandS.ExcOwn
import HandS.WordsExc
import HandS.IsInst
import HandS.Flow
import HandS.ExcInit
import HandS.Walk
import HandS.RaiseMore
import HandS.Deep
import HandS.NoneIn
import HandS.ExcField
import HandS.Defaults
import KE.KExcIs
import PyProof.StrOps2
import KE.KExcSuper
import HandS.DictComp
import HandS.IterVal
import HandS.TryMany
import HandS.Style
import HandS.New
import PySem.Challenge.RW_elderreads_k07_memory_items
set_option Elab.async false
set_option linter.all false
set_option maxRecDepth 100000
set_option maxHeartbeats 4000000
/-! Mi: a small deterministic reading of Python over data trees and a store of cells, and what it has to do with the hand layer's readings. -/
namespace Mi
open PySem L2

/-! ### data, cells, results -/
inductive D where
  | non | bl (b : Bool) | int (i : Int) | str (s : Str) | tup (l : List D) | lst (l : List D) | scr (l : List Int) | ref (i : Nat)
inductive Cell where
  | lst (l : List D) | dK (kvs : List (Key × D)) | dF (kvs : List (Key × D)) | ins (c : Nat) (fs : List (Str × D)) | dead
/-- dead: now a stable thing; dF: a dict that is locked (stable meanwhile) -/
def Cell.live : Cell → Bool
  | .dead => false
  | .dF _ => false
  | _ => true
abbrev Store := List Cell
abbrev Gm := List (Option D)
inductive R (α : Type) where
  | ok (a : α) | exc (c : Nat) (fs : List (Str × D))
abbrev M (α : Type) := Gm → Store → Option (R α × Store)
abbrev MF := List D → Store → Option (R D × Store)
inductive Out where
  | nx (g : Gm) | rt (d : D) | bk (g : Gm) | ct (g : Gm) | ex (g : Gm) (c : Nat) (fs : List (Str × D))
abbrev MS := Gm → Store → Option (Out × Store)

/-! ### a value stands for data -/
mutual
def IsD (K : PySem.W.Frag) (φ : List Addr) (G : Hp) : D → V → Prop
  | .non, v => v = .non
  | .bl b, v => v = .bl b
  | .int i, v => v = .int i
  | .str x, v => v = .str x
  | .tup ds, v => ∃ a xs, v = .ref a ∧ SqT K G a xs ∧ IsDs K φ G ds xs
  | .lst ds, v => ∃ a xs, v = .ref a ∧ G a = some (.lst xs) ∧ IsDs K φ G ds xs
  | .scr ns, v => ∃ a, v = .ref a ∧ SqL K G a (ns.map V.int)
  | .ref i, v => ∃ a, v = .ref a ∧ φ[i]? = some a
def IsDs (K : PySem.W.Frag) (φ : List Addr) (G : Hp) : List D → List V → Prop
  | [], vs => vs = []
  | d :: ds, vs => ∃ v r, vs = v :: r ∧ IsD K φ G d v ∧ IsDs K φ G ds r
end

def Ex (H H' : Hp) : Prop := ∀ a o, H a = some o → H' a = some o
theorem Ex.refl (H : Hp) : Ex H H := fun _ _ h => h
theorem Ex.trans {H H1 H2 : Hp} (a : Ex H H1) (b : Ex H1 H2) : Ex H H2 := fun x o h => b x o (a x o h)
theorem Ex.rd {H H' : Hp} {a : Addr} {u : HO} (e : Ex H H') (h : Rd H a u) : Rd H' a u := by
  rcases h with h | ⟨o, h⟩
  · exact .inl (e _ _ h)
  · exact .inr ⟨o, e _ _ h⟩
theorem Ex.l {K : PySem.W.Frag} {H H' : Hp} {a : Addr} {xs : List V} (e : Ex H H') (h : SqL K H a xs) : SqL K H' a xs := h.imp (fun h => e.rd h) id
theorem Ex.t {K : PySem.W.Frag} {H H' : Hp} {a : Addr} {xs : List V} (e : Ex H H') (h : SqT K H a xs) : SqT K H' a xs := h.imp (fun h => e.rd h) id

section
variable {K : PySem.W.Frag} {φ φ' : List Addr} {G G' : Hp}
theorem pre_get (p : φ <+: φ') {i : Nat} {a : Addr} (h : φ[i]? = some a) : φ'[i]? = some a := by
  obtain ⟨t, rfl⟩ := p
  rw [List.getElem?_append_left (List.getElem?_eq_some_iff.mp h).1]; exact h
mutual
theorem IsD.mono (p : φ <+: φ') (e : Ex G G') : ∀ {d : D} {v : V}, IsD K φ G d v → IsD K φ' G' d v
  | .non, _, h => by simpa only [IsD] using h
  | .bl _, _, h => by simpa only [IsD] using h
  | .int _, _, h => by simpa only [IsD] using h
  | .str _, _, h => by simpa only [IsD] using h
  | .tup ds, v, h => by
    simp only [IsD] at h ⊢
    obtain ⟨a, xs, h1, h2, h3⟩ := h
    exact ⟨a, xs, h1, e.t h2, IsDs.mono p e h3⟩
  | .lst ds, v, h => by
    simp only [IsD] at h ⊢
    obtain ⟨a, xs, h1, h2, h3⟩ := h
    exact ⟨a, xs, h1, e _ _ h2, IsDs.mono p e h3⟩
  | .scr ns, v, h => by
    simp only [IsD] at h ⊢
    obtain ⟨a, h1, h2⟩ := h
    exact ⟨a, h1, e.l h2⟩
  | .ref i, v, h => by
    simp only [IsD] at h ⊢
    obtain ⟨a, h1, h2⟩ := h
    exact ⟨a, h1, pre_get p h2⟩
theorem IsDs.mono (p : φ <+: φ') (e : Ex G G') : ∀ {ds : List D} {vs : List V}, IsDs K φ G ds vs → IsDs K φ' G' ds vs
  | [], _, h => by simpa only [IsDs] using h
  | d :: ds, vs, h => by
    simp only [IsDs] at h ⊢
    obtain ⟨v, r, h1, h2, h3⟩ := h
    exact ⟨v, r, h1, IsD.mono p e h2, IsDs.mono p e h3⟩
end
theorem IsDs.length : ∀ {ds : List D} {vs : List V}, IsDs K φ G ds vs → ds.length = vs.length
  | [], _, h => by simp only [IsDs] at h; subst h; rfl
  | d :: ds, vs, h => by
    simp only [IsDs] at h
    obtain ⟨v, r, rfl, _, h3⟩ := h
    simp only [List.length_cons]; rw [IsDs.length h3]
theorem IsDs.nil : IsDs K φ G [] [] := by simp only [IsDs]
theorem IsDs.cons {d : D} {ds : List D} {v : V} {vs : List V} (h : IsD K φ G d v) (r : IsDs K φ G ds vs) : IsDs K φ G (d :: ds) (v :: vs) := by
  simp only [IsDs]; exact ⟨v, vs, rfl, h, r⟩
theorem IsDs.cons_inv {d : D} {ds : List D} {vs : List V} (h : IsDs K φ G (d :: ds) vs) : ∃ v r, vs = v :: r ∧ IsD K φ G d v ∧ IsDs K φ G ds r := by simpa only [IsDs] using h
theorem IsDs.nil_inv {vs : List V} (h : IsDs K φ G [] vs) : vs = [] := by simpa only [IsDs] using h
theorem IsDs.append : ∀ {ds es : List D} {vs ws : List V}, IsDs K φ G ds vs → IsDs K φ G es ws → IsDs K φ G (ds ++ es) (vs ++ ws)
  | [], _, _, _, h, r => by rw [h.nil_inv]; exact r
  | d :: ds, _, _, _, h, r => by
    obtain ⟨v, t, rfl, h1, h2⟩ := h.cons_inv
    exact .cons h1 (IsDs.append h2 r)
theorem IsDs.get : ∀ {ds : List D} {vs : List V} {i : Nat} {d : D}, IsDs K φ G ds vs → ds[i]? = some d → ∃ v, vs[i]? = some v ∧ IsD K φ G d v
  | [], _, _, _, _, e => by simp at e
  | d :: ds, _, 0, _, h, e => by
    obtain ⟨v, t, rfl, h1, h2⟩ := h.cons_inv
    simp at e; subst e
    exact ⟨v, rfl, h1⟩
  | d :: ds, _, i + 1, _, h, e => by
    obtain ⟨v, t, rfl, h1, h2⟩ := h.cons_inv
    simpa using IsDs.get (i := i) h2 (by simpa using e)
theorem IsDs.set {d : D} {v : V} (hd : IsD K φ G d v) : ∀ {ds : List D} {vs : List V} (i : Nat), IsDs K φ G ds vs → IsDs K φ G (ds.set i d) (vs.set i v)
  | [], _, _, h => by rw [h.nil_inv]; exact .nil
  | e :: ds, _, 0, h => by
    obtain ⟨v, t, rfl, h1, h2⟩ := h.cons_inv
    exact .cons hd h2
  | e :: ds, _, i + 1, h => by
    obtain ⟨v, t, rfl, h1, h2⟩ := h.cons_inv
    exact .cons h1 (IsDs.set hd i h2)
theorem IsDs.drop : ∀ {ds : List D} {vs : List V} (n : Nat), IsDs K φ G ds vs → IsDs K φ G (ds.drop n) (vs.drop n)
  | _, _, 0, h => h
  | [], _, n + 1, h => by rw [h.nil_inv]; exact .nil
  | d :: ds, _, n + 1, h => by
    obtain ⟨v, t, rfl, h1, h2⟩ := h.cons_inv
    exact IsDs.drop n h2
theorem IsDs.take : ∀ {ds : List D} {vs : List V} (n : Nat), IsDs K φ G ds vs → IsDs K φ G (ds.take n) (vs.take n)
  | _, _, 0, h => .nil
  | [], _, n + 1, h => by rw [h.nil_inv]; exact .nil
  | d :: ds, _, n + 1, h => by
    obtain ⟨v, t, rfl, h1, h2⟩ := h.cons_inv
    exact .cons h1 (IsDs.take n h2)
theorem IsDs.ints : ∀ {ns : List Int} {vs : List V}, IsDs K φ G (ns.map D.int) vs → vs = ns.map V.int
  | [], _, h => h.nil_inv
  | n :: ns, _, h => by
    obtain ⟨v, t, rfl, h1, h2⟩ := IsDs.cons_inv (d := .int n) (ds := ns.map D.int) h
    simp only [IsD] at h1
    rw [h1, IsDs.ints h2] <;> rfl
theorem IsDs.of_ints : ∀ (ns : List Int), IsDs K φ G (ns.map D.int) (ns.map V.int)
  | [] => .nil
  | n :: ns => .cons (by simp only [IsD]) (IsDs.of_ints ns)
theorem IsDs.bls : ∀ {ns : List Bool} {vs : List V}, IsDs K φ G (ns.map D.bl) vs → vs = ns.map V.bl
  | [], _, h => h.nil_inv
  | n :: ns, _, h => by
    obtain ⟨v, t, rfl, h1, h2⟩ := IsDs.cons_inv (d := .bl n) (ds := ns.map D.bl) h
    simp only [IsD] at h1
    rw [h1, IsDs.bls h2] <;> rfl
theorem IsDs.strs : ∀ {ns : List Str} {vs : List V}, IsDs K φ G (ns.map D.str) vs → vs = ns.map V.str
  | [], _, h => h.nil_inv
  | n :: ns, _, h => by
    obtain ⟨v, t, rfl, h1, h2⟩ := IsDs.cons_inv (d := .str n) (ds := ns.map D.str) h
    simp only [IsD] at h1
    rw [h1, IsDs.strs h2] <;> rfl
theorem IsDs.of_strs : ∀ (ns : List Str), IsDs K φ G (ns.map D.str) (ns.map V.str)
  | [] => .nil
  | n :: ns => .cons (by simp only [IsD]) (IsDs.of_strs ns)
end

/-! ### the world: cells stand where φ says, apart from the stable part G of the heap H -/
def FsD (K : PySem.W.Frag) (φ : List Addr) (G : Hp) : List (Str × D) → List (Str × V) → Prop
  | [], vs => vs = []
  | (n, d) :: fs, vs => ∃ v r, vs = (n, v) :: r ∧ IsD K φ G d v ∧ FsD K φ G fs r
def KsD (K : PySem.W.Frag) (φ : List Addr) (G : Hp) : List (Key × D) → List (Key × V) → Prop
  | [], vs => vs = []
  | (n, d) :: fs, vs => ∃ v r, vs = (n, v) :: r ∧ IsD K φ G d v ∧ KsD K φ G fs r
section
variable {K : PySem.W.Frag} {φ φ' : List Addr} {G G' : Hp}
theorem FsD.mono (p : φ <+: φ') (e : Ex G G') : ∀ {fs : List (Str × D)} {vs : List (Str × V)}, FsD K φ G fs vs → FsD K φ' G' fs vs
  | [], _, h => h
  | (n, d) :: fs, _, ⟨v, r, h1, h2, h3⟩ => ⟨v, r, h1, h2.mono p e, FsD.mono p e h3⟩
theorem KsD.mono (p : φ <+: φ') (e : Ex G G') : ∀ {fs : List (Key × D)} {vs : List (Key × V)}, KsD K φ G fs vs → KsD K φ' G' fs vs
  | [], _, h => h
  | (n, d) :: fs, _, ⟨v, r, h1, h2, h3⟩ => ⟨v, r, h1, h2.mono p e, KsD.mono p e h3⟩
end
/-! ### a locked dict is no part of any data -/
section
variable {K : PySem.W.Frag} {φ : List Addr} {G : Hp} {a : Addr} {o : Obj} {kws : List (Key × V)}
theorem rd_unf (h : G a = some (.frz o (.dK kws))) {b : Addr} {u : HO} (r : Rd G b u) (h1 : ∀ k, u ≠ .dK k) (h2 : ∀ o v, u ≠ .frz o v) : Rd (del G a) b u := by
  have ne : b ≠ a := fun z => by
    subst z
    rcases r with r | ⟨o', r⟩
    · rw [h] at r; cases r; exact h2 _ _ rfl
    · rw [h] at r; cases r; exact h1 _ rfl
  unfold Rd
  rw [del_ne ne]
  exact r
mutual
theorem IsD.unf (h : G a = some (.frz o (.dK kws))) : ∀ {d : D} {v : V}, IsD K φ G d v → IsD K φ (del G a) d v
  | .non, _, q => by simpa only [IsD] using q
  | .bl _, _, q => by simpa only [IsD] using q
  | .int _, _, q => by simpa only [IsD] using q
  | .str _, _, q => by simpa only [IsD] using q
  | .tup ds, v, q => by
    simp only [IsD] at q ⊢
    obtain ⟨b, xs, h1, h2, h3⟩ := q
    exact ⟨b, xs, h1, h2.imp (fun r => rd_unf h r (fun _ z => nomatch z) fun _ _ z => nomatch z) id, IsDs.unf h h3⟩
  | .lst ds, v, q => by
    simp only [IsD] at q ⊢
    obtain ⟨b, xs, h1, h2, h3⟩ := q
    have ne : b ≠ a := fun z => by subst z; rw [h] at h2; cases h2
    exact ⟨b, xs, h1, by rw [del_ne ne]; exact h2, IsDs.unf h h3⟩
  | .scr ns, v, q => by
    simp only [IsD] at q ⊢
    obtain ⟨b, h1, h2⟩ := q
    exact ⟨b, h1, h2.imp (fun r => rd_unf h r (fun _ z => nomatch z) fun _ _ z => nomatch z) id⟩
  | .ref i, v, q => by
    simp only [IsD] at q ⊢
    exact q
theorem IsDs.unf (h : G a = some (.frz o (.dK kws))) : ∀ {ds : List D} {vs : List V}, IsDs K φ G ds vs → IsDs K φ (del G a) ds vs
  | [], _, q => by simpa only [IsDs] using q
  | d :: ds, vs, q => by
    simp only [IsDs] at q ⊢
    obtain ⟨v, r, h1, h2, h3⟩ := q
    exact ⟨v, r, h1, IsD.unf h h2, IsDs.unf h h3⟩
end
theorem FsD.unf (h : G a = some (.frz o (.dK kws))) : ∀ {fs : List (Str × D)} {vs : List (Str × V)}, FsD K φ G fs vs → FsD K φ (del G a) fs vs
  | [], _, q => q
  | (n, d) :: fs, _, ⟨v, r, h1, h2, h3⟩ => ⟨v, r, h1, h2.unf h, FsD.unf h h3⟩
theorem KsD.unf (h : G a = some (.frz o (.dK kws))) : ∀ {fs : List (Key × D)} {vs : List (Key × V)}, KsD K φ G fs vs → KsD K φ (del G a) fs vs
  | [], _, q => q
  | (n, d) :: fs, _, ⟨v, r, h1, h2, h3⟩ => ⟨v, r, h1, h2.unf h, KsD.unf h h3⟩
end
/-- where the classes stand; what else is known of the stable part -/
structure Cl where
  at_ : Nat → Addr
  inv : Hp → Prop
  mono : ∀ G G', Ex G G' → inv G → inv G'
  unf : ∀ G a o kws, G a = some (.frz o (.dK kws)) → inv G → inv (del G a)
  hd : Option (Nat × Addr)
def CellOk (K : PySem.W.Frag) (cl : Cl) (φ : List Addr) (G H : Hp) (a : Addr) : Cell → Prop
  | .lst ds => ∃ vs, H a = some (.lst vs) ∧ IsDs K φ G ds vs
  | .dK kvs => ∃ kws, H a = some (.dK kws) ∧ KsD K φ G kvs kws
  | .dF kvs => ∃ o kws, G a = some (.frz o (.dK kws)) ∧ KsD K φ G kvs kws
  | .ins c fs => ∃ dx fv, H a = some (.ins (cl.at_ c) dx fv) ∧ FsD K φ G fs fv
  | .dead => True
structure Wd (K : PySem.W.Frag) (cl : Cl) (φ : List Addr) (S : Store) (G H : Hp) : Prop where
  len : φ.length = S.length
  sub : Ex G H
  nd : φ.Nodup
  tr : ∀ a ∈ φ, H a ≠ none
  ap : ∀ (i : Nat) (c : Cell) (a : Addr), S[i]? = some c → φ[i]? = some a → c.live = true → G a = none
  ok : ∀ (i : Nat) (c : Cell) (a : Addr), S[i]? = some c → φ[i]? = some a → CellOk K cl φ G H a c
  iv : cl.inv G
structure Step (φ : List Addr) (G H : Hp) (φ' : List Addr) (G' H' : Hp) : Prop where
  pre : φ <+: φ'
  ex : Ex G G'
  gn : ∀ a, G' a ≠ none → G a ≠ none ∨ H a = none ∨ a ∈ φ
  keep : ∀ a o, H a = some o → a ∉ φ → H' a = some o
  new : ∀ a ∈ φ', a ∈ φ ∨ H a = none
theorem Step.refl (φ : List Addr) (G H : Hp) : Step φ G H φ G H := ⟨List.prefix_refl _, Ex.refl _, fun _ h => .inl h, fun _ _ h _ => h, fun _ h => .inl h⟩
theorem Step.trans {φ φ1 φ2 : List Addr} {G G1 G2 H H1 H2 : Hp} (a : Step φ G H φ1 G1 H1) (b : Step φ1 G1 H1 φ2 G2 H2) : Step φ G H φ2 G2 H2 where
  pre := a.pre.trans b.pre
  ex := a.ex.trans b.ex
  gn := fun x h => by
    rcases b.gn x h with h | h | h
    · exact a.gn x h
    · by_cases hx : x ∈ φ
      · exact .inr (.inr hx)
      · refine .inr (.inl ?_)
        cases q : H x with
        | none => rfl
        | some o => rw [a.keep x o q hx] at h; cases h
    · rcases a.new x h with h | h
      · exact .inr (.inr h)
      · exact .inr (.inl h)
  keep := fun x o h hx => b.keep x o (a.keep x o h hx) fun hm => by
    rcases a.new x hm with z | z
    · exact hx z
    · rw [h] at z; cases z
  new := fun x h => by
    rcases b.new x h with h | h
    · exact a.new x h
    · by_cases hx : x ∈ φ
      · exact .inl hx
      · refine .inr ?_
        cases q : H x with
        | none => rfl
        | some o => rw [a.keep x o q hx] at h; cases h
structure Sl (K : PySem.W.Frag) (cl : Cl) (φ : List Addr) (G : Hp) (g : Gm) (σ : St) : Prop where
  len : σ.length = g.length
  at_ : ∀ (i : Nat) (d : D), g[i]? = some (some d) → ∃ v, σ[i]? = some (some v) ∧ IsD K φ G d v
  hd : ∀ (i : Nat) (a : Addr), cl.hd = some (i, a) → g[i]? = some none → σ[i]? = some (some (.ref a))
theorem Sl.step {K : PySem.W.Frag} {cl : Cl} {φ φ' : List Addr} {G G' H H' : Hp} {g : Gm} {σ : St} (s : Sl K cl φ G g σ) (e : Step φ G H φ' G' H') : Sl K cl φ' G' g σ := ⟨s.len, fun i d h =>
  let ⟨v, h1, h2⟩ := s.at_ i d h
  ⟨v, h1, h2.mono e.pre e.ex⟩, s.hd⟩
theorem Sl.set {K : PySem.W.Frag} {cl : Cl} {φ : List Addr} {G : Hp} {g : Gm} {σ : St} {i : Nat} {d : D} {v : V} (s : Sl K cl φ G g σ) (h : IsD K φ G d v) : Sl K cl φ G (g.set i (some d)) (σ.set i (some v)) := ⟨by simp [s.len], fun j e hj => by
  by_cases q : i = j
  · subst q
    rw [List.getElem?_set] at hj
    simp at hj
    obtain ⟨hl, rfl⟩ := hj
    exact ⟨v, by rw [List.getElem?_set_self (by rw [s.len]; exact hl)], h⟩
  · rw [List.getElem?_set_ne q] at hj
    obtain ⟨w, h1, h2⟩ := s.at_ j e hj
    exact ⟨w, by rw [List.getElem?_set_ne q]; exact h1, h2⟩, fun j x hj hg => by
  by_cases q : i = j
  · subst q
    rw [List.getElem?_set] at hg
    simp at hg
  · rw [List.getElem?_set_ne q] at hg ⊢
    exact s.hd j x hj hg⟩
theorem Sl.wipe {K : PySem.W.Frag} {cl : Cl} (hh : cl.hd = none) {φ : List Addr} {G : Hp} {g : Gm} {σ : St} {i : Nat} (s : Sl K cl φ G g σ) : Sl K cl φ G (g.set i none) (σ.set i none) := ⟨by simp [s.len], fun j e hj => by
  by_cases q : i = j
  · subst q
    rw [List.getElem?_set] at hj
    simp at hj
  · rw [List.getElem?_set_ne q] at hj
    obtain ⟨w, h1, h2⟩ := s.at_ j e hj
    exact ⟨w, by rw [List.getElem?_set_ne q]; exact h1, h2⟩, fun j x hj hg => by rw [hh] at hj; cases hj⟩
/-- an exception: class c of the table, its fields -/
def ExcOk (K : PySem.W.Frag) (cl : Cl) (G : Hp) (c : Nat) (fs : List (Str × D)) (cls : Value) (dd : Option Addr) : Prop :=
  cls = .ref (cl.at_ c) ∧ ((fs = [] ∧ dd = none) ∨ ∃ dx fv, dd = some dx ∧ G dx = some (.xd fv) ∧ FsD K [] G fs fv)
def wE (K : PySem.W.Frag) (cl : Cl) (φ : List Addr) (G H : Hp) (S' : Store) (c : Nat) (fs : List (Str × D)) (cls : Value) (dd : Option Addr) (φ' : List Addr) (G' H' : Hp) : Prop :=
  Step φ G H φ' G' H' ∧ Wd K cl φ' S' G' H' ∧ ExcOk K cl G' c fs cls dd
def wOf (K : PySem.W.Frag) (cl : Cl) (φ : List Addr) (G H : Hp) (g : Gm) (S' : Store) (c : Nat) (fs : List (Str × D)) : WX := fun cls dd σ H' =>
  ∃ φ' G', wE K cl φ G H S' c fs cls dd φ' G' H' ∧ Sl K cl φ' G' g σ
theorem wOf.step {K : PySem.W.Frag} {cl : Cl} {φ φ1 : List Addr} {G H G1 H1 : Hp} {g : Gm} {S' : Store} {c : Nat} {fs : List (Str × D)} (e : Step φ G H φ1 G1 H1) {cls : Value} {dd : Option Addr} {σ : St} {H' : Hp} (h : wOf K cl φ1 G1 H1 g S' c fs cls dd σ H') :
    wOf K cl φ G H g S' c fs cls dd σ H' := by
  obtain ⟨φ', G', ⟨h1, h2, h3⟩, h4⟩ := h
  exact ⟨φ', G', ⟨e.trans h1, h2, h3⟩, h4⟩
/-- what is wished for an exception may be wished for by a weaker word -/
def TkOk (tk : WX → Prop) : Prop := ∀ W W' : WX, tk W → (∀ c d σ H, W' c d σ H → W c d σ H) → tk W'
theorem tkX (X : Cx) : TkOk (Takes X) := fun _ _ t h => t.imp h
theorem tk0 : TkOk (fun _ => False) := fun _ _ t _ => t

/-- the end of a reading that gives an α: r, S' are known; at every state that may be behind, Q -/
def Ko {α : Type} (K : PySem.W.Frag) (cl : Cl) (tk : WX → Prop) (φ : List Addr) (G H : Hp) (g : Gm) (r : R α) (S' : Store) (Q : List Addr → Hp → Hp → α → Prop) : Prop :=
  match r with
  | .ok a => ∀ φ' G' H', Step φ G H φ' G' H' → Wd K cl φ' S' G' H' → Q φ' G' H' a
  | .exc c fs => tk (wOf K cl φ G H g S' c fs)
theorem Ko.step {α : Type} {K : PySem.W.Frag} {cl : Cl} {tk : WX → Prop} (ht : TkOk tk) {φ φ1 : List Addr} {G H G1 H1 : Hp} {g : Gm} {r : R α} {S' : Store} {Q : List Addr → Hp → Hp → α → Prop} (e : Step φ G H φ1 G1 H1) (h : Ko K cl tk φ G H g r S' Q) :
    Ko K cl tk φ1 G1 H1 g r S' Q := by
  cases r with
  | ok a => exact fun φ' G' H' s w => h φ' G' H' (e.trans s) w
  | exc c fs => exact ht _ _ h fun _ _ _ _ q => q.step e
theorem Ko.imp {α : Type} {K : PySem.W.Frag} {cl : Cl} {tk : WX → Prop} {φ : List Addr} {G H : Hp} {g : Gm} {r : R α} {S' : Store} {Q Q' : List Addr → Hp → Hp → α → Prop} (h : Ko K cl tk φ G H g r S' Q)
    (i : ∀ φ' G' H' a, Step φ G H φ' G' H' → Wd K cl φ' S' G' H' → Q φ' G' H' a → Q' φ' G' H' a) : Ko K cl tk φ G H g r S' Q' := by
  cases r with
  | ok a => exact fun φ' G' H' s w => i _ _ _ _ s w (h φ' G' H' s w)
  | exc c fs => exact h

/-! ### readings by data -/
def tM (K : PySem.W.Frag) (cl : Cl) (tk : WX → Prop) (m : M D) : TE := fun σ H Q => ∃ φ G g S r S', Wd K cl φ S G H ∧ Sl K cl φ G g σ ∧ m g S = some (r, S') ∧ Ko K cl tk φ G H g r S' fun φ' G' H' d => ∀ v, IsD K φ' G' d v → Q v H'
def tMT (K : PySem.W.Frag) (cl : Cl) (tk : WX → Prop) (m : M Bool) : TT := fun σ H Q => ∃ φ G g S r S', Wd K cl φ S G H ∧ Sl K cl φ G g σ ∧ m g S = some (r, S') ∧ Ko K cl tk φ G H g r S' fun _ _ H' b => Q b H'
def tMA (K : PySem.W.Frag) (cl : Cl) (tk : WX → Prop) (m : M (List D)) : TA := fun σ H Q => ∃ φ G g S r S', Wd K cl φ S G H ∧ Sl K cl φ G g σ ∧ m g S = some (r, S') ∧ Ko K cl tk φ G H g r S' fun φ' G' H' ds => ∀ vs, IsDs K φ' G' ds vs → Q vs H'
/-- a statement's end -/
def Kos (K : PySem.W.Frag) (cl : Cl) (tk : WX → Prop) (φ : List Addr) (G H : Hp) (o : Out) (S' : Store) (D : Ends) : Prop :=
  match o with
  | .nx g => ∀ φ' G' H', Step φ G H φ' G' H' → Wd K cl φ' S' G' H' → ∀ σ, Sl K cl φ' G' g σ → D.nx σ H'
  | .rt d => ∀ φ' G' H', Step φ G H φ' G' H' → Wd K cl φ' S' G' H' → ∀ v, IsD K φ' G' d v → D.rt v H'
  | .bk g => ∀ φ' G' H', Step φ G H φ' G' H' → Wd K cl φ' S' G' H' → ∀ σ, Sl K cl φ' G' g σ → D.bk σ H'
  | .ct g => ∀ φ' G' H', Step φ G H φ' G' H' → Wd K cl φ' S' G' H' → ∀ σ, Sl K cl φ' G' g σ → D.ct σ H'
  | .ex g c fs => tk (wOf K cl φ G H g S' c fs)
theorem Kos.step {K : PySem.W.Frag} {cl : Cl} {tk : WX → Prop} (ht : TkOk tk) {φ φ1 : List Addr} {G H G1 H1 : Hp} {o : Out} {S' : Store} {D : Ends} (e : Step φ G H φ1 G1 H1) (h : Kos K cl tk φ G H o S' D) : Kos K cl tk φ1 G1 H1 o S' D := by
  cases o with
  | nx g => exact fun φ' G' H' s w => h φ' G' H' (e.trans s) w
  | rt g => exact fun φ' G' H' s w => h φ' G' H' (e.trans s) w
  | bk g => exact fun φ' G' H' s w => h φ' G' H' (e.trans s) w
  | ct g => exact fun φ' G' H' s w => h φ' G' H' (e.trans s) w
  | ex g2 c fs => exact ht _ _ h fun _ _ _ _ q => q.step e
def tMS (K : PySem.W.Frag) (cl : Cl) (tk : WX → Prop) (m : MS) : TS := fun D σ H => ∃ φ G g S o S', Wd K cl φ S G H ∧ Sl K cl φ G g σ ∧ m g S = some (o, S') ∧ Kos K cl tk φ G H o S' D
end Mi
namespace Mi
open PySem L2

/-! ### what may be wished -/
class Tk (X : Cx) (tk : WX → Prop) : Prop where
  ok : TkOk tk
  tk : ∀ W, tk W → Takes X W
instance (X : Cx) : Tk X (Takes X) := ⟨tkX X, fun _ h => h⟩
instance (X : Cx) : Tk X (fun _ => False) := ⟨tk0, fun _ h => h.elim⟩

abbrev RE (X : Cx) (cl : Cl) (tk : WX → Prop) (a : Expr) (m : M D) : Prop := PE X a (tM X.K cl tk m)
abbrev RT (X : Cx) (cl : Cl) (tk : WX → Prop) (a : Expr) (m : M Bool) : Prop := PT X a (tMT X.K cl tk m)
abbrev RW (X : Cx) (cl : Cl) (tk : WX → Prop) (a : Expr) (m : M Bool) : Prop := PW X a (tMT X.K cl tk m)
abbrev RA (X : Cx) (cl : Cl) (tk : WX → Prop) (a : List Expr) (m : M (List D)) : Prop := PA X a (tMA X.K cl tk m)
abbrev RS (X : Cx) (cl : Cl) (tk : WX → Prop) (a : Stmt) (m : MS) : Prop := PS X a (tMS X.K cl tk m)
abbrev RSs (X : Cx) (cl : Cl) (tk : WX → Prop) (a : List Stmt) (m : MS) : Prop := PSs X a (tMS X.K cl tk m)

theorem pe_imp {X : Cx} {a : Expr} {t t' : TE} (h : PE X a t) (i : ∀ σ H Q, t' σ H Q → t σ H Q) : PE X a t' := ⟨fun pins s σ H Q I q => h.run pins s σ H Q I (i σ H Q q)⟩
theorem pt_imp {X : Cx} {a : Expr} {t t' : TT} (h : PT X a t) (i : ∀ σ H Q, t' σ H Q → t σ H Q) : PT X a t' := ⟨fun pins s σ H Q I q => h.run pins s σ H Q I (i σ H Q q)⟩
theorem pw_imp {X : Cx} {a : Expr} {t t' : TT} (h : PW X a t) (i : ∀ σ H Q, t' σ H Q → t σ H Q) : PW X a t' := ⟨fun wh pins s σ H Q I q => h.run wh pins s σ H Q I (i σ H Q q)⟩
theorem pa_imp {X : Cx} {a : List Expr} {t t' : TA} (h : PA X a t) (i : ∀ σ H Q, t' σ H Q → t σ H Q) : PA X a t' := ⟨fun p pins s σ H Q I q => h.run p pins s σ H Q I (i σ H Q q)⟩
theorem ps_imp {X : Cx} {a : Stmt} {t t' : TS} (h : PS X a t) (i : ∀ D σ H, t' D σ H → t D σ H) : PS X a t' := ⟨fun pins s σ H D I q => h.run pins s σ H D I (i D σ H q)⟩
theorem pss_imp {X : Cx} {a : List Stmt} {t t' : TS} (h : PSs X a t) (i : ∀ D σ H, t' D σ H → t D σ H) : PSs X a t' := ⟨fun pins s σ H D I q => h.run pins s σ H D I (i D σ H q)⟩
theorem pi_imp {X : Cx} {tg a : Expr} {t t' : TI} (h : PI X tg a t) (i : ∀ σ H R, t' σ H R → t σ H R) : PI X tg a t' := ⟨fun pins s σ H Q I q => h.run pins s σ H Q I (i σ H Q q)⟩

/-! ### new stable objects -/
section
variable {K : PySem.W.Frag} {cl : Cl} {φ : List Addr} {S : Store} {G H : Hp}
theorem Ex.new {H : Hp} {p : Addr} {o : HO} (h : H p = none) : Ex H (upd H p o) := fun a u e => by
  rw [upd_ne (ne_of_none e h)]
  exact e
theorem Wd.gnone (w : Wd K cl φ S G H) {p : Addr} (hp : H p = none) : G p = none := by
  cases q : G p with
  | none => rfl
  | some o => rw [w.sub p o q] at hp; cases hp
theorem fresh_step (w : Wd K cl φ S G H) {p : Addr} (hp : H p = none) (o : HO) : Step φ G H φ (upd G p o) (upd H p o) where
  pre := List.prefix_refl _
  ex := Ex.new (w.gnone hp)
  gn := fun a h => by
    by_cases e : a = p
    · subst e; exact .inr (.inl hp)
    · rw [upd_ne e] at h; exact .inl h
  keep := fun a u h _ => Ex.new hp a u h
  new := fun a h => .inl h
theorem CellOk.mono {φ' : List Addr} {G' H' : Hp} {a : Addr} {c : Cell} (p : φ <+: φ') (e : Ex G G') (h : ∀ o, H a = some o → H' a = some o) (k : CellOk K cl φ G H a c) : CellOk K cl φ' G' H' a c := by
  cases c with
  | lst ds => obtain ⟨vs, h1, h2⟩ := k; exact ⟨vs, h _ h1, h2.mono p e⟩
  | dK ds => obtain ⟨vs, h1, h2⟩ := k; exact ⟨vs, h _ h1, h2.mono p e⟩
  | dF ds => obtain ⟨o, vs, h1, h2⟩ := k; exact ⟨o, vs, e _ _ h1, h2.mono p e⟩
  | ins c fs => obtain ⟨dx, vs, h1, h2⟩ := k; exact ⟨dx, vs, h _ h1, h2.mono p e⟩
  | dead => trivial
theorem fresh_wd (w : Wd K cl φ S G H) {p : Addr} (hp : H p = none) (o : HO) : Wd K cl φ S (upd G p o) (upd H p o) where
  len := w.len
  sub := fun a u h => by
    by_cases e : a = p
    · subst e; rw [upd_same] at h ⊢; exact h
    · rw [upd_ne e] at h ⊢; exact w.sub a u h
  nd := w.nd
  tr := fun a h => by
    by_cases e : a = p
    · subst e; rw [upd_same]; simp
    · rw [upd_ne e]; exact w.tr a h
  ap := fun i c a h1 h2 h3 => by
    by_cases e : a = p
    · subst e; exact absurd hp (w.tr a (List.mem_of_getElem? h2))
    · rw [upd_ne e]; exact w.ap i c a h1 h2 h3
  ok := fun i c a h1 h2 => (w.ok i c a h1 h2).mono (List.prefix_refl _) (Ex.new (w.gnone hp)) (Ex.new hp a)
  iv := cl.mono _ _ (Ex.new (w.gnone hp)) w.iv
theorem new_lst (w : Wd K cl φ S G H) {ds : List D} {vs : List V} (h : IsDs K φ G ds vs) {Q : VK} (k : ∀ φ' G' H', Step φ G H φ' G' H' → Wd K cl φ' S G' H' → ∀ v, IsD K φ' G' (.lst ds) v → Q v H') : ∀ p, H p = none → Q (.ref p) (upd H p (.lst vs)) := fun p hp => by
  refine k _ _ _ (fresh_step w hp _) (fresh_wd w hp _) _ ?_
  simp only [IsD]
  exact ⟨p, vs, rfl, upd_same, h.mono (List.prefix_refl _) (Ex.new (w.gnone hp))⟩
theorem new_tup (w : Wd K cl φ S G H) {ds : List D} {vs : List V} (h : IsDs K φ G ds vs) {Q : VK} (k : ∀ φ' G' H', Step φ G H φ' G' H' → Wd K cl φ' S G' H' → ∀ v, IsD K φ' G' (.tup ds) v → Q v H') : ∀ p, H p = none → Q (.ref p) (upd H p (.tup vs)) := fun p hp => by
  refine k _ _ _ (fresh_step w hp _) (fresh_wd w hp _) _ ?_
  simp only [IsD]
  exact ⟨p, vs, rfl, .inl (.inl upd_same), h.mono (List.prefix_refl _) (Ex.new (w.gnone hp))⟩
end

/-! ### binding -/
def mB {α β : Type} (m : M α) (f : α → M β) : M β := fun g S =>
  match m g S with
  | some (.ok a, S1) => f a g S1
  | some (.exc c fs, S1) => some (.exc c fs, S1)
  | none => none
def mP {α : Type} (a : α) : M α := fun _ S => some (.ok a, S)
def mL {α : Type} (f : Store → Option α) : M α := fun _ S => (f S).map fun a => (.ok a, S)
def mOp1 (f : Store → D → Option D) (m : M D) : M D := mB m fun d => mL fun S => f S d
def mOp2 (f : Store → D → D → Option D) (m1 m2 : M D) : M D := mB m1 fun d => mB m2 fun e => mL fun S => f S d e
def mVar (i : Nat) : M D := fun g S => match g[i]? with
  | some (some d) => some (.ok d, S)
  | _ => none
theorem mB_ok {α β : Type} {m : M α} {f : α → M β} {g : Gm} {S S' : Store} {r : R β} (h : mB m f g S = some (r, S')) :
    (∃ a S1, m g S = some (.ok a, S1) ∧ f a g S1 = some (r, S')) ∨ (∃ c fs, m g S = some (.exc c fs, S') ∧ r = .exc c fs) := by
  unfold mB at h
  split at h
  · exact .inl ⟨_, _, by assumption, h⟩
  · cases h; exact .inr ⟨_, _, by assumption, rfl⟩
  · cases h
theorem mL_ok {α : Type} {f : Store → Option α} {g : Gm} {S S' : Store} {r : R α} (h : mL f g S = some (r, S')) : ∃ a, f S = some a ∧ r = .ok a ∧ S' = S := by
  unfold mL at h
  cases e : f S with
  | none => rw [e] at h; cases h
  | some a => rw [e] at h; cases h; exact ⟨a, rfl, rfl, rfl⟩

section
variable {X : Cx} {cl : Cl} {tk : WX → Prop} [T : Tk X tk]
variable {K : PySem.W.Frag}

/-- a part's reading, then what follows it -/
theorem tM_bind {m : M D} {β : Type} {f : D → M β} {σ : St} {φ : List Addr} {G H : Hp} {g : Gm} {S S' : Store} {r : R β} {Qβ : List Addr → Hp → Hp → β → Prop} {Q : VK} (ht : TkOk tk)
    (w : Wd K cl φ S G H) (s : Sl K cl φ G g σ) (e : mB m f g S = some (r, S')) (k : Ko K cl tk φ G H g r S' Qβ)
    (h : ∀ d φ1 G1 H1 S1 v, Step φ G H φ1 G1 H1 → Wd K cl φ1 S1 G1 H1 → Sl K cl φ1 G1 g σ → IsD K φ1 G1 d v → f d g S1 = some (r, S') → Ko K cl tk φ1 G1 H1 g r S' Qβ → Q v H1) : tM K cl tk m σ H Q := by
  rcases mB_ok e with ⟨d, S1, e1, e2⟩ | ⟨c, fs, e1, rfl⟩
  · exact ⟨φ, G, g, S, _, _, w, s, e1, fun φ1 G1 H1 st w1 v hv => h d φ1 G1 H1 S1 v st w1 (s.step st) hv e2 (k.step ht st)⟩
  · exact ⟨φ, G, g, S, _, _, w, s, e1, k⟩
theorem tMT_bind {m : M Bool} {β : Type} {f : Bool → M β} {σ : St} {φ : List Addr} {G H : Hp} {g : Gm} {S S' : Store} {r : R β} {Qβ : List Addr → Hp → Hp → β → Prop} {Q : Bool → Hp → Prop} (ht : TkOk tk)
    (w : Wd K cl φ S G H) (s : Sl K cl φ G g σ) (e : mB m f g S = some (r, S')) (k : Ko K cl tk φ G H g r S' Qβ)
    (h : ∀ d φ1 G1 H1 S1, Step φ G H φ1 G1 H1 → Wd K cl φ1 S1 G1 H1 → Sl K cl φ1 G1 g σ → f d g S1 = some (r, S') → Ko K cl tk φ1 G1 H1 g r S' Qβ → Q d H1) : tMT K cl tk m σ H Q := by
  rcases mB_ok e with ⟨d, S1, e1, e2⟩ | ⟨c, fs, e1, rfl⟩
  · exact ⟨φ, G, g, S, _, _, w, s, e1, fun φ1 G1 H1 st w1 => h d φ1 G1 H1 S1 st w1 (s.step st) e2 (k.step ht st)⟩
  · exact ⟨φ, G, g, S, _, _, w, s, e1, k⟩
theorem tMA_bind {m : M (List D)} {β : Type} {f : List D → M β} {σ : St} {φ : List Addr} {G H : Hp} {g : Gm} {S S' : Store} {r : R β} {Qβ : List Addr → Hp → Hp → β → Prop} {Q : List V → Hp → Prop} (ht : TkOk tk)
    (w : Wd K cl φ S G H) (s : Sl K cl φ G g σ) (e : mB m f g S = some (r, S')) (k : Ko K cl tk φ G H g r S' Qβ)
    (h : ∀ d φ1 G1 H1 S1 v, Step φ G H φ1 G1 H1 → Wd K cl φ1 S1 G1 H1 → Sl K cl φ1 G1 g σ → IsDs K φ1 G1 d v → f d g S1 = some (r, S') → Ko K cl tk φ1 G1 H1 g r S' Qβ → Q v H1) : tMA K cl tk m σ H Q := by
  rcases mB_ok e with ⟨d, S1, e1, e2⟩ | ⟨c, fs, e1, rfl⟩
  · exact ⟨φ, G, g, S, _, _, w, s, e1, fun φ1 G1 H1 st w1 v hv => h d φ1 G1 H1 S1 v st w1 (s.step st) hv e2 (k.step ht st)⟩
  · exact ⟨φ, G, g, S, _, _, w, s, e1, k⟩
/-- a value that is there at once -/
theorem Ko.now {α : Type} {φ : List Addr} {G H : Hp} {g : Gm} {a : α} {S : Store} {Q : List Addr → Hp → Hp → α → Prop} (k : Ko K cl tk φ G H g (.ok a) S Q) (w : Wd K cl φ S G H) : Q φ G H a := k φ G H (Step.refl _ _ _) w

/-! ### names, constants -/
theorem re_var {i : Nat} {x : Str} {pos : Pos} (hN : X.N[i]? = some x := by rfl) (hv : Vis X.env.scope x := by first | exact Or.inl rfl | exact Or.inr (Or.inl rfl) | exact Or.inr (Or.inr rfl)) (hd : (x == ("__debug__" : Str)) = false := by decide)
    (hcd : (x == ("__classdict__" : Str)) = false := by decide) : RE X cl tk (.Name x pos) (mVar i) := by
  refine pe_imp (pe_var hN hv hd hcd) fun σ H Q ⟨φ, G, g, S, r, S', w, s, e, k⟩ => ?_
  unfold mVar at e
  split at e
  · cases e
    obtain ⟨v, h1, h2⟩ := s.at_ _ _ (by assumption)
    exact ⟨v, h1, k.now w v h2⟩
  · cases e
theorem re_c {a : Expr} {v : V} {d : D} (h : PE X a (tC v)) (hd : ∀ φ G, IsD X.K φ G d v) : RE X cl tk a (mP d) := by
  refine pe_imp h fun σ H Q ⟨φ, G, g, S, r, S', w, s, e, k⟩ => ?_
  cases e
  exact k.now w v (hd φ G)
theorem re_int {i j pos} : RE X cl tk (.Constant (.int i) j pos) (mP (.int i)) := re_c pe_int fun _ _ => by simp only [IsD]
theorem re_bl {i j pos} : RE X cl tk (.Constant (.bool i) j pos) (mP (.bl i)) := re_c pe_bl fun _ _ => by simp only [IsD]
theorem re_str {i j pos} : RE X cl tk (.Constant (.str i) j pos) (mP (.str i)) := re_c pe_str fun _ _ => by simp only [IsD]
theorem re_non {j pos} : RE X cl tk (.Constant .none j pos) (mP .non) := re_c pe_non fun _ _ => by simp only [IsD]
theorem re_glob {x : Str} {v : V} {u : Value} {d : D} {pos : Pos} (hm : X.mg x = some u) (r : RelV v u) (hd : ∀ φ G, IsD X.K φ G d v) (hg : Gl X x := by rfl) (hdb : (x == ("__debug__" : Str)) = false := by decide) : RE X cl tk (.Name x pos) (mP d) := re_c (pe_glob hg hm r hdb) hd

/-! ### operators by values -/
/-- what r asks is given by f -/
def OpS (K : PySem.W.Frag) (cl : Cl) (r : R2) (f : Store → D → D → Option D) : Prop :=
  ∀ (φ : List Addr) (S : Store) (G H : Hp) (x y : V) (d e z : D) (Q : VK), Wd K cl φ S G H → IsD K φ G d x → IsD K φ G e y → f S d e = some z →
    (∀ φ' G' H', Step φ G H φ' G' H' → Wd K cl φ' S G' H' → ∀ v, IsD K φ' G' z v → Q v H') → r x y H Q
def UnS (K : PySem.W.Frag) (cl : Cl) (r : V → Hp → VK → Prop) (f : Store → D → Option D) : Prop :=
  ∀ (φ : List Addr) (S : Store) (G H : Hp) (x : V) (d z : D) (Q : VK), Wd K cl φ S G H → IsD K φ G d x → f S d = some z →
    (∀ φ' G' H', Step φ G H φ' G' H' → Wd K cl φ' S G' H' → ∀ v, IsD K φ' G' z v → Q v H') → r x H Q
def CallS (K : PySem.W.Frag) (cl : Cl) (r : List V → Hp → VK → Prop) (f : Store → List D → Option D) : Prop :=
  ∀ (φ : List Addr) (S : Store) (G H : Hp) (xs : List V) (ds : List D) (z : D) (Q : VK), Wd K cl φ S G H → IsDs K φ G ds xs → f S ds = some z →
    (∀ φ' G' H', Step φ G H φ' G' H' → Wd K cl φ' S G' H' → ∀ v, IsD K φ' G' z v → Q v H') → r xs H Q
theorem tOp_of {r : R2} {f : Store → D → D → Option D} {ma mb : M D} (hs : OpS K cl r f) (ht : TkOk tk) {σ : St} {H : Hp} {Q : VK} (h : tM K cl tk (mOp2 f ma mb) σ H Q) : tOp r (tM K cl tk ma) (tM K cl tk mb) σ H Q := by
  obtain ⟨φ, G, g, S, r, S', w, s, e, k⟩ := h
  refine tM_bind ht w s e k fun d φ1 G1 H1 S1 x st1 w1 s1 hx e1 k1 => ?_
  refine tM_bind ht w1 s1 e1 k1 fun d2 φ2 G2 H2 S2 y st2 w2 s2 hy e2 k2 => ?_
  obtain ⟨z, ez, rfl, rfl⟩ := mL_ok e2
  exact hs _ _ _ _ _ _ _ _ _ _ w2 (hx.mono st2.pre st2.ex) hy ez k2
theorem re_op2 {op : Operator} {r : R2} {f : Store → D → D → Option D} {a b : Expr} {pos : Pos} {ma mb : M D} (ho : OpR X (binaryOp op) r) (hs : OpS X.K cl r f) (ha : RE X cl tk a ma) (hb : RE X cl tk b mb) : RE X cl tk (.BinOp a op b pos) (mOp2 f ma mb) :=
  pe_imp (pe_op ho ha hb) fun _ _ _ h => tOp_of hs T.ok h
theorem re_op1 {op : UnaryOp} {r : V → Hp → VK → Prop} {f : Store → D → Option D} {a : Expr} {pos : Pos} {ma : M D} (ho : UnR X (unaryOp op) r) (hs : UnS X.K cl r f) (ha : RE X cl tk a ma) : RE X cl tk (.UnaryOp op a pos) (mOp1 f ma) := by
  refine pe_imp (pe_un ho ha) fun σ H Q ⟨φ, G, g, S, r, S', w, s, e, k⟩ => ?_
  refine tM_bind T.ok w s e k fun d φ1 G1 H1 S1 x st1 w1 s1 hx e1 k1 => ?_
  obtain ⟨z, ez, rfl, rfl⟩ := mL_ok e1
  exact hs _ _ _ _ _ _ _ _ w1 hx ez k1
theorem re_cmp {op : CmpOp} {r : R2} {f : Store → D → D → Option D} {a b : Expr} {pos : Pos} {ma mb : M D} (ho : OpR X (compareOp op) r) (hs : OpS X.K cl r f) (ha : RE X cl tk a ma) (hb : RE X cl tk b mb) (hm : behindInMarks op b = false := by first | exact nomark _ | rfl) :
    RE X cl tk (.Compare a [op] [b] pos) (mOp2 f ma mb) := pe_imp (pe_cmpR ho ha hb hm) fun _ _ _ h => tOp_of hs T.ok h
/-- a bool as a test -/
def mT (m : M D) : M Bool := mB m fun d => mL fun _ => match d with
  | .bl b => some b
  | _ => none
theorem mT_ok {m : M D} {g : Gm} {S S' : Store} {r : R Bool} (h : mT m g S = some (r, S')) : (∃ b, m g S = some (.ok (.bl b), S') ∧ r = .ok b) ∨ (∃ c fs, m g S = some (.exc c fs, S') ∧ r = .exc c fs) := by
  rcases mB_ok h with ⟨d, S1, e1, e2⟩ | ⟨c, fs, e1, rfl⟩
  · obtain ⟨z, ez, rfl, rfl⟩ := mL_ok e2
    cases d <;> first | (cases ez; exact .inl ⟨_, e1, rfl⟩) | cases ez
  · exact .inr ⟨c, fs, e1, rfl⟩
theorem tTest_of {m : M D} {t : TE} {σ : St} {H : Hp} {Q : Bool → Hp → Prop} (h : tMT K cl tk (mT m) σ H Q) (i : ∀ Q, tM K cl tk m σ H Q → t σ H Q) : tTest t σ H Q := by
  obtain ⟨φ, G, g, S, r, S', w, s, e, k⟩ := h
  refine i _ ?_
  rcases mT_ok e with ⟨b, e1, rfl⟩ | ⟨c, fs, e1, rfl⟩
  · refine ⟨φ, G, g, S, _, _, w, s, e1, fun φ1 G1 H1 st w1 v hv => ?_⟩
    simp only [IsD] at hv
    exact ⟨b, hv, k φ1 G1 H1 st w1⟩
  · exact ⟨φ, G, g, S, _, _, w, s, e1, k⟩
theorem rt_cmp {op : CmpOp} {r : R2} {f : Store → D → D → Option D} {a b : Expr} {pos : Pos} {ma mb : M D} (ho : OpR X (compareOp op) r) (hs : OpS X.K cl r f) (ha : RE X cl tk a ma) (hb : RE X cl tk b mb) (hm : behindInMarks op b = false := by first | exact nomark _ | rfl) :
    RT X cl tk (.Compare a [op] [b] pos) (mT (mOp2 f ma mb)) := pt_imp (pt_cmpR ho ha hb hm) fun _ _ _ h => tTest_of h fun _ q => tOp_of hs T.ok q
/-- an expression that gives a bool, as a test -/
theorem rt_val {e : Expr} {m : M D} (h : RE X cl tk e m) (he : ∀ whole, isTrue e X.env whole = (do let v ← whole; standAt e.pos; holding [v] (truthy v)) := by intro _; rfl) : RT X cl tk e (mT m) :=
  pt_imp (pt_val h he) fun _ _ _ h => tTest_of h fun _ q => q
/-- a <= b < c -/
def mCh (f f' : Store → D → D → Option D) (ma mb mc : M D) : M D := mB ma fun x => mB mb fun y => mB (mL fun S => f S x y) fun z => match z with
  | .bl true => mB mc fun u => mL fun S => f' S y u
  | .bl false => mP (.bl false)
  | _ => fun _ _ => none
/-- a two-place relation that gives a bool and leaves all as it is -/
def RelS (K : PySem.W.Frag) (cl : Cl) (r : R2) (f : Store → D → D → Option D) : Prop :=
  ∀ (φ : List Addr) (S : Store) (G H : Hp) (x y : V) (d e z : D) (Q : VK), Wd K cl φ S G H → IsD K φ G d x → IsD K φ G e y → f S d e = some z → (∃ b, z = .bl b ∧ (Q (.bl b) H → r x y H Q))
theorem RelS.op {r : R2} {f : Store → D → D → Option D} (h : RelS K cl r f) : OpS K cl r f := fun φ S G H x y d e z Q w h1 h2 h3 k => by
  obtain ⟨b, rfl, i⟩ := h φ S G H x y d e z Q w h1 h2 h3
  exact i (k φ G H (Step.refl _ _ _) w _ (by simp only [IsD]))
theorem tChain_of {r r' : R2} {f f' : Store → D → D → Option D} {ma mb mc : M D} (hs : RelS K cl r f) (hs' : RelS K cl r' f') (ht : TkOk tk) {σ : St} {H : Hp} {Q : VK} (h : tM K cl tk (mCh f f' ma mb mc) σ H Q) :
    tChain r r' (tM K cl tk ma) (tM K cl tk mb) (tM K cl tk mc) σ H Q := by
  obtain ⟨φ, G, g, S, r, S', w, s, e, k⟩ := h
  refine tM_bind ht w s e k fun d φ1 G1 H1 S1 x st1 w1 s1 hx e1 k1 => ?_
  refine tM_bind ht w1 s1 e1 k1 fun d2 φ2 G2 H2 S2 y st2 w2 s2 hy e2 k2 => ?_
  rcases mB_ok e2 with ⟨z, S3, e3, e4⟩ | ⟨c, fs, e3, rfl⟩
  · obtain ⟨z', ez, e5, rfl⟩ := mL_ok e3
    cases e5
    obtain ⟨b, rfl, i⟩ := hs _ _ _ _ _ _ _ _ _ _ w2 (hx.mono st2.pre st2.ex) hy ez
    refine i ⟨b, rfl, ?_⟩
    cases b with
    | true =>
      rw [if_pos rfl]
      refine tM_bind ht w2 s2 e4 k2 fun d3 φ3 G3 H3 S3 u st3 w3 s3 hu e6 k3 => ?_
      obtain ⟨z, ez', rfl, rfl⟩ := mL_ok e6
      exact hs'.op _ _ _ _ _ _ _ _ _ _ w3 (hy.mono st3.pre st3.ex) hu ez' k3
    | false =>
      rw [if_neg Bool.false_ne_true]
      cases e4
      exact k2.now w2 _ (by simp only [IsD])
  · obtain ⟨_, _, q, _⟩ := mL_ok e3
    cases q
theorem re_chain {op op' : CmpOp} {r r' : R2} {f f' : Store → D → D → Option D} {a b c : Expr} {pos : Pos} {ma mb mc : M D} (ho : OpR X (compareOp op) r) (ho' : OpR X (compareOp op') r') (hs : RelS X.K cl r f) (hs' : RelS X.K cl r' f')
    (ha : RE X cl tk a ma) (hb : RE X cl tk b mb) (hc : RE X cl tk c mc) (hm : lastMarks [op, op'] [b, c] = false := by with_unfolding_all rfl) :
    RE X cl tk (.Compare a [op, op'] [b, c] pos) (mCh f f' ma mb mc) := by
  refine pe_imp (pe_chain ho ho' ha hb hc hm) fun _ _ _ h => tChain_of hs hs' T.ok h
theorem rt_chain {op op' : CmpOp} {r r' : R2} {f f' : Store → D → D → Option D} {a b c : Expr} {pos : Pos} {ma mb mc : M D} (ho : OpR X (compareOp op) r) (ho' : OpR X (compareOp op') r') (hs : RelS X.K cl r f) (hs' : RelS X.K cl r' f')
    (ha : RE X cl tk a ma) (hb : RE X cl tk b mb) (hc : RE X cl tk c mc) (hm : lastMarks [op, op'] [b, c] = false := by with_unfolding_all rfl) :
    RT X cl tk (.Compare a [op, op'] [b, c] pos) (mT (mCh f f' ma mb mc)) :=
  pt_imp (pt_chain ho ho' ha hb hc hm) fun _ _ _ h => tTest_of h fun _ q => tChain_of hs hs' T.ok q
end
end Mi
namespace Mi
open PySem L2
section
variable {X : Cx} {cl : Cl} {tk : WX → Prop} [T : Tk X tk]
variable {K : PySem.W.Frag}

/-! ### and, or, not, if as an expression -/
def mAndT (m n : M Bool) : M Bool := mB m fun b => if b = true then n else mP false
def mOrT (m n : M Bool) : M Bool := mB m fun b => if b = true then mP true else n
def mNotT (m : M Bool) : M Bool := mB m fun b => mP (!b)
theorem rw_and1 {a : Expr} {pos : Pos} {m : M Bool} (ha : RT X cl tk a m) : RW X cl tk (.BoolOp .And [a] pos) m := pw_and1 ha
theorem rw_or1 {a : Expr} {pos : Pos} {m : M Bool} (ha : RT X cl tk a m) : RW X cl tk (.BoolOp .Or [a] pos) m := pw_or1 ha
theorem rw_and {a b : Expr} {rest : List Expr} {pos : Pos} {m n : M Bool} (ha : RT X cl tk a m) (hb : RW X cl tk (.BoolOp .And (b :: rest) pos) n) : RW X cl tk (.BoolOp .And (a :: b :: rest) pos) (mAndT m n) := by
  refine pw_imp (pw_and ha hb) fun σ H Q ⟨φ, G, g, S, r, S', w, s, e, k⟩ => ?_
  refine tMT_bind T.ok w s e k fun d φ1 G1 H1 S1 st1 w1 s1 e1 k1 => ?_
  cases d with
  | true =>
    rw [if_pos rfl] at e1 ⊢
    exact ⟨_, _, _, _, _, _, w1, s1, e1, k1⟩
  | false =>
    rw [if_neg Bool.false_ne_true] at e1 ⊢
    cases e1
    exact k1.now w1
theorem rw_or {a b : Expr} {rest : List Expr} {pos : Pos} {m n : M Bool} (ha : RT X cl tk a m) (hb : RW X cl tk (.BoolOp .Or (b :: rest) pos) n) : RW X cl tk (.BoolOp .Or (a :: b :: rest) pos) (mOrT m n) := by
  refine pw_imp (pw_or ha hb) fun σ H Q ⟨φ, G, g, S, r, S', w, s, e, k⟩ => ?_
  refine tMT_bind T.ok w s e k fun d φ1 G1 H1 S1 st1 w1 s1 e1 k1 => ?_
  cases d with
  | true =>
    rw [if_pos rfl] at e1 ⊢
    cases e1
    exact k1.now w1
  | false =>
    rw [if_neg Bool.false_ne_true] at e1 ⊢
    exact ⟨_, _, _, _, _, _, w1, s1, e1, k1⟩
theorem rt_w {a : Expr} {m : M Bool} (h : RW X cl tk a m) : RT X cl tk a m := h.pt
theorem rt_not {a : Expr} {pos : Pos} {m : M Bool} (ha : RT X cl tk a m) : RT X cl tk (.UnaryOp .Not a pos) (mNotT m) := by
  refine pt_imp (pt_not ha) fun σ H Q ⟨φ, G, g, S, r, S', w, s, e, k⟩ => ?_
  refine tMT_bind T.ok w s e k fun d φ1 G1 H1 S1 st1 w1 s1 e1 k1 => ?_
  cases e1
  exact k1.now w1
/-- as values (bools) -/
def mBl (m : M D) (f : Bool → M D) : M D := mB m fun d => match d with
  | .bl b => f b
  | _ => fun _ _ => none
def mAndV (m n : M D) : M D := mBl m fun b => if b = true then n else mP (.bl false)
def mOrV (m n : M D) : M D := mBl m fun b => if b = true then mP (.bl true) else n
def mNotV (m : M D) : M D := mBl m fun b => mP (.bl (!b))
theorem re_one {op} {a : Expr} {pos : Pos} {m : M D} (h : RE X cl tk a m) : RE X cl tk (.BoolOp op [a] pos) m := pe_one h
theorem tM_bl {m : M D} {f : Bool → M D} {σ : St} {φ : List Addr} {G H : Hp} {g : Gm} {S S' : Store} {r : R D} {Qβ : List Addr → Hp → Hp → D → Prop} {Q : VK} (ht : TkOk tk)
    (w : Wd K cl φ S G H) (s : Sl K cl φ G g σ) (e : mBl m f g S = some (r, S')) (k : Ko K cl tk φ G H g r S' Qβ)
    (h : ∀ b φ1 G1 H1 S1, Step φ G H φ1 G1 H1 → Wd K cl φ1 S1 G1 H1 → Sl K cl φ1 G1 g σ → f b g S1 = some (r, S') → Ko K cl tk φ1 G1 H1 g r S' Qβ → Q (.bl b) H1) : tM K cl tk m σ H Q :=
  tM_bind ht w s e k fun d φ1 G1 H1 S1 v st1 w1 s1 hv e1 k1 => by
    cases d <;> first | (cases e1; done) | (simp only [IsD] at hv; subst hv; exact h _ _ _ _ _ st1 w1 s1 e1 k1)
theorem re_and {a b : Expr} {rest : List Expr} {pos : Pos} {m n : M D} (ha : RE X cl tk a m) (hb : RE X cl tk (.BoolOp .And (b :: rest) pos) n) : RE X cl tk (.BoolOp .And (a :: b :: rest) pos) (mAndV m n) := by
  refine pe_imp (pe_and ha hb) fun σ H Q ⟨φ, G, g, S, r, S', w, s, e, k⟩ => ?_
  refine tM_bl T.ok w s e k fun d φ1 G1 H1 S1 st1 w1 s1 e1 k1 => ⟨d, rfl, ?_⟩
  cases d with
  | true =>
    rw [if_pos rfl] at e1 ⊢
    exact ⟨_, _, _, _, _, _, w1, s1, e1, k1⟩
  | false =>
    rw [if_neg Bool.false_ne_true] at e1 ⊢
    cases e1
    exact k1.now w1 _ (by simp only [IsD])
theorem re_or {a b : Expr} {rest : List Expr} {pos : Pos} {m n : M D} (ha : RE X cl tk a m) (hb : RE X cl tk (.BoolOp .Or (b :: rest) pos) n) : RE X cl tk (.BoolOp .Or (a :: b :: rest) pos) (mOrV m n) := by
  refine pe_imp (pe_or ha hb) fun σ H Q ⟨φ, G, g, S, r, S', w, s, e, k⟩ => ?_
  refine tM_bl T.ok w s e k fun d φ1 G1 H1 S1 st1 w1 s1 e1 k1 => ⟨d, rfl, ?_⟩
  cases d with
  | true =>
    rw [if_pos rfl] at e1 ⊢
    cases e1
    exact k1.now w1 _ (by simp only [IsD])
  | false =>
    rw [if_neg Bool.false_ne_true] at e1 ⊢
    exact ⟨_, _, _, _, _, _, w1, s1, e1, k1⟩
theorem re_not {a : Expr} {pos : Pos} {m : M D} (ha : RE X cl tk a m) : RE X cl tk (.UnaryOp .Not a pos) (mNotV m) := by
  refine pe_imp (pe_not ha) fun σ H Q ⟨φ, G, g, S, r, S', w, s, e, k⟩ => ?_
  refine tM_bl T.ok w s e k fun d φ1 G1 H1 S1 st1 w1 s1 e1 k1 => ⟨d, rfl, ?_⟩
  cases e1
  exact k1.now w1 _ (by simp only [IsD])
def mIf (c : M Bool) (m n : M D) : M D := mB c fun b => if b = true then m else n
theorem re_if {c a b : Expr} {pos : Pos} {mc : M Bool} {m n : M D} (hc : RT X cl tk c mc) (ha : RE X cl tk a m) (hb : RE X cl tk b n) : RE X cl tk (.IfExp c a b pos) (mIf mc m n) := by
  refine pe_imp (pe_ifExp hc ha hb) fun σ H Q ⟨φ, G, g, S, r, S', w, s, e, k⟩ => ?_
  refine tMT_bind T.ok w s e k fun d φ1 G1 H1 S1 st1 w1 s1 e1 k1 => ?_
  cases d with
  | true =>
    rw [if_pos rfl] at e1 ⊢
    exact ⟨_, _, _, _, _, _, w1, s1, e1, k1⟩
  | false =>
    rw [if_neg Bool.false_ne_true] at e1 ⊢
    exact ⟨_, _, _, _, _, _, w1, s1, e1, k1⟩

/-! ### argument lists, displays -/
def mNil : M (List D) := mP []
def mCons (m : M D) (n : M (List D)) : M (List D) := mB m fun d => mB n fun ds => mP (d :: ds)
theorem ra_nil : RA X cl tk [] mNil := by
  refine pa_imp pa_nil fun σ H Q ⟨φ, G, g, S, r, S', w, s, e, k⟩ => ?_
  cases e
  exact k.now w _ .nil
theorem ra_cons {a : Expr} {es : List Expr} {m : M D} {n : M (List D)} (ha : RE X cl tk a m) (hr : RA X cl tk es n) (hs : starEach (a :: es) X.env = (false, eval a X.env) :: starEach es X.env := by rfl) : RA X cl tk (a :: es) (mCons m n) := by
  refine pa_imp (pa_cons ha hr hs) fun σ H Q ⟨φ, G, g, S, r, S', w, s, e, k⟩ => ?_
  refine tM_bind T.ok w s e k fun d φ1 G1 H1 S1 x st1 w1 s1 hx e1 k1 => ?_
  refine tMA_bind T.ok w1 s1 e1 k1 fun ds φ2 G2 H2 S2 xs st2 w2 s2 hxs e2 k2 => ?_
  cases e2
  exact k2.now w2 _ (.cons (hx.mono st2.pre st2.ex) hxs)
/-- a bound, not to be run by the kernel -/
noncomputable def cdec (p : Prop) : Bool := @decide p (Classical.propDecidable p)
theorem cdec_iff {p : Prop} : cdec p = true ↔ p := @decide_eq_true_iff p (Classical.propDecidable p)
@[simp] theorem cdec_eq {p : Prop} : (cdec p = true) = p := propext cdec_iff
noncomputable def szOk (n : Nat) : Bool := cdec (n ≤ 16777216)
theorem szOk_le {n : Nat} (h : szOk n = true) : n ≤ sizeLine := by rw [sizeLine_eq]; exact cdec_iff.mp h
noncomputable def fTup : Store → List D → Option D := fun _ ds => if szOk ds.length = true then some (.tup ds) else none
noncomputable def fLst : Store → List D → Option D := fun _ ds => if szOk ds.length = true then some (.lst ds) else none
def mOpA (f : Store → List D → Option D) (m : M (List D)) : M D := mB m fun ds => mL fun S => f S ds
theorem re_tup {es : List Expr} {k : Nat} {pos : Pos} {m : M (List D)} (h : RA X cl tk es m) : RE X cl tk (.Tuple es k pos) (mOpA fTup m) := by
  refine pe_imp (pe_tup h) fun σ H Q ⟨φ, G, g, S, r, S', w, s, e, k⟩ => ?_
  refine tMA_bind T.ok w s e k fun d φ1 G1 H1 S1 x st1 w1 s1 hx e1 k1 => ?_
  obtain ⟨z, ez, rfl, rfl⟩ := mL_ok e1
  unfold fTup at ez
  split at ez
  · rename_i hz
    cases ez
    exact ⟨by rw [← hx.length]; exact szOk_le hz, new_tup w1 hx k1⟩
  · cases ez
theorem re_lst {es : List Expr} {pos : Pos} {m : M (List D)} (h : RA X cl tk es m) : RE X cl tk (.List es pos) (mOpA fLst m) := by
  refine pe_imp (pe_lst h) fun σ H Q ⟨φ, G, g, S, r, S', w, s, e, k⟩ => ?_
  refine tMA_bind T.ok w s e k fun d φ1 G1 H1 S1 x st1 w1 s1 hx e1 k1 => ?_
  obtain ⟨z, ez, rfl, rfl⟩ := mL_ok e1
  unfold fLst at ez
  split at ez
  · rename_i hz
    cases ez
    exact ⟨by rw [← hx.length]; exact szOk_le hz, new_lst w1 hx k1⟩
  · cases ez

/-! ### new cells -/
theorem cell_step (w : Wd K cl φ S G H) {p : Addr} (hp : H p = none) (o : HO) : Step φ G H (φ ++ [p]) G (upd H p o) where
  pre := List.prefix_append _ _
  ex := Ex.refl _
  gn := fun a h => .inl h
  keep := fun a u h _ => Ex.new hp a u h
  new := fun a h => by
    rcases List.mem_append.mp h with h | h
    · exact .inl h
    · rw [List.mem_singleton.mp h]; exact .inr hp
theorem cell_wd {φ : List Addr} {S : Store} {G H : Hp} (w : Wd K cl φ S G H) {p : Addr} (hp : H p = none) {o : HO} {c : Cell} (hc : ∀ φ' G' H', φ <+: φ' → Ex G G' → H' p = some o → CellOk K cl φ' G' H' p c) : Wd K cl (φ ++ [p]) (S ++ [c]) G (upd H p o) where
  len := by simp [w.len]
  iv := w.iv
  sub := fun a u h => Ex.new hp a u (w.sub a u h)
  nd := by
    refine List.nodup_append.mpr ⟨w.nd, by simp, fun a ha b hb e => ?_⟩
    rw [List.mem_singleton.mp hb] at e
    exact w.tr a ha (by rw [e]; exact hp)
  tr := fun a h => by
    by_cases e : a = p
    · subst e; rw [upd_same]; simp
    · rw [upd_ne e]
      rcases List.mem_append.mp h with h | h
      · exact w.tr a h
      · exact absurd (List.mem_singleton.mp h) e
  ap := fun i c' a h1 h2 h3 => by
    by_cases hi : i < S.length
    · rw [List.getElem?_append_left hi] at h1
      rw [List.getElem?_append_left (by rw [w.len]; exact hi)] at h2
      exact w.ap i c' a h1 h2 h3
    · rw [List.getElem?_append_right (by rw [w.len]; omega)] at h2
      have : i - φ.length = 0 := by
        have := (List.getElem?_eq_some_iff.mp h2).1
        simp at this; omega
      rw [this] at h2
      simp at h2; subst h2
      exact w.gnone hp
  ok := fun i c' a h1 h2 => by
    by_cases hi : i < S.length
    · rw [List.getElem?_append_left hi] at h1
      rw [List.getElem?_append_left (by rw [w.len]; exact hi)] at h2
      exact (w.ok i c' a h1 h2).mono (List.prefix_append _ _) (Ex.refl _) (Ex.new hp a)
    · rw [List.getElem?_append_right (by omega)] at h1
      rw [List.getElem?_append_right (by rw [w.len]; omega)] at h2
      have e0 : i - S.length = 0 := by
        have := (List.getElem?_eq_some_iff.mp h1).1
        simp at this; omega
      rw [w.len, e0] at h2
      rw [e0] at h1
      simp at h1 h2; subst h1 h2
      exact hc _ _ _ (List.prefix_append _ _) (Ex.refl _) upd_same
theorem cell_ref {φ : List Addr} {G : Hp} {p : Addr} {n : Nat} (h : φ.length = n) : IsD K (φ ++ [p]) G (.ref n) (.ref p) := by
  simp only [IsD]
  exact ⟨p, rfl, by rw [List.getElem?_append_right (by omega)]; simp [h]⟩
/-- [..] as a cell of the store -/
noncomputable def mNewL (m : M (List D)) : M D := mB m fun ds => fun _ S => if szOk ds.length = true then some (.ok (.ref S.length), S ++ [.lst ds]) else none
theorem re_lstM {es : List Expr} {pos : Pos} {m : M (List D)} (h : RA X cl tk es m) : RE X cl tk (.List es pos) (mNewL m) := by
  refine pe_imp (pe_lst h) fun σ H Q ⟨φ, G, g, S, r, S', w, s, e, k⟩ => ?_
  refine tMA_bind T.ok w s e k fun d φ1 G1 H1 S1 x st1 w1 s1 hx e1 k1 => ?_
  split at e1
  · rename_i hz
    cases e1
    refine ⟨by rw [← hx.length]; exact szOk_le hz, fun p hp => ?_⟩
    exact k1 _ _ _ (cell_step w1 hp _) (cell_wd w1 hp fun φ' G' H' p1 p2 h3 => ⟨_, h3, hx.mono p1 p2⟩) _ (cell_ref w1.len)
  · cases e1

/-! ### subscripts -/
def asL (S : Store) : D → Option (List D)
  | .lst l => some l
  | .tup l => some l
  | .ref i => match S[i]? with
    | some (.lst l) => some l
    | _ => none
  | _ => none
def asLL (S : Store) : D → Option (List D)
  | .lst l => some l
  | .ref i => match S[i]? with
    | some (.lst l) => some l
    | _ => none
  | _ => none
theorem asLL_sq {φ : List Addr} {S : Store} {G H : Hp} (w : Wd K cl φ S G H) {d : D} {v : V} {l : List D} (h : IsD K φ G d v) (e : asLL S d = some l) :
    ∃ a xs, v = .ref a ∧ H a = some (.lst xs) ∧ IsDs K φ G l xs := by
  cases d <;> simp only [asLL] at e <;> try (cases e; done)
  · cases e
    simp only [IsD] at h
    obtain ⟨a, xs, h1, h2, h3⟩ := h
    exact ⟨a, xs, h1, w.sub _ _ h2, h3⟩
  · split at e
    · cases e
      rename_i i l hi
      simp only [IsD] at h
      obtain ⟨a, h1, h2⟩ := h
      obtain ⟨vs, h3, h4⟩ := w.ok _ _ _ hi h2
      exact ⟨a, vs, h1, h3, h4⟩
    · cases e
theorem asL_sq {φ : List Addr} {S : Store} {G H : Hp} (w : Wd K cl φ S G H) {d : D} {v : V} {l : List D} (h : IsD K φ G d v) (e : asL S d = some l) :
    ∃ a xs, v = .ref a ∧ (SqL K H a xs ∨ SqT K H a xs) ∧ IsDs K φ G l xs := by
  cases d <;> simp only [asL] at e <;> try (cases e; done)
  · cases e
    simp only [IsD] at h
    obtain ⟨a, xs, h1, h2, h3⟩ := h
    exact ⟨a, xs, h1, .inr (Ex.t w.sub h2), h3⟩
  · cases e
    simp only [IsD] at h
    obtain ⟨a, xs, h1, h2, h3⟩ := h
    exact ⟨a, xs, h1, .inl (SqL.of (w.sub _ _ h2)), h3⟩
  · split at e
    · cases e
      rename_i i l hi
      simp only [IsD] at h
      obtain ⟨a, h1, h2⟩ := h
      obtain ⟨vs, h3, h4⟩ := w.ok _ _ _ hi h2
      exact ⟨a, vs, h1, .inl (SqL.of h3), h4⟩
    · cases e
noncomputable def fIx : Store → D → D → Option D := fun S d e => match d, e with
  | .str z, .int i => if szOk z.length = true then (atI z.cps.toList i).map fun c => .str ⟨#[c]⟩ else none
  | d, .int i => (asL S d).bind fun l => atI l i
  | _, _ => none
theorem atI_of {l : List D} {xs : List V} {i : Int} {d : D} {φ : List Addr} {G : Hp} (h : IsDs K φ G l xs) (e : atI l i = some d) : ∃ v, atI xs i = some v ∧ IsD K φ G d v := by
  unfold atI at e ⊢
  rw [← h.length]
  cases q : ixN l.length i with
  | none => rw [q] at e; cases e
  | some j =>
    rw [q] at e
    exact h.get e
theorem fIx_ok : OpS K cl (rIx K) fIx := fun φ S G H x y d0 e z Q w h1 h2 h3 k => by
  unfold fIx at h3
  split at h3
  · rename_i z' i
    split at h3
    · rename_i hz
      simp only [IsD] at h1 h2
      subst h1 h2
      cases q : atI z'.cps.toList i with
      | none => rw [q] at h3; cases h3
      | some c =>
        rw [q] at h3
        cases h3
        exact .inr (.inr ⟨z', i, c, rfl, rfl, szOk_le hz, q, k _ _ _ (Step.refl _ _ _) w _ (by simp only [IsD])⟩)
    · cases h3
  · rename_i d i _
    simp only [IsD] at h2
    subst h2
    cases q : asL S d0 with
    | none => rw [q] at h3; cases h3
    | some l =>
      rw [q] at h3
      have h3' : atI l i = some z := h3
      obtain ⟨a, xs, rfl, h4, h5⟩ := asL_sq w h1 q
      obtain ⟨v, h6, h7⟩ := atI_of h5 h3'
      rcases h4 with h4 | h4
      · exact .inl ⟨a, xs, i, v, rfl, rfl, h4, h6, k _ _ _ (Step.refl _ _ _) w _ h7⟩
      · exact .inr (.inl ⟨a, xs, i, v, rfl, rfl, h4, h6, k _ _ _ (Step.refl _ _ _) w _ h7⟩)
  · cases h3
theorem re_ix {a b : Expr} {pos : Pos} {ma mb : M D} (ha : RE X cl tk a ma) (hb : RE X cl tk b mb) (hs : PlainIx b := by exact fun _ _ => rfl) : RE X cl tk (.Subscript a b pos) (mOp2 fIx ma mb) :=
  pe_imp (pe_ix ix_seq ha hb hs) fun _ _ _ h => tOp_of fIx_ok T.ok h

/-! ### slices -/
abbrev RO (X : Cx) (cl : Cl) (tk : WX → Prop) (a : Option Expr) (m : M (Option Int)) : Prop :=
  PO X a fun σ H Q => ∃ φ G g S r S', Wd X.K cl φ S G H ∧ Sl X.K cl φ G g σ ∧ m g S = some (r, S') ∧ Ko X.K cl tk φ G H g r S' fun _ _ H' o => Q o H'
def mPart (m : M D) : M (Option Int) := mB m fun d => mL fun _ => match d with
  | .int i => some (some i)
  | _ => none
theorem po_imp {a : Option Expr} {t t' : TO} (h : PO X a t) (i : ∀ σ H Q, t' σ H Q → t σ H Q) : PO X a t' := ⟨fun pins s σ H Q I q => h.run pins s σ H Q I (i σ H Q q)⟩
theorem ro_none : RO X cl tk none (mP none) := by
  refine po_imp po_none fun σ H Q ⟨φ, G, g, S, r, S', w, s, e, k⟩ => ?_
  cases e
  exact k.now w
theorem ro_some {a : Expr} {m : M D} (h : RE X cl tk a m) : RO X cl tk (some a) (mPart m) := by
  refine po_imp (po_some h) fun σ H Q ⟨φ, G, g, S, r, S', w, s, e, k⟩ => ?_
  refine tM_bind T.ok w s e k fun d φ1 G1 H1 S1 x st1 w1 s1 hx e1 k1 => ?_
  obtain ⟨z, ez, rfl, rfl⟩ := mL_ok e1
  cases d <;> first | (cases ez; done) | skip
  cases ez
  simp only [IsD] at hx
  exact ⟨_, hx, k1.now w1⟩
def cutD (xs : List D) (lo hi : Option Int) : List D := (xs.drop (HT.sIx xs.length 0 lo)).take (HT.sIx xs.length xs.length hi - HT.sIx xs.length 0 lo)
noncomputable def fSl (S : Store) (d : D) (lo hi : Option Int) : Option D := match d with
  | .str z => if szOk z.length = true then some (.str (cutS z lo hi)) else none
  | .tup l => if HT.sIx l.length 0 lo = 0 ∧ HT.sIx l.length l.length hi = l.length then none else some (.tup (cutD l lo hi))
  | d => (asLL S d).map fun l => .lst (cutD l lo hi)
theorem IsDs.cut {φ : List Addr} {G : Hp} {l : List D} {xs : List V} (lo hi : Option Int) (h : IsDs K φ G l xs) : IsDs K φ G (cutD l lo hi) (cutV xs lo hi) := by
  unfold cutD cutV
  rw [← h.length]
  exact (h.drop _).take _
def rSl (K : PySem.W.Frag) : V → Option Int → Option Int → Hp → VK → Prop := fun x lo hi H Q => rSlL K x lo hi H Q ∨ rSlT K x lo hi H Q ∨ rSlS x lo hi H Q
theorem sl_seq : SlR X (rSl X.K) := sl_list.or (sl_tup.or sl_str)
noncomputable def mSl (m : M D) (lo hi : M (Option Int)) : M D := mB m fun d => mB lo fun l => mB hi fun h => mL fun S => fSl S d l h
theorem fSl_ok {φ : List Addr} {S : Store} {G H : Hp} {x : V} {d z : D} {lo hi : Option Int} {Q : VK} (w : Wd K cl φ S G H) (h1 : IsD K φ G d x) (h3 : fSl S d lo hi = some z)
    (k : ∀ φ' G' H', Step φ G H φ' G' H' → Wd K cl φ' S G' H' → ∀ v, IsD K φ' G' z v → Q v H') : rSl K x lo hi H Q := by
  unfold fSl at h3
  split at h3
  · split at h3
    · rename_i hz
      cases h3
      simp only [IsD] at h1
      exact .inr (.inr ⟨_, h1, szOk_le hz, k _ _ _ (Step.refl _ _ _) w _ (by simp only [IsD])⟩)
    · cases h3
  · split at h3
    · cases h3
    · rename_i l hz
      cases h3
      simp only [IsD] at h1
      obtain ⟨a, xs, rfl, h4, h5⟩ := h1
      refine .inr (.inl ⟨a, xs, rfl, Ex.t w.sub h4, by rw [← h5.length]; exact hz, new_tup w (h5.cut lo hi) k⟩)
  · cases q : asLL S d with
    | none => rw [q] at h3; cases h3
    | some l =>
      rw [q] at h3
      cases h3
      obtain ⟨a, xs, rfl, h4, h5⟩ := asLL_sq w h1 q
      exact .inl ⟨a, xs, rfl, SqL.of h4, new_lst w (h5.cut lo hi) k⟩
theorem re_sl {a : Expr} {lo hi : Option Expr} {p2 pos : Pos} {m : M D} {ml mh : M (Option Int)} (ha : RE X cl tk a m) (hl : RO X cl tk lo ml) (hh : RO X cl tk hi mh) : RE X cl tk (.Subscript a (.Slice lo hi none p2) pos) (mSl m ml mh) := by
  refine pe_imp (pe_slice sl_seq ha hl hh) fun σ H Q ⟨φ, G, g, S, r, S', w, s, e, k⟩ => ?_
  refine tM_bind T.ok w s e k fun d φ1 G1 H1 S1 x st1 w1 s1 hx e1 k1 => ?_
  rcases mB_ok e1 with ⟨l, S2, e2, e3⟩ | ⟨c, fs, e2, rfl⟩
  · refine ⟨φ1, G1, g, S1, _, _, w1, s1, e2, fun φ2 G2 H2 st2 w2 => ?_⟩
    rcases mB_ok e3 with ⟨h, S3, e4, e5⟩ | ⟨c, fs, e4, rfl⟩
    · refine ⟨φ2, G2, g, S2, _, _, w2, s1.step st2, e4, fun φ3 G3 H3 st3 w3 => ?_⟩
      obtain ⟨z, ez, rfl, rfl⟩ := mL_ok e5
      exact fSl_ok w3 (hx.mono (st2.trans st3).pre (st2.trans st3).ex) ez (k1.step T.ok (st2.trans st3))
    · exact ⟨φ2, G2, g, S2, _, _, w2, s1.step st2, e4, k1.step T.ok st2⟩
  · exact ⟨φ1, G1, g, S1, _, _, w1, s1, e2, k1⟩
end
end Mi
namespace Mi
open PySem L2
open PyProof.Rows (envOfC)

/-! ### a def's promise -/
/-- def f promises what m gives -/
def spM (K : PySem.W.Frag) (cl : Cl) (m : MF) : Sp := fun vs H Q E => ∃ φ G S ds r S', Wd K cl φ S G H ∧ IsDs K φ G ds vs ∧ m ds S = some (r, S') ∧
  match r with
  | .ok d => ∀ φ' G' H', Step φ G H φ' G' H' → Wd K cl φ' S' G' H' → ∀ v, IsD K φ' G' d v → Q v H'
  | .exc c fs => ∀ cls dd φ' G' H', wE K cl φ G H S' c fs cls dd φ' G' H' → E cls dd H'
/-- N names, the first np the parameters -/
def mFn (N np : Nat) (b : MS) : MF := fun ds S => if ds.length = np then
    match b (ds.map some ++ List.replicate (N - np) none) S with
    | some (.rt d, S') => some (.ok d, S')
    | some (.nx _, S') => some (.ok .non, S')
    | some (.ex _ c fs, S') => some (.exc c fs, S')
    | _ => none
  else none
theorem sl_start {K : PySem.W.Frag} {cl : Cl} (hh : cl.hd = none) {φ : List Addr} {G : Hp} {N : List Str} : ∀ {ds : List D} {vs : List V}, IsDs K φ G ds vs → Sl K cl φ G (ds.map some ++ List.replicate (N.length - vs.length) none) (L2.start N vs) := fun {ds vs} h => by
  unfold L2.start
  refine ⟨by simp [h.length], fun i d e => ?_, fun i a hj => by rw [hh] at hj; cases hj⟩
  by_cases hi : i < ds.length
  · rw [List.getElem?_append_left (by simpa using hi), List.getElem?_map] at e
    rw [List.getElem?_append_left (by simpa [← h.length] using hi), List.getElem?_map]
    cases q : ds[i]? with
    | none => rw [q] at e; cases e
    | some d' =>
      rw [q] at e
      cases e
      obtain ⟨v, h1, h2⟩ := h.get q
      exact ⟨v, by rw [h1]; rfl, h2⟩
  · rw [List.getElem?_append_right (by simpa using hi), List.getElem?_replicate] at e
    split at e <;> cases e
theorem fn_ok {P : Program} {w : World} {K : PySem.W.Frag} {mg : Str → Option Value} {base : Heap} {cl : Cl} {x qual : Str} {st : Stmt} {f : Addr} {fd : FuncData} {N ps : List Str} {k : Nat} {mb : MS}
    (hh : cl.hd = none) (F : Fun K x qual st f fd) (S : FnScope N ps (defScope st))
    (hb : ∀ (cdv : Value) (A : Around) (outer : List Env) (s : Shared) (H : Hp) (E : XK), Room k (A.deeper (envOfC qual (defScope st) s.heap.objs.size f cdv)) →
      RSs (cxOf (L2.CX P w) P w K mg base N qual (defScope st) f cdv A outer s H E) cl (Takes (cxOf (L2.CX P w) P w K mg base N qual (defScope st) f cdv A outer s H E)) (defBody st) mb) :
    FnOk P w K mg base (L2.CX P w) (k + 1) f fd ps (spM K cl (mFn N.length ps.length mb)) := by
  refine F.okX S (fun vs H Q E h => ?_) (fun cdv A outer s H vs Q E hr h => ⟨_, hb cdv A outer s H E hr, ?_⟩)
  · obtain ⟨φ, G, S, ds, r, S', w, hd, e, _⟩ := h
    unfold mFn at e
    split at e
    · rename_i hl; rw [← hd.length]; exact hl
    · cases e
  · obtain ⟨φ, G, S, ds, r, S', w, hd, e, k⟩ := h
    unfold mFn at e
    split at e
    · rename_i hl
      have sl := sl_start (N := N) hh hd
      rw [← hd.length, hl] at sl
      split at e
      · rename_i d S1 q
        cases e
        exact ⟨φ, G, _, S, _, _, w, sl, q, fun φ' G' H' st w' v hv => k φ' G' H' st w' v hv⟩
      · rename_i d S1 q
        cases e
        exact ⟨φ, G, _, S, _, _, w, sl, q, fun φ' G' H' st w' v hv => k φ' G' H' st w' _ (by simp only [IsD])⟩
      · rename_i c fs S1 q
        cases e
        refine ⟨φ, G, _, S, _, _, w, sl, q, ?_⟩
        exact Takes.imp (takes_of (E := E) rfl rfl rfl rfl) fun cls d σ H' ⟨φ', G', hw, _⟩ => k cls d φ' G' H' hw
      · cases e
    · cases e

section
variable {X : Cx} {cl : Cl} {tk : WX → Prop} [T : Tk X tk]
variable {K : PySem.W.Frag}
/-! ### a call -/
def mCall (mf : MF) (ma : M (List D)) : M D := mB ma fun ds => fun _ S => mf ds S
def EofR (K : PySem.W.Frag) (cl : Cl) (φ : List Addr) (G H : Hp) (S' : Store) : R D → XK
  | .ok _ => fun _ _ _ => False
  | .exc c fs => fun cls dd H' => ∃ φ' G', wE K cl φ G H S' c fs cls dd φ' G' H'
theorem run_fnM {k : Nat} {f : Addr} {fd : FuncData} {ps : List Str} {mf : MF} {ds : List D} {us : List Value} {vs : List V} {pins : List (Addr × Obj)} {σ : St} {φ : List Addr} {S S' : Store} {G H : Hp} {s : Shared} {r : R D} {Q : VK}
    (F : FnOk X.prog X.w X.K X.mg X.base (L2.CX X.prog X.w) k f fd ps (spM X.K cl mf)) (hr : Room k X.A) {dsv : List Value} {dvs : List V} {dds : List D} (hb : Binds X.K fd ps dsv) (hd : Vals dvs dsv) (hdd : IsDs X.K φ G dds dvs)
    (I : Inv X pins σ H s) (rv : Vals vs us) {g : Gm} (sl : Sl X.K cl φ G g σ) (w : Wd X.K cl φ S G H) (h : IsDs X.K φ G ds vs) (e : mf (ds ++ dds) S = some (r, S')) (kq : Ko X.K cl tk φ G H g r S' fun φ' G' H' d => ∀ v, IsD X.K φ' G' d v → Q v H') :
    wpAny (model X.prog X.w) X.A (call (.ref f) us) (EP X pins σ Q) X.xe s := by
  have r2 : Vals (vs ++ dvs) (us ++ dsv) := rv.append hd
  let E : XK := EofR X.K cl φ G H S' r
  have sp : spM X.K cl mf (vs ++ dvs) H Q E := by
    refine ⟨φ, G, S, ds ++ dds, r, S', w, h.append hdd, e, ?_⟩
    cases r with
    | ok d => exact kq
    | exc c fs => exact fun cls dd φ' G' H' q => ⟨φ', G', q⟩
  have hl : (us ++ dsv).length = ps.length := by rw [← r2.length]; exact F.len _ _ _ _ sp
  refine wpAny_call (codeAny_mono (F.run X.A X.stack s H ⟨us, []⟩ (us ++ dsv) (vs ++ dvs) Q E hr I.env0 (hb s us I.kIn hl) r2 sp) fun r' s' hq => ?_)
  cases r' with
  | error e' =>
    cases r with
    | ok d =>
      obtain ⟨_, _, _, _, _, _, _, _, _, _, _, _, z⟩ := (show L2.CX X.prog X.w X.stack H s E e' s' from hq)
      exact z.elim
    | exc c fs => exact T.tk _ kq e' s' (XE.of_call (E := EofR X.K cl φ G H S' (.exc c fs)) I (fun cls d H' ⟨φ', G', q⟩ => ⟨φ', G', q, sl.step q.1⟩) hq)
  | ok fl =>
    cases fl with
    | ret u => exact I.after hq
    | next => exact False.elim hq
    | brk => exact False.elim hq
    | cont => exact False.elim hq
/-- the defaults that fill up -/
def withD (mf : MF) (dds : List D) : MF := fun ds S => mf (ds ++ dds) S
theorem re_call {k : Nat} {f : Addr} {fd : FuncData} {ps : List Str} {mf : MF} {x : Str} {p pos : Pos} {e : Expr} {es : List Expr} {ma : M (List D)} {dsv : List Value} {dvs : List V} {dds : List D}
    (F : FnOk X.prog X.w X.K X.mg X.base (L2.CX X.prog X.w) k f fd ps (spM X.K cl mf)) (hr : Room k X.A) (hm : X.mg x = some (.ref f)) (hk : PySem.W.keepIn X.K (.ref f) = true) (hb : Binds X.K fd ps dsv) (hd : Vals dvs dsv) (hdd : ∀ φ G, IsDs X.K φ G dds dvs)
    (ha : RA X cl tk (e :: es) ma) (hg : Gl X x := by rfl) (hdb : (x == ("__debug__" : Str)) = false := by decide) (he : starEach (e :: es) X.env = (false, eval e X.env) :: starEach es X.env := by rfl) (hpl : (backTo pos (starEach es X.env)).any (·.1) = false := by rfl) :
    RE X cl tk (.Call (.Name x p) (e :: es) [] pos) (mCall (withD mf dds) ma) := by
  refine ⟨fun pins s σ H Q I h => ?_⟩
  obtain ⟨φ, G, g, S, r, S', w, sl, e1, kq⟩ := h
  refine wpAny_Call_Name_kw (ld_glob I hg hm ?_ hdb)
  refine PySem.W.callWith_K (h₀ := X.base) I.ok.mod.kin hk (thn (ha.run pos pins s σ H (fun vs H1 => ∃ φ1 G1 S1 ds, Sl X.K cl φ1 G1 g σ ∧ Wd X.K cl φ1 S1 G1 H1 ∧ IsDs X.K φ1 G1 ds vs ∧ withD mf dds ds S1 = some (r, S') ∧ Ko X.K cl tk φ1 G1 H1 g r S' fun φ' G' H' d => ∀ v, IsD X.K φ' G' d v → Q v H') I ?_) fun us s1 ⟨vs, H1, I1, rv, φ1, G1, S1, ds, sl1, w1, hds, e2, k2⟩ => ⟨I1.kIn, ?_⟩) he hpl
  · exact tMA_bind T.ok w sl e1 kq fun d φ1 G1 H1 S1 v st1 w1 s1 hx e2 k2 => ⟨φ1, G1, S1, d, s1, w1, hx, e2, k2⟩
  · exact run_fnM F hr hb hd (hdd _ _) I1 rv sl1 w1 hds e2 k2
theorem re_call0 {k : Nat} {f : Addr} {fd : FuncData} {ps : List Str} {mf : MF} {x : Str} {p pos : Pos} {dsv : List Value} {dvs : List V} {dds : List D}
    (F : FnOk X.prog X.w X.K X.mg X.base (L2.CX X.prog X.w) k f fd ps (spM X.K cl mf)) (hr : Room k X.A) (hm : X.mg x = some (.ref f)) (hk : PySem.W.keepIn X.K (.ref f) = true) (hb : Binds X.K fd ps dsv) (hd : Vals dvs dsv) (hdd : ∀ φ G, IsDs X.K φ G dds dvs)
    (hg : Gl X x := by rfl) (hdb : (x == ("__debug__" : Str)) = false := by decide) :
    RE X cl tk (.Call (.Name x p) [] [] pos) (mCall (withD mf dds) mNil) := by
  refine ⟨fun pins s σ H Q I h => ?_⟩
  obtain ⟨φ, G, g, S, r, S', w, sl, e1, kq⟩ := h
  refine wpAny_Call_Name_kw (ld_glob I hg hm ?_ hdb)
  exact PySem.W.callWith_K0 I.kIn hk (run_fnM (us := []) (vs := []) (ds := []) F hr hb hd (hdd _ _) I .nil sl w .nil e1 kq)

theorem withD_nil (mf : MF) : withD mf [] = mf := by funext ds S; simp [withD]
theorem re_callN {k : Nat} {f : Addr} {fd : FuncData} {ps : List Str} {mf : MF} {x : Str} {p pos : Pos} {e : Expr} {es : List Expr} {ma : M (List D)}
    (F : FnOk X.prog X.w X.K X.mg X.base (L2.CX X.prog X.w) k f fd ps (spM X.K cl mf)) (hr : Room k X.A) (hm : X.mg x = some (.ref f)) (hk : PySem.W.keepIn X.K (.ref f) = true) (hb : Binds X.K fd ps [])
    (ha : RA X cl tk (e :: es) ma) (hg : Gl X x := by rfl) (hdb : (x == ("__debug__" : Str)) = false := by decide) (he : starEach (e :: es) X.env = (false, eval e X.env) :: starEach es X.env := by rfl) (hpl : (backTo pos (starEach es X.env)).any (·.1) = false := by rfl) :
    RE X cl tk (.Call (.Name x p) (e :: es) [] pos) (mCall mf ma) := by
  have h := re_call (T := T) (p := p) F hr hm hk hb .nil (fun _ _ => .nil) ha hg hdb he hpl
  rwa [withD_nil] at h
theorem re_callN0 {k : Nat} {f : Addr} {fd : FuncData} {ps : List Str} {mf : MF} {x : Str} {p pos : Pos}
    (F : FnOk X.prog X.w X.K X.mg X.base (L2.CX X.prog X.w) k f fd ps (spM X.K cl mf)) (hr : Room k X.A) (hm : X.mg x = some (.ref f)) (hk : PySem.W.keepIn X.K (.ref f) = true) (hb : Binds X.K fd ps [])
    (hg : Gl X x := by rfl) (hdb : (x == ("__debug__" : Str)) = false := by decide) : RE X cl tk (.Call (.Name x p) [] [] pos) (mCall mf mNil) := by
  have h := re_call0 (T := T) (cl := cl) (p := p) (pos := pos) F hr hm hk hb .nil (fun _ _ => .nil) hg hdb
  rwa [withD_nil] at h

/-! ### built-ins by name, methods of built-in types -/
theorem tCB_of {r : List V → Hp → VK → Prop} {f : Store → List D → Option D} {ma : M (List D)} (hs : CallS K cl r f) (ht : TkOk tk) {σ : St} {H : Hp} {Q : VK} (h : tM K cl tk (mOpA f ma) σ H Q) : tCB r (tMA K cl tk ma) σ H Q := by
  obtain ⟨φ, G, g, S, r, S', w, s, e, k⟩ := h
  refine tMA_bind ht w s e k fun d φ1 G1 H1 S1 x st1 w1 s1 hx e1 k1 => ?_
  obtain ⟨z, ez, rfl, rfl⟩ := mL_ok e1
  exact hs _ _ _ _ _ _ _ _ w1 hx ez k1
theorem re_callB {x : Str} {id : String} {p pos : Pos} {e : Expr} {es : List Expr} {r : List V → Hp → VK → Prop} {f : Store → List D → Option D} {ma : M (List D)} (hc : CallR X (.builtin id) r) (hs : CallS X.K cl r f) (hm : X.mg x = none) (hv : bootBuiltins x = some (.builtin id))
    (ha : RA X cl tk (e :: es) ma) (hg : Gl X x := by rfl) (hn : x ≠ "__name__" := by decide) (hdb : (x == ("__debug__" : Str)) = false := by decide)
    (he : starEach (e :: es) X.env = (false, eval e X.env) :: starEach es X.env := by rfl) (hpl : (backTo pos (starEach es X.env)).any (·.1) = false := by rfl) : RE X cl tk (.Call (.Name x p) (e :: es) [] pos) (mOpA f ma) :=
  pe_imp (pe_callB hc hg hm hv ha hn hdb he hpl) fun _ _ _ h => tCB_of hs T.ok h
theorem re_callTy {x : Str} {Ty : String} {p pos : Pos} {e : Expr} {es : List Expr} {r : List V → Hp → VK → Prop} {f : Store → List D → Option D} {ma : M (List D)} (hc : CallR X (.type Ty) r) (hs : CallS X.K cl r f) (hm : X.mg x = none) (hv : bootBuiltins x = some (.type Ty))
    (ha : RA X cl tk (e :: es) ma) (hg : Gl X x := by rfl) (hn : x ≠ "__name__" := by decide) (hdb : (x == ("__debug__" : Str)) = false := by decide)
    (he : starEach (e :: es) X.env = (false, eval e X.env) :: starEach es X.env := by rfl) (hpl : (backTo pos (starEach es X.env)).any (·.1) = false := by rfl) : RE X cl tk (.Call (.Name x p) (e :: es) [] pos) (mOpA f ma) :=
  pe_imp (pe_callTy hc hg hm hv ha hn hdb he hpl) fun _ _ _ h => tCB_of hs T.ok h

/-! ### statements -/
theorem rss_nil : RSs X cl tk [] (fun g S => some (.nx g, S)) := by
  refine pss_imp pss_nil fun D σ H ⟨φ, G, g, S, o, S', w, s, e, k⟩ => ?_
  cases e
  exact k φ G H (Step.refl _ _ _) w σ s
def mSeq (m n : MS) : MS := fun g S => match m g S with
  | some (.nx g1, S1) => n g1 S1
  | r => r
theorem rss_cons {st : Stmt} {rest : List Stmt} {m n : MS} (h1 : RS X cl tk st m) (h2 : RSs X cl tk rest n) : RSs X cl tk (st :: rest) (mSeq m n) := by
  refine pss_imp (pss_cons h1 h2) fun D σ H ⟨φ, G, g, S, o, S', w, s, e, k⟩ => ?_
  unfold mSeq at e
  split at e
  · rename_i g1 S1 q
    exact ⟨φ, G, g, S, _, _, w, s, q, fun φ1 G1 H1 st1 w1 σ1 s1 => ⟨φ1, G1, g1, S1, o, S', w1, s1, e, k.step T.ok st1⟩⟩
  · rename_i hn
    refine ⟨φ, G, g, S, o, S', w, s, e, ?_⟩
    cases o with
    | nx g1 => exact absurd e (hn g1 S')
    | rt d => exact k
    | bk g1 => exact k
    | ct g1 => exact k
    | ex g2 c fs => exact k
theorem rss_one {st : Stmt} {m : MS} (h1 : RS X cl tk st m) : RSs X cl tk [st] m := pss_one h1
def mSet (i : Nat) (m : M D) : MS := fun g S => match m g S with
  | some (.ok d, S1) => some (.nx (g.set i (some d)), S1)
  | some (.exc c fs, S1) => some (.ex g c fs, S1)
  | none => none
/-- e, then a statement's rest -/
theorem tM_stmt {m : M D} {f : D → Gm → Store → Option (Out × Store)} {σ : St} {φ : List Addr} {G H : Hp} {g : Gm} {S S' : Store} {o : Out} {Dn : Ends} {Q : VK}
    (w : Wd K cl φ S G H) (s : Sl K cl φ G g σ) (e : (match m g S with | some (.ok d, S1) => f d g S1 | some (.exc c fs, S1) => some (.ex g c fs, S1) | none => none) = some (o, S')) (k : Kos K cl tk φ G H o S' Dn) (ht : TkOk tk)
    (h : ∀ d φ1 G1 H1 S1 v, Step φ G H φ1 G1 H1 → Wd K cl φ1 S1 G1 H1 → Sl K cl φ1 G1 g σ → IsD K φ1 G1 d v → f d g S1 = some (o, S') → Kos K cl tk φ1 G1 H1 o S' Dn → Q v H1) : tM K cl tk m σ H Q := by
  split at e
  · rename_i d S1 q
    exact ⟨φ, G, g, S, _, _, w, s, q, fun φ1 G1 H1 st w1 v hv => h d φ1 G1 H1 S1 v st w1 (s.step st) hv e (k.step ht st)⟩
  · rename_i c fs S1 q
    cases e
    exact ⟨φ, G, g, S, _, _, w, s, q, k⟩
  · cases e
theorem tAsg_of {i : Nat} {m : M D} {Dn : Ends} {σ : St} {H : Hp} (ht : TkOk tk) (h : tMS K cl tk (mSet i m) Dn σ H) : tAsg (tM K cl tk m) (gName i) Dn σ H := by
  obtain ⟨φ, G, g, S, o, S', w, s, e, k⟩ := h
  refine tM_stmt (f := fun d g S1 => some (.nx (g.set i (some d)), S1)) w s e k ht fun d φ1 G1 H1 S1 v st1 w1 s1 hv e1 k1 => ?_
  cases e1
  exact k1 φ1 G1 H1 (Step.refl _ _ _) w1 _ (s1.set hv)
theorem rs_set {i : Nat} {x : Str} {e : Expr} {pos pos' : Pos} {m : M D} (hN : X.N.Nodup) (he : RE X cl tk e m) (hi : X.N[i]? = some x := by rfl) (hx : Loc X.env.scope x := by first | exact Or.inl rfl | exact Or.inr rfl)
    (hs : swapsWith e (some (.Name x pos')) pos.line X.env = pure false := by rfl) (hf : X.fn x = true ∨ X.env.scope.names.lookup x = some .local := by first | exact .inl rfl | exact .inr rfl | assumption) : RS X cl tk (.Assign [.Name x pos'] e pos) (mSet i m) :=
  ps_imp (ps_set hN hi hx he hs hf) fun _ _ _ h => tAsg_of T.ok h
def mEx (m : M D) : MS := fun g S => match m g S with
  | some (.ok _, S1) => some (.nx g, S1)
  | some (.exc c fs, S1) => some (.ex g c fs, S1)
  | none => none
theorem rs_expr {e : Expr} {pos : Pos} {m : M D} (he : RE X cl tk e m) (hs : swapsWith e none pos.line X.env = pure false := by rfl) : RS X cl tk (.Expr e pos) (mEx m) := by
  refine ps_imp (ps_expr he hs) fun Dn σ H ⟨φ, G, g, S, o, S', w, s, e, k⟩ => ?_
  refine tM_stmt (f := fun d g S1 => some (.nx g, S1)) w s e k T.ok fun d φ1 G1 H1 S1 v st1 w1 s1 hv e1 k1 => ?_
  cases e1
  exact k1 φ1 G1 H1 (Step.refl _ _ _) w1 _ s1
def mRet (m : M D) : MS := fun g S => match m g S with
  | some (.ok d, S1) => some (.rt d, S1)
  | some (.exc c fs, S1) => some (.ex g c fs, S1)
  | none => none
theorem rs_ret {e : Expr} {pos : Pos} {m : M D} (he : RE X cl tk e m) : RS X cl tk (.Return (some e) pos) (mRet m) := by
  refine ps_imp (ps_ret he) fun Dn σ H ⟨φ, G, g, S, o, S', w, s, e, k⟩ => ?_
  refine tM_stmt (f := fun d g S1 => some (.rt d, S1)) w s e k T.ok fun d φ1 G1 H1 S1 v st1 w1 s1 hv e1 k1 => ?_
  cases e1
  exact k1 φ1 G1 H1 (Step.refl _ _ _) w1 v hv
theorem rs_retN {pos : Pos} : RS X cl tk (.Return none pos) (fun _ S => some (.rt .non, S)) := by
  refine ps_imp ps_retN fun Dn σ H ⟨φ, G, g, S, o, S', w, s, e, k⟩ => ?_
  cases e
  exact k φ G H (Step.refl _ _ _) w _ (by simp only [IsD])
theorem rs_pass {pos : Pos} : RS X cl tk (.Pass pos) (fun g S => some (.nx g, S)) := by
  refine ps_imp ps_pass fun D σ H ⟨φ, G, g, S, o, S', w, s, e, k⟩ => ?_
  cases e
  exact k φ G H (Step.refl _ _ _) w σ s
theorem rs_break {pos : Pos} : RS X cl tk (.Break pos) (fun g S => some (.bk g, S)) := by
  refine ps_imp ps_break fun D σ H ⟨φ, G, g, S, o, S', w, s, e, k⟩ => ?_
  cases e
  exact k φ G H (Step.refl _ _ _) w σ s
theorem rs_cont {pos : Pos} : RS X cl tk (.Continue pos) (fun g S => some (.ct g, S)) := by
  refine ps_imp ps_continue fun D σ H ⟨φ, G, g, S, o, S', w, s, e, k⟩ => ?_
  cases e
  exact k φ G H (Step.refl _ _ _) w σ s
def mIfS (c : M Bool) (m n : MS) : MS := fun g S => match c g S with
  | some (.ok b, S1) => if b = true then m g S1 else n g S1
  | some (.exc c fs, S1) => some (.ex g c fs, S1)
  | none => none
theorem rs_if {c : Expr} {a b : List Stmt} {pos : Pos} {mc : M Bool} {m n : MS} (hc : RT X cl tk c mc) (ha : RSs X cl tk a m) (hb : RSs X cl tk b n) : RS X cl tk (.If c a b pos) (mIfS mc m n) := by
  refine ps_imp (ps_if hc ha hb) fun Dn σ H ⟨φ, G, g, S, o, S', w, s, e, k⟩ => ?_
  unfold mIfS at e
  split at e
  · rename_i b S1 q
    refine ⟨φ, G, g, S, _, _, w, s, q, fun φ1 G1 H1 st1 w1 => ?_⟩
    cases b with
    | true =>
      rw [if_pos rfl] at e ⊢
      exact ⟨φ1, G1, g, S1, o, S', w1, s.step st1, e, k.step T.ok st1⟩
    | false =>
      rw [if_neg Bool.false_ne_true] at e ⊢
      exact ⟨φ1, G1, g, S1, o, S', w1, s.step st1, e, k.step T.ok st1⟩
  · rename_i c fs S1 q
    cases e
    exact ⟨φ, G, g, S, _, _, w, s, q, k⟩
  · cases e
/-- code that the mirror never comes to -/
def mNo : MS := fun _ _ => none
theorem rss_no {st : List Stmt} : RSs X cl tk st mNo := pss_imp pss_never fun D σ H ⟨φ, G, g, S, o, S', w, s, e, k⟩ => by cases e
theorem rs_no {st : Stmt} : RS X cl tk st mNo := ps_imp ps_never fun D σ H ⟨φ, G, g, S, o, S', w, s, e, k⟩ => by cases e
end
end Mi
namespace Mi
open PySem L2

/-! ### what is walked: its items; a list cell must stand as it is -/
abbrev Src := List D × Option Nat
def srcOk (S : Store) (src : Src) : Prop := match src.2 with
  | none => True
  | some i => S[i]? = some (.lst src.1)
structure WalkD (K : PySem.W.Frag) (cl : Cl) (J : It) (φ : List Addr) (G H : Hp) (src : Src) : Prop where
  ex : ∃ Gd Y, Walk J src.1.length Gd Y ∧
    (∀ φ' S' G' H', Step φ G H φ' G' H' → Wd K cl φ' S' G' H' → srcOk S' src → Gd H') ∧
    (∀ φ' S' G' H' i d x H2, Step φ G H φ' G' H' → Wd K cl φ' S' G' H' → srcOk S' src → src.1[i]? = some d → Y i H' x H2 → ∃ G2, Step φ' G' H' φ' G2 H2 ∧ Wd K cl φ' S' G2 H2 ∧ IsD K φ' G2 d x)
def tI (K : PySem.W.Frag) (cl : Cl) (tk : WX → Prop) (m : M Src) : TI := fun σ H R => ∃ φ G g S r S', Wd K cl φ S G H ∧ Sl K cl φ G g σ ∧ m g S = some (r, S') ∧
  Ko K cl tk φ G H g r S' fun φ1 G1 H1 src => ∀ J, WalkD K cl J φ1 G1 H1 src → R J H1
abbrev RI (X : Cx) (cl : Cl) (tk : WX → Prop) (tg a : Expr) (m : M Src) : Prop := PI X tg a (tI X.K cl tk m)
/-- targets -/
abbrev Bind := D → Gm → Option Gm
def tG (K : PySem.W.Frag) (cl : Cl) (b : Bind) : TG := fun v σ H Q => ∃ φ G g S d g', Wd K cl φ S G H ∧ Sl K cl φ G g σ ∧ IsD K φ G d v ∧ b d g = some g' ∧ ∀ σ', Sl K cl φ G g' σ' → Q σ' H
abbrev RG (X : Cx) (cl : Cl) (tg : Expr) (b : Bind) : Prop := PG X tg (tG X.K cl b)
abbrev Binds := List D → Gm → Option Gm
def tGs (K : PySem.W.Frag) (cl : Cl) (b : Binds) : TGs := fun vs σ H Q => ∃ φ G g S ds g', Wd K cl φ S G H ∧ Sl K cl φ G g σ ∧ IsDs K φ G ds vs ∧ b ds g = some g' ∧ ∀ σ', Sl K cl φ G g' σ' → Q σ' H
abbrev RGs (X : Cx) (cl : Cl) (tg : List Expr) (b : Binds) : Prop := PGs X tg (tGs X.K cl b)
def bN (i : Nat) : Bind := fun d g => some (g.set i (some d))
def bNil : Binds := fun ds g => match ds with
  | [] => some g
  | _ => none
def bCons (b : Bind) (bs : Binds) : Binds := fun ds g => match ds with
  | d :: r => (b d g).bind fun g' => bs r g'
  | [] => none
def bTup (n : Nat) (bs : Binds) : Bind := fun d g => match d with
  | .tup l => if l.length = n then bs l g else none
  | _ => none
theorem pg_imp {X : Cx} {a : Expr} {t t' : TG} (h : PG X a t) (i : ∀ v σ H Q, t' v σ H Q → t v σ H Q) : PG X a t' := ⟨fun pins s σ H v u Q I r q => h.run pins s σ H v u Q I r (i v σ H Q q)⟩
theorem pgs_imp {X : Cx} {a : List Expr} {t t' : TGs} (h : PGs X a t) (i : ∀ v σ H Q, t' v σ H Q → t v σ H Q) : PGs X a t' := ⟨fun pins s σ H v u Q I r q => h.run pins s σ H v u Q I r (i v σ H Q q)⟩
section
variable {X : Cx} {cl : Cl} {tk : WX → Prop} [T : Tk X tk]
variable {K : PySem.W.Frag}
theorem rg_name {i : Nat} {x : Str} {pos : Pos} (hN : X.N.Nodup) (hi : X.N[i]? = some x := by rfl) (hx : Loc X.env.scope x := by first | exact Or.inl rfl | exact Or.inr rfl) (hf : X.fn x = true ∨ X.env.scope.names.lookup x = some .local := by first | exact .inl rfl | exact .inr rfl | assumption) : RG X cl (.Name x pos) (bN i) := by
  refine pg_imp (pg_name hN hi hx hf) fun v σ H Q ⟨φ, G, g, S, d, g', w, s, hv, e, k⟩ => ?_
  cases e
  exact k _ (s.set hv)
theorem rgs_nil : RGs X cl [] bNil := by
  refine pgs_imp pgs_nil fun v σ H Q ⟨φ, G, g, S, d, g', w, s, hv, e, k⟩ => ?_
  cases d <;> cases e
  exact ⟨hv.nil_inv, k _ s⟩
theorem rgs_cons {a : Expr} {es : List Expr} {b : Bind} {bs : Binds} (h1 : RG X cl a b) (h2 : RGs X cl es bs) (hs : (assignEach (a :: es) X.env).map (·.2) = assign a X.env :: (assignEach es X.env).map (·.2) := by rfl) : RGs X cl (a :: es) (bCons b bs) := by
  refine pgs_imp (pgs_cons h1 h2 hs) fun v σ H Q ⟨φ, G, g, S, ds, g', w, s, hv, e, k⟩ => ?_
  cases ds with
  | nil => cases e
  | cons d r =>
    obtain ⟨v1, r1, rfl, h3, h4⟩ := hv.cons_inv
    unfold bCons at e
    cases q : b d g with
    | none => simp only [q] at e; cases e
    | some g1 =>
      simp only [q] at e
      exact ⟨v1, r1, rfl, φ, G, g, S, d, g1, w, s, h3, q, fun σ1 s1 => ⟨φ, G, g1, S, r, g', w, s1, h4, e, k⟩⟩
theorem rg_tup {es : List Expr} {kk : Nat} {pos : Pos} {bs : Binds} {n : Nat} (h : RGs X cl es bs) (hc : X.calm = true := by rfl) (hn : (assignEach es X.env).length = n := by rfl) (hst : (assignEach es X.env).findIdx? (·.1) = none := by rfl) : RG X cl (.Tuple es kk pos) (bTup n bs) := by
  refine pg_imp (pg_tup hc h hn hst) fun v σ H Q ⟨φ, G, g, S, d, g', w, s, hv, e, k⟩ => ?_
  cases d <;> try (cases e; done)
  rename_i l
  unfold bTup at e
  simp only at e
  split at e
  · rename_i hl
    simp only [IsD] at hv
    obtain ⟨a, xs, rfl, h3, h4⟩ := hv
    exact ⟨a, xs, rfl, Ex.t w.sub h3, by rw [← h4.length]; exact hl, φ, G, g, S, l, g', w, s, h4, e, k⟩
  · cases e

/-! ### for -/
open Classical in
noncomputable def forGo (src : Src) (b : Bind) (body : MS) : List D → MS
  | [] => fun g S => if srcOk S src then some (.nx g, S) else none
  | d :: ds => fun g S => if srcOk S src then
      match b d g with
      | none => none
      | some g1 => match body g1 S with
        | some (.nx g2, S2) => forGo src b body ds g2 S2
        | some (.ct g2, S2) => forGo src b body ds g2 S2
        | some (.bk g2, S2) => some (.nx g2, S2)
        | some (.rt d, S2) => some (.rt d, S2)
        | some (.ex g2 c fs, S2) => some (.ex g2 c fs, S2)
        | none => none
    else none
noncomputable def mFor (mi : M Src) (b : Bind) (body : MS) : MS := fun g S => match mi g S with
  | some (.ok src, S1) => forGo src b body src.1 g S1
  | some (.exc c fs, S1) => some (.ex g c fs, S1)
  | none => none
theorem drop_get {α : Type} {l : List α} {i : Nat} {d : α} {r : List α} (h : l.drop i = d :: r) : l[i]? = some d ∧ l.drop (i + 1) = r ∧ i < l.length := by
  have hi : i < l.length := by
    by_cases q : i < l.length
    · exact q
    · rw [List.drop_eq_nil_of_le (by omega)] at h; cases h
  rw [List.drop_eq_getElem_cons hi] at h
  injection h with h1 h2
  exact ⟨by rw [List.getElem?_eq_getElem hi, h1], h2, hi⟩
theorem rs_for {tg iter : Expr} {body : List Stmt} {pos : Pos} {mi : M Src} {b : Bind} {mb : MS} (hp : PassesOwn (model X.prog X.w) X.A X.env X.xe) (hi : RI X cl tk tg iter mi) (hg : RG X cl tg b) (hb : RSs X cl tk body mb)
    (hc : X.calm = true := by rfl) (hs : ∀ x, foldedSetIterable iter X.env x = pure x := by intro _; rfl) : RS X cl tk (.For tg iter body [] pos) (mFor mi b mb) := by
  refine ps_imp (ps_for hp hc hi hg hb hs) fun Dn σ H ⟨φ, G, g, S, o, S', w, s, e, k⟩ => ?_
  unfold mFor at e
  split at e
  · rename_i src S1 q
    refine ⟨φ, G, g, S, _, _, w, s, q, fun φ1 G1 H1 st1 w1 J wj => ?_⟩
    obtain ⟨Gd, Y, wk, hG, hY⟩ := wj.ex
    refine ⟨fun i m σ' H' => m = src.1.length - i ∧ i ≤ src.1.length ∧ ∃ φ' G' g' S2, Step φ1 G1 H1 φ' G' H' ∧ Wd X.K cl φ' S2 G' H' ∧ Sl X.K cl φ' G' g' σ' ∧ forGo src b mb (src.1.drop i) g' S2 = some (o, S'),
      ⟨_, rfl, Nat.zero_le _, φ1, G1, g, S1, Step.refl _ _ _, w1, s.step st1, e⟩, ?_⟩
    rintro i m σ' H' ⟨rfl, hle, φ', G', g', S2, st2, w2, s2, e2⟩
    cases hd : src.1.drop i with
    | nil =>
      have hi : i = src.1.length := by
        have := congrArg List.length hd
        simp at this; omega
      subst hi
      rw [hd] at e2
      unfold forGo at e2
      split at e2
      · rename_i hok
        cases e2
        exact .inl ⟨wk.stops _ (hG _ _ _ _ st2 w2 hok), k.step T.ok (st1.trans st2) φ' G' H' (Step.refl _ _ _) w2 _ s2⟩
      · cases e2
    | cons d ds =>
      obtain ⟨hd1, hd2, hlt⟩ := drop_get hd
      rw [hd] at e2
      unfold forGo at e2
      split at e2
      · rename_i hok
        split at e2
        · cases e2
        · rename_i g1 hb1
          refine .inr ⟨wk.goes _ _ hlt (hG _ _ _ _ st2 w2 hok), fun σ3 H3 => ∃ φ3 G3 g3 S3, Step φ1 G1 H1 φ3 G3 H3 ∧ Wd X.K cl φ3 S3 G3 H3 ∧ Sl X.K cl φ3 G3 g3 σ3 ∧ forGo src b mb ds g3 S3 = some (o, S'), fun σ3 H3 ⟨φ3, G3, g3, S3, a1, a2, a3, a4⟩ => ⟨src.1.length - (i + 1), by omega, rfl, hlt, φ3, G3, g3, S3, a1, a2, a3, by rw [hd2]; exact a4⟩, fun x H3 hy => ?_⟩
          obtain ⟨G3, st3, w3, hx⟩ := hY _ _ _ _ i d x H3 st2 w2 hok hd1 (wk.yields _ _ _ _ hlt (hG _ _ _ _ st2 w2 hok) hy)
          refine ⟨φ', G3, g', S2, d, g1, w3, s2.step st3, hx, hb1, fun σ4 s4 => ?_⟩
          have k3 := k.step T.ok ((st1.trans st2).trans st3)
          split at e2
          · rename_i g2 S3 q3
            exact ⟨φ', G3, g1, S2, _, _, w3, s4, q3, fun φ4 G4 H4 st4 w4 σ5 s5 => ⟨φ4, G4, g2, S3, (st2.trans st3).trans st4, w4, s5, e2⟩⟩
          · rename_i g2 S3 q3
            exact ⟨φ', G3, g1, S2, _, _, w3, s4, q3, fun φ4 G4 H4 st4 w4 σ5 s5 => ⟨φ4, G4, g2, S3, (st2.trans st3).trans st4, w4, s5, e2⟩⟩
          · rename_i g2 S3 q3
            cases e2
            exact ⟨φ', G3, g1, S2, _, _, w3, s4, q3, k3⟩
          · rename_i d2 S3 q3
            cases e2
            exact ⟨φ', G3, g1, S2, _, _, w3, s4, q3, k3⟩
          · rename_i c fs S3 q3
            cases e2
            exact ⟨φ', G3, g1, S2, _, _, w3, s4, q3, k3⟩
          · cases e2
      · cases e2
  · rename_i c fs S1 q
    cases e
    exact ⟨φ, G, g, S, _, _, w, s, q, k⟩
  · cases e

/-! ### while: by fuel -/
def whileGo (c : M Bool) (body : MS) : Nat → MS
  | 0 => fun _ _ => none
  | n + 1 => fun g S => match c g S with
    | some (.ok true, S1) => match body g S1 with
      | some (.nx g2, S2) => whileGo c body n g2 S2
      | some (.ct g2, S2) => whileGo c body n g2 S2
      | some (.bk g2, S2) => some (.nx g2, S2)
      | some (.rt d, S2) => some (.rt d, S2)
      | some (.ex g2 c fs, S2) => some (.ex g2 c fs, S2)
      | none => none
    | some (.ok false, S1) => some (.nx g, S1)
    | some (.exc c fs, S1) => some (.ex g c fs, S1)
    | none => none
theorem rs_while {c : Expr} {body : List Stmt} {pos : Pos} {mc : M Bool} {mb : MS} (n : Nat) (hp : PassesOwn (model X.prog X.w) X.A X.env X.xe) (hc : RT X cl tk c mc) (hb : RSs X cl tk body mb) : RS X cl tk (.While c body [] pos) (whileGo mc mb n) := by
  refine ps_imp (ps_while hp hc hb) fun Dn σ H ⟨φ, G, g, S, o, S', w, s, e, k⟩ => ?_
  refine ⟨fun m σ' H' => ∃ φ' G' g' S2, Step φ G H φ' G' H' ∧ Wd X.K cl φ' S2 G' H' ∧ Sl X.K cl φ' G' g' σ' ∧ whileGo mc mb m g' S2 = some (o, S'), ⟨n, φ, G, g, S, Step.refl _ _ _, w, s, e⟩, ?_⟩
  rintro m σ' H' ⟨φ', G', g', S2, st2, w2, s2, e2⟩
  cases m with
  | zero => cases e2
  | succ m =>
    unfold whileGo at e2
    have k2 := k.step T.ok st2
    split at e2
    · rename_i S3 q
      refine ⟨φ', G', g', S2, _, _, w2, s2, q, fun φ3 G3 H3 st3 w3 => ?_⟩
      show (if true = true then _ else _)
      rw [if_pos rfl]
      have k3 := k2.step T.ok st3
      refine ⟨fun σ4 H4 => ∃ φ4 G4 g4 S4, Step φ G H φ4 G4 H4 ∧ Wd X.K cl φ4 S4 G4 H4 ∧ Sl X.K cl φ4 G4 g4 σ4 ∧ whileGo mc mb m g4 S4 = some (o, S'), fun σ4 H4 q4 => ⟨m, Nat.lt_succ_self _, q4⟩, ?_⟩
      split at e2
      · rename_i g2 S4 q3
        exact ⟨φ3, G3, g', S3, _, _, w3, s2.step st3, q3, fun φ4 G4 H4 st4 w4 σ5 s5 => ⟨φ4, G4, g2, S4, (st2.trans st3).trans st4, w4, s5, e2⟩⟩
      · rename_i g2 S4 q3
        exact ⟨φ3, G3, g', S3, _, _, w3, s2.step st3, q3, fun φ4 G4 H4 st4 w4 σ5 s5 => ⟨φ4, G4, g2, S4, (st2.trans st3).trans st4, w4, s5, e2⟩⟩
      · rename_i g2 S4 q3
        cases e2
        exact ⟨φ3, G3, g', S3, _, _, w3, s2.step st3, q3, k3⟩
      · rename_i g2 S4 q3
        cases e2
        exact ⟨φ3, G3, g', S3, _, _, w3, s2.step st3, q3, k3⟩
      · rename_i c fs S4 q3
        cases e2
        exact ⟨φ3, G3, g', S3, _, _, w3, s2.step st3, q3, k3⟩
      · cases e2
    · rename_i S3 q
      cases e2
      refine ⟨φ', G', g', S2, _, _, w2, s2, q, fun φ3 G3 H3 st3 w3 => ?_⟩
      show (if false = true then _ else _)
      rw [if_neg Bool.false_ne_true]
      exact k2.step T.ok st3 φ3 G3 H3 (Step.refl _ _ _) w3 _ (s2.step st3)
    · rename_i c fs S3 q
      cases e2
      exact ⟨φ', G', g', S2, _, _, w2, s2, q, k2⟩
    · cases e2

/-! ### what may be walked -/
def mSrc (f : D → Option (List D)) (m : M D) : M Src := mB m fun d => mL fun _ => (f d).map fun l => (l, none)
theorem walk_at {J : It} {φ : List Addr} {G H : Hp} {src : Src} {Gd : Hp → Prop} {Y : Nat → Hp → V → Hp → Prop} (wk : Walk J src.1.length Gd Y)
    (hG : ∀ φ' S' G' H', Step φ G H φ' G' H' → Wd K cl φ' S' G' H' → srcOk S' src → Gd H') (hY : ∀ φ' S' G' H' i d x H2, Step φ G H φ' G' H' → Wd K cl φ' S' G' H' → srcOk S' src → src.1[i]? = some d → Y i H' x H2 → H2 = H' ∧ IsD K φ' G' d x) : WalkD K cl J φ G H src :=
  ⟨Gd, Y, wk, hG, fun φ' S' G' H' i d x H2 st w ok hd y => by
    obtain ⟨rfl, h⟩ := hY φ' S' G' H' i d x H2 st w ok hd y
    exact ⟨G', Step.refl _ _ _, w, h⟩⟩
/-- a list: frozen, the script, or a cell -/
def mIL (m : M D) : M Src := mB m fun d => mL fun S => match d with
  | .lst l => some (l, none)
  | .scr l => some (l.map D.int, none)
  | .ref i => match S[i]? with
    | some (.lst l) => some (l, some i)
    | _ => none
  | _ => none
theorem ri_list {tg a : Expr} {m : M D} (h : RE X cl tk a m) : RI X cl tk tg a (mIL m) := by
  refine pi_imp (pi_list h) fun σ H R ⟨φ, G, g, S, r, S', w, s, e, k⟩ => ?_
  refine tM_bind T.ok w s e k fun d φ1 G1 H1 S1 x st1 w1 s1 hx e1 k1 => ?_
  obtain ⟨z, ez, rfl, rfl⟩ := mL_ok e1
  cases d <;> try (cases ez; done)
  · cases ez
    rename_i l
    simp only [IsD] at hx
    obtain ⟨a', xs, rfl, h1, h2⟩ := hx
    refine ⟨a', rfl, ⟨xs, SqL.of (w1.sub _ _ h1)⟩, k1.now w1 _ ?_⟩
    refine walk_at (Gd := fun H => SqL X.K H a' xs) (Y := YAt xs) (by show Walk _ l.length _ _; rw [h2.length]; exact walk_list) (fun φ' S' G' H' st w' _ => SqL.of (w'.sub _ _ (st.ex _ _ h1))) fun φ' S' G' H' i d x H2 st w' _ hd ⟨y1, y2⟩ => ⟨y1, ?_⟩
    obtain ⟨v, h3, h4⟩ := h2.get hd
    rw [y2] at h3; cases h3
    exact h4.mono st.pre st.ex
  · cases ez
    rename_i l
    simp only [IsD] at hx
    obtain ⟨a', rfl, h1⟩ := hx
    refine ⟨a', rfl, ⟨_, Ex.l w1.sub h1⟩, k1.now w1 _ ?_⟩
    refine walk_at (Gd := fun H => SqL X.K H a' (l.map V.int)) (Y := YAt (l.map V.int)) (by show Walk _ (l.map D.int).length _ _; rw [List.length_map, ← List.length_map (f := V.int)]; exact walk_list) (fun φ' S' G' H' st w' _ => Ex.l (st.ex.trans w'.sub) h1) fun φ' S' G' H' i d x H2 st w' _ hd ⟨y1, y2⟩ => ⟨y1, ?_⟩
    simp only [List.getElem?_map] at hd y2
    cases q : l[i]? with
    | none => rw [q] at y2; cases y2
    | some n =>
      rw [q] at y2 hd
      cases y2; cases hd
      simp only [IsD]
  · rename_i i
    simp only [IsD] at hx
    obtain ⟨a', rfl, h1⟩ := hx
    simp only at ez
    split at ez
    · cases ez
      rename_i l hi
      obtain ⟨vs, h3, h4⟩ := w1.ok _ _ _ hi h1
      refine ⟨a', rfl, ⟨vs, SqL.of h3⟩, k1.now w1 _ ?_⟩
      refine ⟨fun H => ∃ ws, SqL X.K H a' ws ∧ ws.length = l.length, fun n H x H' => H' = H ∧ ∀ ws, SqL X.K H a' ws → ws[n]? = some x, ⟨fun n H hn ⟨ws, q1, q2⟩ => ⟨ws, ws[n], q1, by simp [q2, hn]⟩, fun H ⟨ws, q1, q2⟩ => ⟨ws, q1, by show ws.length ≤ l.length; omega⟩, fun n H x H' hn ⟨ws, q1, q2⟩ y => y⟩, fun φ' S' G' H' st w' ok => ?_, fun φ' S' G' H' n d x H2 st w' ok hd ⟨y1, y2⟩ => ?_⟩
      · obtain ⟨us, q1, q2⟩ := w'.ok _ _ _ ok (pre_get st.pre h1)
        exact ⟨us, SqL.of q1, by rw [← q2.length]⟩
      · subst y1
        obtain ⟨us, q1, q2⟩ := w'.ok _ _ _ ok (pre_get st.pre h1)
        obtain ⟨v, h5, h6⟩ := q2.get hd
        rw [y2 us (SqL.of q1)] at h5; cases h5
        exact ⟨G', Step.refl _ _ _, w', h6⟩
    · cases ez
end
end Mi
namespace Mi
open PySem L2
section
variable {X : Cx} {cl : Cl} {tk : WX → Prop} [T : Tk X tk]
variable {K : PySem.W.Frag}

/-! ### anything that may be walked by its value -/
def chars (z : Str) : List D := z.cps.toList.map fun c => .str ⟨#[c]⟩
def mI (m : M D) : M Src := mB m fun d => mL fun S => match d with
  | .lst l => some (l, none)
  | .scr l => some (l.map D.int, none)
  | .tup l => some (l, none)
  | .str z => some (chars z, none)
  | .ref i => match S[i]? with
    | some (.lst l) => some (l, some i)
    | _ => none
  | _ => none
theorem walk_tupD {φ : List Addr} {G H : Hp} {a' : Addr} {xs : List V} {l : List D} (h1 : SqT K G a' xs) (h2 : IsDs K φ G l xs) : WalkD K cl (Itt K a') φ G H (l, none) :=
  walk_at (Gd := fun H => SqT K H a' xs) (Y := YAt xs) (by show Walk _ l.length _ _; rw [h2.length]; exact walk_tup) (fun φ' S' G' H' st w' _ => Ex.t (st.ex.trans w'.sub) h1) fun φ' S' G' H' i d x H2 st w' _ hd ⟨y1, y2⟩ => ⟨y1, by
    obtain ⟨v, h3, h4⟩ := h2.get hd
    rw [y2] at h3; cases h3
    exact h4.mono st.pre st.ex⟩
theorem walk_strD {φ : List Addr} {G H : Hp} {z : Str} : WalkD K cl (Its z) φ G H (chars z, none) :=
  walk_at (src := (chars z, none)) (Gd := fun _ => True) (Y := fun i H v H' => H' = H ∧ ∃ c, z.cps[i]? = some c ∧ v = .str ⟨#[c]⟩) (by have e : (chars z).length = z.cps.size := by simp [chars]
                                                                                                                                       show Walk _ (chars z).length _ _; rw [e]; exact walk_str) (fun _ _ _ _ _ _ _ => trivial) fun φ' S' G' H' i d x H2 st w' _ hd ⟨y1, c, y2, y3⟩ => ⟨y1, by
    have hd' : (chars z)[i]? = some d := hd
    unfold chars at hd'
    rw [List.getElem?_map, Array.getElem?_toList, y2] at hd'
    cases hd'
    subst y3
    simp only [IsD]⟩
theorem ri_any {tg a : Expr} {m : M D} (h : RE X cl tk a m) : RI X cl tk tg a (mI m) := by
  refine ⟨fun pins s σ H R I q => ?_⟩
  obtain ⟨φ, G, g, S, r, S', w, sl, e, k⟩ := q
  have lst : mIL m g S = some (r, S') → wpAny (model X.prog X.w) X.A (eval a X.env) (fun v s1 => wpAny (model X.prog X.w) X.A (pyIter v) (PIE X pins σ tg R) X.xe s1) X.xe s := fun e' =>
    (ri_list h).run pins s σ H R I ⟨φ, G, g, S, r, S', w, sl, e', k⟩
  rcases mB_ok e with ⟨d, S1, e1, e2⟩ | ⟨c, fs, e1, rfl⟩
  · obtain ⟨z, ez, rfl, rfl⟩ := mL_ok e2
    cases d with
    | lst l => exact lst (by unfold mIL mB; rw [e1]; exact e2)
    | scr l => exact lst (by unfold mIL mB; rw [e1]; exact e2)
    | ref i => exact lst (by unfold mIL mB; rw [e1]; exact e2)
    | tup l =>
      cases ez
      refine (pi_tup h).run pins s σ H R I ⟨φ, G, g, S, _, _, w, sl, e1, fun φ1 G1 H1 st1 w1 v hv => ?_⟩
      simp only [IsD] at hv
      obtain ⟨a', xs, rfl, h1, h2⟩ := hv
      exact ⟨a', rfl, ⟨xs, Ex.t w1.sub h1⟩, k φ1 G1 H1 st1 w1 _ (walk_tupD h1 h2)⟩
    | str z =>
      cases ez
      refine (pi_str h).run pins s σ H R I ⟨φ, G, g, S, _, _, w, sl, e1, fun φ1 G1 H1 st1 w1 v hv => ?_⟩
      simp only [IsD] at hv
      exact ⟨z, hv, k φ1 G1 H1 st1 w1 _ walk_strD⟩
    | non => cases ez
    | bl b => cases ez
    | int b => cases ez
  · exact lst (by unfold mIL mB; rw [e1])
/-- range -/
def rngD (lo : Int) (n : Nat) : List D := (List.range n).map fun (i : Nat) => .int (lo + (i : Int))
theorem walk_rngD {φ : List Addr} {G H : Hp} {lo : Int} {n : Nat} : WalkD K cl (Itr lo n) φ G H (rngD lo n, none) :=
  walk_at (src := (rngD lo n, none)) (Gd := fun _ => True) (Y := YFn fun i => .int (lo + i)) (by have e : (rngD lo n).length = n := by simp [rngD]
                                                                                                 show Walk _ (rngD lo n).length _ _; rw [e]; exact walk_range) (fun _ _ _ _ _ _ _ => trivial) fun φ' S' G' H' i d x H2 st w' _ hd ⟨y1, y2⟩ => ⟨y1, by
    have hd' : (rngD lo n)[i]? = some d := hd
    unfold rngD at hd'
    rw [List.getElem?_map] at hd'
    cases q : (List.range n)[i]? with
    | none => rw [q] at hd'; cases hd'
    | some j =>
      rw [q] at hd'
      cases hd'
      obtain ⟨h1, h2⟩ := List.getElem?_eq_some_iff.mp q
      simp at h2
      subst h2 y2
      simp only [IsD]⟩
noncomputable def big62 (i : Int) : Bool := cdec (-(2 ^ 62) ≤ i ∧ i < 2 ^ 62)
noncomputable def mRng (m : M (List D)) : M Src := mB m fun ds => mL fun _ => match ds with
  | [.int j] => if big62 j = true then some (rngD 0 j.toNat, none) else none
  | [.int i, .int j] => if big62 i = true ∧ big62 j = true then some (rngD i (j - i).toNat, none) else none
  | _ => none
theorem ri_range1 {tg a : Expr} {p pos : Pos} {m : M (List D)} (hm : X.mg "range" = none) (h : RA X cl tk [a] m) (hl : ∀ g S r S', m g S = some (.ok r, S') → r.length = 1) (hg : Gl X "range" := by rfl) (hs : starEach [a] X.env = [(false, eval a X.env)] := by rfl) : RI X cl tk tg (.Call (.Name "range" p) [a] [] pos) (mRng m) := by
  refine pi_imp (pi_range1 hg hm h hs) fun σ H R ⟨φ, G, g, S, r, S', w, s, e, k⟩ => ?_
  rcases mB_ok e with ⟨ds, S1, e1, e2⟩ | ⟨c, fs, e1, rfl⟩
  · refine ⟨φ, G, g, S, _, _, w, s, e1, fun φ1 G1 H1 st1 w1 vs hv => ?_⟩
    obtain ⟨z, ez, rfl, rfl⟩ := mL_ok e2
    have hl1 := hl _ _ _ _ e1
    split at ez
    · split at ez
      · rename_i j hj
        cases ez
        obtain ⟨v, t, rfl, h1, h2⟩ := hv.cons_inv
        rw [h2.nil_inv]
        simp only [IsD] at h1
        subst h1
        have hb := cdec_iff.mp hj
        exact ⟨j, rfl, hb.1, hb.2, k φ1 G1 H1 st1 w1 _ walk_rngD⟩
      · cases ez
    · cases hl1
    · cases ez
  · exact ⟨φ, G, g, S, _, _, w, s, e1, k⟩
theorem ri_range2 {tg a b : Expr} {p pos : Pos} {m : M (List D)} (hm : X.mg "range" = none) (h : RA X cl tk [a, b] m) (hl : ∀ g S r S', m g S = some (.ok r, S') → r.length = 2) (hg : Gl X "range" := by rfl) (hs : starEach [a, b] X.env = [(false, eval a X.env), (false, eval b X.env)] := by rfl) (hs2 : starEach [b] X.env = [(false, eval b X.env)] := by rfl) :
    RI X cl tk tg (.Call (.Name "range" p) [a, b] [] pos) (mRng m) := by
  refine pi_imp (pi_range2 hg hm h hs hs2) fun σ H R ⟨φ, G, g, S, r, S', w, s, e, k⟩ => ?_
  rcases mB_ok e with ⟨ds, S1, e1, e2⟩ | ⟨c, fs, e1, rfl⟩
  · refine ⟨φ, G, g, S, _, _, w, s, e1, fun φ1 G1 H1 st1 w1 vs hv => ?_⟩
    obtain ⟨z, ez, rfl, rfl⟩ := mL_ok e2
    have hl1 := hl _ _ _ _ e1
    split at ez
    · cases hl1
    · split at ez
      · rename_i i j hj
        cases ez
        obtain ⟨v, t, rfl, h1, h2⟩ := hv.cons_inv
        obtain ⟨v2, t2, rfl, h3, h4⟩ := h2.cons_inv
        rw [h4.nil_inv]
        simp only [IsD] at h1 h3
        subst h1 h3
        have hb := cdec_iff.mp hj.1
        have hb2 := cdec_iff.mp hj.2
        exact ⟨i, j, rfl, ⟨hb.1, hb.2, hb2.1, hb2.2⟩, k φ1 G1 H1 st1 w1 _ walk_rngD⟩
      · cases ez
    · cases ez
  · exact ⟨φ, G, g, S, _, _, w, s, e1, k⟩
theorem len_cons {m : M D} {n : M (List D)} {k : Nat} (h : ∀ g S r S', n g S = some (.ok r, S') → r.length = k) : ∀ g S r S', mCons m n g S = some (.ok r, S') → r.length = k + 1 := fun g S r S' e => by
  rcases mB_ok e with ⟨d, S1, e1, e2⟩ | ⟨c, fs, e1, q⟩
  · rcases mB_ok e2 with ⟨ds, S2, e3, e4⟩ | ⟨c, fs, e3, q⟩
    · cases e4
      rw [List.length_cons, h _ _ _ _ e3]
    · cases q
  · cases q
theorem len_nil : ∀ g S r S', mNil g S = some (.ok r, S') → r.length = 0 := fun g S r S' e => by cases e; rfl
/-- enumerate of a list -/
def enumD (l : List D) : List D := (List.range l.length).zipWith (fun (i : Nat) d => .tup [.int i, d]) l

/-! ### a comprehension -/
open Classical in
noncomputable def lcGo (src : Src) (b : Bind) (mt : M Bool) (me : M D) (g0 : Gm) : List D → List D → Store → Option (List D × Store)
  | [], acc, S => if srcOk S src then some (acc, S) else none
  | d :: ds, acc, S => if srcOk S src then
      match b d g0 with
      | none => none
      | some g1 => match mt g1 S with
        | some (.ok true, S1) => match me g1 S1 with
          | some (.ok z, S2) => if szOk (acc.length + 1) = true then lcGo src b mt me g0 ds (acc ++ [z]) S2 else none
          | _ => none
        | some (.ok false, S1) => lcGo src b mt me g0 ds acc S1
        | _ => none
    else none
def wipeG (g : Gm) : List Nat → Gm
  | [] => g
  | v :: vs => (wipeG g vs).set v none
noncomputable def mLc (vs : List Nat) (mi : M Src) (b : Bind) (mt : M Bool) (me : M D) : M D := mB mi fun src => fun g S =>
  match lcGo src b mt me (wipeG g vs) src.1 [] S with
  | some (l, S1) => some (.ok (.lst l), S1)
  | none => none
theorem sl_wipe (hh : cl.hd = none) {φ : List Addr} {G : Hp} {g : Gm} {σ : St} (s : Sl K cl φ G g σ) : ∀ vs : List Nat, Sl K cl φ G (wipeG g vs) (wipe σ vs)
  | [] => s
  | v :: vs => (sl_wipe hh s vs).wipe hh
theorem wipe_get (σ : St) (i : Nat) : ∀ vs : List Nat, (wipe σ vs)[i]? = if i ∈ vs then (σ[i]?).map (fun _ => none) else σ[i]?
  | [] => by simp [wipe]
  | v :: vs => by
    unfold wipe
    rw [List.getElem?_set]
    by_cases h : v = i
    · subst h
      rw [if_pos rfl, if_pos List.mem_cons_self, wipe_length]
      by_cases hl : v < σ.length
      · rw [if_pos hl, List.getElem?_eq_getElem hl]; rfl
      · rw [if_neg hl, List.getElem?_eq_none (by omega)]; rfl
    · rw [if_neg h, wipe_get σ i vs]
      have e : (i ∈ v :: vs) ↔ i ∈ vs := by simp [Ne.symm h]
      simp only [e]
theorem wipe_twice (σ : St) (vs : List Nat) : wipe (wipe σ vs) vs = wipe σ vs := by
  apply List.ext_getElem?
  intro i
  rw [wipe_get, wipe_get]
  split
  · cases σ[i]? <;> rfl
  · rfl
theorem wipe_set (σ : St) (vs : List Nat) {i : Nat} (x : Option V) (h : i ∈ vs) : wipe (σ.set i x) vs = wipe σ vs := by
  apply List.ext_getElem?
  intro j
  rw [wipe_get, wipe_get]
  split
  · rw [List.getElem?_set]
    split
    · rename_i e; subst e
      split
      · rename_i hl; rw [List.getElem?_eq_getElem hl]; rfl
      · rename_i hl; rw [List.getElem?_eq_none (by omega)]
    · rfl
  · rename_i hn
    rw [List.getElem?_set_ne (fun e : i = j => hn (by rw [← e]; exact h))]
/-- targets of a block: the block's own names alone -/
def tGw (K : PySem.W.Frag) (cl : Cl) (vs : List Nat) (b : Bind) : TG := fun v σ H Q => ∃ φ G g S d g', Wd K cl φ S G H ∧ Sl K cl φ G g σ ∧ IsD K φ G d v ∧ b d g = some g' ∧ ∀ σ', Sl K cl φ G g' σ' → wipe σ' vs = wipe σ vs → Q σ' H
def tGsw (K : PySem.W.Frag) (cl : Cl) (vs : List Nat) (b : Binds) : TGs := fun v σ H Q => ∃ φ G g S d g', Wd K cl φ S G H ∧ Sl K cl φ G g σ ∧ IsDs K φ G d v ∧ b d g = some g' ∧ ∀ σ', Sl K cl φ G g' σ' → wipe σ' vs = wipe σ vs → Q σ' H
abbrev RGw (X : Cx) (cl : Cl) (vs : List Nat) (tg : Expr) (b : Bind) : Prop := PG X tg (tGw X.K cl vs b)
abbrev RGsw (X : Cx) (cl : Cl) (vs : List Nat) (tg : List Expr) (b : Binds) : Prop := PGs X tg (tGsw X.K cl vs b)
theorem rgw_name {vs : List Nat} {i : Nat} {x : Str} {pos : Pos} (hN : X.N.Nodup) (hv : i ∈ vs := by decide) (hi : X.N[i]? = some x := by rfl) (hx : Loc X.env.scope x := by first | exact Or.inl rfl | exact Or.inr rfl) (hf : X.fn x = true ∨ X.env.scope.names.lookup x = some .local := by first | exact .inl rfl | exact .inr rfl | assumption) : RGw X cl vs (.Name x pos) (bN i) := by
  refine pg_imp (pg_name hN hi hx hf) fun v σ H Q ⟨φ, G, g, S, d, g', w, s, hv', e, k⟩ => ?_
  cases e
  exact k _ (s.set hv') (wipe_set _ _ _ hv)
theorem rgsw_nil {vs : List Nat} : RGsw X cl vs [] bNil := by
  refine pgs_imp pgs_nil fun v σ H Q ⟨φ, G, g, S, d, g', w, s, hv, e, k⟩ => ?_
  cases d <;> cases e
  exact ⟨hv.nil_inv, k _ s rfl⟩
theorem rgsw_cons {vs : List Nat} {a : Expr} {es : List Expr} {b : Bind} {bs : Binds} (h1 : RGw X cl vs a b) (h2 : RGsw X cl vs es bs) (hs : (assignEach (a :: es) X.env).map (·.2) = assign a X.env :: (assignEach es X.env).map (·.2) := by rfl) : RGsw X cl vs (a :: es) (bCons b bs) := by
  refine pgs_imp (pgs_cons h1 h2 hs) fun v σ H Q ⟨φ, G, g, S, ds, g', w, s, hv, e, k⟩ => ?_
  cases ds with
  | nil => cases e
  | cons d r =>
    obtain ⟨v1, r1, rfl, h3, h4⟩ := hv.cons_inv
    unfold bCons at e
    cases q : b d g with
    | none => simp only [q] at e; cases e
    | some g1 =>
      simp only [q] at e
      exact ⟨v1, r1, rfl, φ, G, g, S, d, g1, w, s, h3, q, fun σ1 s1 w1 => ⟨φ, G, g1, S, r, g', w, s1, h4, e, fun σ2 s2 w2 => k σ2 s2 (w2.trans w1)⟩⟩
theorem rgw_tup {vs : List Nat} {es : List Expr} {kk : Nat} {pos : Pos} {bs : Binds} {n : Nat} (h : RGsw X cl vs es bs) (hc : X.calm = true := by rfl) (hn : (assignEach es X.env).length = n := by rfl) (hst : (assignEach es X.env).findIdx? (·.1) = none := by rfl) : RGw X cl vs (.Tuple es kk pos) (bTup n bs) := by
  refine pg_imp (pg_tup hc h hn hst) fun v σ H Q ⟨φ, G, g, S, d, g', w, s, hv, e, k⟩ => ?_
  cases d <;> try (cases e; done)
  rename_i l
  unfold bTup at e
  simp only at e
  split at e
  · rename_i hl
    simp only [IsD] at hv
    obtain ⟨a, xs, rfl, h3, h4⟩ := hv
    exact ⟨a, xs, rfl, Ex.t w.sub h3, by rw [← h4.length]; exact hl, φ, G, g, S, l, g', w, s, h4, e, k⟩
  · cases e
structure LcSt (K : PySem.W.Frag) (cl : Cl) (φ1 : List Addr) (G1 H1 : Hp) (S : Store) (acc : List D) (L : Addr) (H : Hp) (φ : List Addr) (G : Hp) : Prop where
  st : Step φ1 G1 H1 φ G H
  w : Wd K cl φ S G H
  g : G L = none
  nφ : L ∉ φ
  at_ : ∃ vs, H L = some (.lst vs) ∧ IsDs K φ G acc vs
theorem LcSt.step {φ1 : List Addr} {G1 H1 : Hp} {S S' : Store} {acc : List D} {L : Addr} {H H' : Hp} {φ φ' : List Addr} {G G' : Hp} (a : LcSt K cl φ1 G1 H1 S acc L H φ G) (st : Step φ G H φ' G' H') (w : Wd K cl φ' S' G' H') : LcSt K cl φ1 G1 H1 S' acc L H' φ' G' := by
  obtain ⟨vs, h1, h2⟩ := a.at_
  refine ⟨a.st.trans st, w, ?_, fun h => ?_, vs, st.keep _ _ h1 a.nφ, h2.mono st.pre st.ex⟩
  · cases q : G' L with
    | none => rfl
    | some o =>
      rcases st.gn L (by rw [q]; simp) with h | h | h
      · exact absurd a.g h
      · rw [h1] at h; cases h
      · exact absurd h a.nφ
  · rcases st.new L h with h | h
    · exact a.nφ h
    · rw [h1] at h; cases h
theorem LcSt.app {φ1 : List Addr} {G1 H1 : Hp} {S : Store} {acc : List D} {L : Addr} {H : Hp} {φ : List Addr} {G : Hp} (hL : H1 L = none) (a : LcSt K cl φ1 G1 H1 S acc L H φ G) {d : D} {v : V} (hv : IsD K φ G d v) :
    ∃ vs, H L = some (.lst vs) ∧ vs.length = acc.length ∧ LcSt K cl φ1 G1 H1 S (acc ++ [d]) L (upd H L (.lst (vs ++ [v]))) φ G := by
  obtain ⟨vs, h1, h2⟩ := a.at_
  refine ⟨vs, h1, h2.length.symm, ⟨a.st.pre, a.st.ex, a.st.gn, fun x o h hx => ?_, a.st.new⟩, ⟨a.w.len, fun x o h => ?_, a.w.nd, fun x hx => ?_, a.w.ap, fun i c x q1 q2 => ?_, a.w.iv⟩, a.g, a.nφ, _, upd_same, h2.append (.cons hv .nil)⟩
  · have ne : x ≠ L := fun z => by rw [z, hL] at h; cases h
    rw [upd_ne ne]; exact a.st.keep x o h hx
  · have ne : x ≠ L := fun z => by rw [z, a.g] at h; cases h
    rw [upd_ne ne]; exact a.w.sub x o h
  · have ne : x ≠ L := fun z => by rw [z] at hx; exact a.nφ hx
    rw [upd_ne ne]; exact a.w.tr x hx
  · have ne : x ≠ L := fun z => by rw [z] at q2; exact a.nφ (List.mem_of_getElem? q2)
    exact (a.w.ok i c x q1 q2).mono (List.prefix_refl _) (Ex.refl _) fun o h => by rw [upd_ne ne]; exact h
/-- the list becomes stable -/
theorem LcSt.fin {φ1 : List Addr} {G1 H1 : Hp} {S : Store} {acc : List D} {L : Addr} {H : Hp} {φ : List Addr} {G : Hp} (hL : H1 L = none) (a : LcSt K cl φ1 G1 H1 S acc L H φ G) :
    ∃ vs, H L = some (.lst vs) ∧ Step φ1 G1 H1 φ (upd G L (.lst vs)) H ∧ Wd K cl φ S (upd G L (.lst vs)) H ∧ IsD K φ (upd G L (.lst vs)) (.lst acc) (.ref L) := by
  obtain ⟨vs, h1, h2⟩ := a.at_
  have ex : Ex G (upd G L (.lst vs)) := Ex.new a.g
  refine ⟨vs, h1, ⟨a.st.pre, a.st.ex.trans ex, fun x h => ?_, a.st.keep, a.st.new⟩, ⟨a.w.len, fun x o h => ?_, a.w.nd, a.w.tr, fun i c x q1 q2 q3 => ?_, fun i c x q1 q2 => (a.w.ok i c x q1 q2).mono (List.prefix_refl _) ex fun o h => h, cl.mono _ _ ex a.w.iv⟩, ?_⟩
  · by_cases e : x = L
    · subst e; exact .inr (.inl hL)
    · rw [upd_ne e] at h; exact a.st.gn x h
  · by_cases e : x = L
    · subst e; rw [upd_same] at h; rw [← h]; exact h1
    · rw [upd_ne e] at h; exact a.w.sub x o h
  · have ne : x ≠ L := fun z => by rw [z] at q2; exact a.nφ (List.mem_of_getElem? q2)
    rw [upd_ne ne]; exact a.w.ap i c x q1 q2 q3
  · simp only [IsD]
    exact ⟨L, vs, rfl, upd_same, h2.mono (List.prefix_refl _) ex⟩
/-- the loop, and what is wanted of the list at its end -/
theorem tLc_core (hh : cl.hd = none) {vs : List Nat} {mi : M Src} {b : Bind} {mt : M Bool} {me : M D} {σ : St} {H : Hp} {Q : VK} {φ : List Addr} {G : Hp} {g : Gm} {S S1 S' : Store} {src : Src} {l : List D} (w : Wd K cl φ S G H) (s : Sl K cl φ G g σ) (e1 : mi g S = some (.ok src, S1))
    (q : lcGo src b mt me (wipeG g vs) src.1 [] S1 = some (l, S')) (fin : ∀ φ1 G1 H1 L φ' G' H', Step φ G H φ1 G1 H1 → H1 L = none → LcSt K cl φ1 G1 H1 S' l L H' φ' G' → Q (.ref L) H') :
    tLc (tI K cl tk mi) (tGw K cl vs b) (tMT K cl (fun _ => False) mt) (tM K cl (fun _ => False) me) vs σ H Q := by
  · refine ⟨φ, G, g, S, _, _, w, s, e1, fun φ1 G1 H1 st1 w1 J wj L hL => ?_⟩
    obtain ⟨Gd, Y, wk, hG, hY⟩ := wj.ex
    · refine ⟨fun i m H' => m = src.1.length - i ∧ i ≤ src.1.length ∧ ∃ φ' G' S2 acc, LcSt K cl φ1 G1 H1 S2 acc L H' φ' G' ∧ lcGo src b mt me (wipeG g vs) (src.1.drop i) acc S2 = some (l, S'), ⟨_, rfl, Nat.zero_le _, φ1, G1, S1, [], ?_, q⟩, ?_⟩
      · refine ⟨⟨List.prefix_refl _, Ex.refl _, fun x h => .inl h, fun x o h _ => Ex.new hL x o h, fun x h => .inl h⟩, ⟨w1.len, w1.sub.trans (Ex.new hL), w1.nd, fun x hx => ?_, w1.ap, fun i c x q1 q2 => (w1.ok i c x q1 q2).mono (List.prefix_refl _) (Ex.refl _) (Ex.new hL x), w1.iv⟩, w1.gnone hL, fun h => w1.tr L h hL, [], upd_same, .nil⟩
        by_cases e : x = L
        · subst e; rw [upd_same]; simp
        · rw [upd_ne e]; exact w1.tr x hx
      · rintro i m H' ⟨rfl, hle, φ', G', S2, acc, a, e3⟩
        cases hd : src.1.drop i with
        | nil =>
          have hi : i = src.1.length := by
            have := congrArg List.length hd
            simp at this; omega
          subst hi
          rw [hd] at e3
          unfold lcGo at e3
          split at e3
          · rename_i hok
            cases e3
            exact .inl ⟨wk.stops _ (hG _ _ _ _ a.st a.w hok), fin _ _ _ _ _ _ _ st1 hL a⟩
          · cases e3
        | cons d ds =>
          obtain ⟨hd1, hd2, hlt⟩ := drop_get hd
          rw [hd] at e3
          unfold lcGo at e3
          split at e3
          · rename_i hok
            split at e3
            · cases e3
            · rename_i g1 hb1
              refine .inr ⟨wk.goes _ _ hlt (hG _ _ _ _ a.st a.w hok), fun H3 => ∃ φ3 G3 S3 acc3, LcSt K cl φ1 G1 H1 S3 acc3 L H3 φ3 G3 ∧ lcGo src b mt me (wipeG g vs) ds acc3 S3 = some (l, S'), fun H3 ⟨φ3, G3, S3, acc3, a1, a2⟩ => ⟨src.1.length - (i + 1), by omega, rfl, hlt, φ3, G3, S3, acc3, a1, by rw [hd2]; exact a2⟩, fun x H3 hy => ?_⟩
              obtain ⟨G3, st3, w3, hx⟩ := hY _ _ _ _ i d x H3 a.st a.w hok hd1 (wk.yields _ _ _ _ hlt (hG _ _ _ _ a.st a.w hok) hy)
              have a3 := a.step st3 w3
              refine ⟨φ', G3, wipeG g vs, S2, d, g1, w3, sl_wipe hh (s.step (st1.trans a3.st)) vs, hx, hb1, fun σ4 s4 hw4 => ?_⟩
              refine ⟨?_, ?_⟩
              · rw [hw4]
                exact wipe_twice σ vs
              split at e3
              · rename_i S3 q3
                refine ⟨φ', G3, g1, S2, _, _, w3, s4, q3, fun φ4 G4 H4 st4 w4 => ?_⟩
                show (if true = true then _ else _)
                rw [if_pos rfl]
                split at e3
                · rename_i z S4 q4
                  refine ⟨φ4, G4, g1, S3, _, _, w4, s4.step st4, q4, fun φ5 G5 H5 st5 w5 v hv => ?_⟩
                  split at e3
                  · rename_i hz
                    have a5 := (a3.step st4 w4).step st5 w5
                    obtain ⟨us, h1, h2, a6⟩ := a5.app hL hv
                    exact ⟨us, h1, by rw [h2]; exact Nat.lt_of_lt_of_le (Nat.lt_succ_self _) (szOk_le hz), φ5, G5, S4, acc ++ [z], a6, e3⟩
                  · cases e3
                · cases e3
              · rename_i S3 q3
                refine ⟨φ', G3, g1, S2, _, _, w3, s4, q3, fun φ4 G4 H4 st4 w4 => ?_⟩
                show (if false = true then _ else _)
                rw [if_neg Bool.false_ne_true]
                exact ⟨φ4, G4, S3, acc, a3.step st4 w4, e3⟩
              · cases e3
          · cases e3
theorem tLc_of (hh : cl.hd = none) {vs : List Nat} {mi : M Src} {b : Bind} {mt : M Bool} {me : M D} (ht : TkOk tk) {σ : St} {H : Hp} {Q : VK}
    (h : tM K cl tk (mLc vs mi b mt me) σ H Q) : tLc (tI K cl tk mi) (tGw K cl vs b) (tMT K cl (fun _ => False) mt) (tM K cl (fun _ => False) me) vs σ H Q := by
  obtain ⟨φ, G, g, S, r, S', w, s, e, k⟩ := h
  rcases mB_ok e with ⟨src, S1, e1, e2⟩ | ⟨c, fs, e1, rfl⟩
  · split at e2
    · rename_i l S2 q
      cases e2
      refine tLc_core hh w s e1 q fun φ1 G1 H1 L φ' G' H' st1 hL a => ?_
      obtain ⟨us, h1, h2, h3, h4⟩ := a.fin hL
      exact k _ _ _ (st1.trans h2) h3 _ h4
    · cases e2
  · exact ⟨φ, G, g, S, _, _, w, s, e1, k⟩
theorem re_lc {elt tg iter : Expr} {ifs : List Expr} {scope : Scope} {own : List (Str × Nat)} {pos : Pos} {mi : M Src} {b : Bind} {mt : M Bool} {me : M D} (hN : X.N.Nodup) (hi : RI X cl tk tg iter mi) (ok : BlkOk X.N X.env.scope scope own)
    (hg : ∀ (s : Shared) (H : Hp) (C : Addr) (cc : List (Str × Addr)) (fp : List Addr), RGw (X.blk s H scope (compEnvC scope cc C X.env) fp) cl (own.map (·.2)) tg b)
    (ht : ∀ (s : Shared) (H : Hp) (C : Addr) (cc : List (Str × Addr)) (fp : List Addr), PTs (X.blk s H scope (compEnvC scope cc C X.env) fp) ifs (tMT X.K cl (fun _ => False) mt))
    (he : ∀ (s : Shared) (H : Hp) (C : Addr) (cc : List (Str × Addr)) (fp : List Addr), RE (X.blk s H scope (compEnvC scope cc C X.env) fp) cl (fun _ => False) elt me) (hc : X.calm = true := by rfl) (hs : ∀ x, foldedSetIterable iter X.env x = pure x := by intro _; rfl) (hh : cl.hd = none := by rfl) :
    RE X cl tk (.ListComp elt [⟨tg, iter, ifs, 0⟩] scope pos) (mLc (own.map (·.2)) mi b mt me) :=
  pe_imp (pe_lc hc hN hi ok hg ht he hs) fun _ _ _ h => tLc_of hh T.ok h
/-- y = [..] on one line -/
theorem rs_setLc {i : Nat} {y : Str} {py : Pos} {elt tg iter : Expr} {ifs : List Expr} {scope : Scope} {own : List (Str × Nat)} {pos spos : Pos} {mi : M Src} {b : Bind} {mt : M Bool} {me : M D} (hN : X.N.Nodup) (hi : RI X cl tk tg iter mi) (ok : BlkOk X.N X.env.scope scope own)
    (hg : ∀ (s : Shared) (H : Hp) (C : Addr) (cc : List (Str × Addr)) (fp : List Addr), RGw (X.blk s H scope (compEnvC scope cc C X.env) fp) cl (own.map (·.2)) tg b)
    (ht : ∀ (s : Shared) (H : Hp) (C : Addr) (cc : List (Str × Addr)) (fp : List Addr), PTs (X.blk s H scope (compEnvC scope cc C X.env) fp) ifs (tMT X.K cl (fun _ => False) mt))
    (he : ∀ (s : Shared) (H : Hp) (C : Addr) (cc : List (Str × Addr)) (fp : List Addr), RE (X.blk s H scope (compEnvC scope cc C X.env) fp) cl (fun _ => False) elt me) (hsw : swapsWith (.ListComp elt [⟨tg, iter, ifs, 0⟩] scope pos) (some (.Name y py)) spos.line X.env = pure true)
    (hy : X.N[i]? = some y := by rfl) (hyl : X.env.scope.names.lookup y = some .local := by rfl) (hc : X.calm = true := by rfl) (hs : ∀ x, foldedSetIterable iter X.env x = pure x := by intro _; rfl) (hh : cl.hd = none := by rfl) :
    RS X cl tk (.Assign [.Name y py] (.ListComp elt [⟨tg, iter, ifs, 0⟩] scope pos) spos) (mSet i (mLc (own.map (·.2)) mi b mt me)) := by
  refine ps_imp (ps_setLc (g := tGw X.K cl (own.map (·.2)) b) (te := tM X.K cl (fun _ => False) me) hc hN hy hyl hsw hi ok hg ht he hs) fun Dn σ H ⟨φ, G, g, S, o, S', w, s, e, k⟩ => ?_
  show tLc _ _ _ _ _ _ _ _
  refine tLc_of hh T.ok ?_
  refine tM_stmt (f := fun d g S1 => some (.nx (g.set i (some d)), S1)) w s e k T.ok fun d φ1 G1 H1 S1 v st1 w1 s1 hv e1 k1 => ?_
  cases e1
  exact k1 φ1 G1 H1 (Step.refl _ _ _) w1 _ (s1.set hv)
theorem rts_nil : PTs X [] (tMT X.K cl tk (mP true)) := ⟨fun pins s σ H Q I h => pts_nil.run pins s σ H Q I (by
  obtain ⟨φ, G, g, S, r, S', w, sl, e, k⟩ := h
  cases e
  exact k.now w)⟩
theorem rts_one {c : Expr} {m : M Bool} (h : RT X cl tk c m) : PTs X [c] (tMT X.K cl tk m) := pts_one h

/-! ### a cell is written -/
theorem set_get {α : Type} {l : List α} {i j : Nat} {c d : α} (h : (l.set i c)[j]? = some d) : (j = i ∧ d = c) ∨ (j ≠ i ∧ l[j]? = some d) := by
  by_cases e : j = i
  · subst e
    rw [List.getElem?_set] at h
    simp at h
    exact .inl ⟨rfl, h.2.symm⟩
  · rw [List.getElem?_set_ne (Ne.symm e)] at h
    exact .inr ⟨e, h⟩
theorem write_step {φ : List Addr} {S : Store} {G H : Hp} (w : Wd K cl φ S G H) {i : Nat} {a : Addr} (hi : φ[i]? = some a) (o : HO) : Step φ G H φ G (upd H a o) where
  pre := List.prefix_refl _
  ex := Ex.refl _
  gn := fun _ h => .inl h
  keep := fun x u h hx => by
    have ne : x ≠ a := fun z => hx (by rw [z]; exact List.mem_of_getElem? hi)
    rw [upd_ne ne]; exact h
  new := fun _ h => .inl h
theorem nodup_at {l : List Addr} (nd : l.Nodup) {i j : Nat} {a : Addr} (h1 : l[i]? = some a) (h2 : l[j]? = some a) : i = j := by
  obtain ⟨p, q⟩ := List.getElem?_eq_some_iff.mp h1
  obtain ⟨p', q'⟩ := List.getElem?_eq_some_iff.mp h2
  exact (List.getElem_inj nd).mp (q.trans q'.symm)
theorem write_wd {φ : List Addr} {S : Store} {G H : Hp} (w : Wd K cl φ S G H) {i : Nat} {a : Addr} {c c' : Cell} (hS : S[i]? = some c') (hl : c'.live = true) (hi : φ[i]? = some a) {o : HO} (hc : CellOk K cl φ G (upd H a o) a c) : Wd K cl φ (S.set i c) G (upd H a o) where
  len := by rw [List.length_set]; exact w.len
  iv := w.iv
  sub := fun x u h => by
    have ne : x ≠ a := fun z => by
      have := w.ap i _ a hS hi hl
      rw [z, this] at h; cases h
    rw [upd_ne ne]; exact w.sub x u h
  nd := w.nd
  tr := fun x h => by
    by_cases e : x = a
    · subst e; rw [upd_same]; simp
    · rw [upd_ne e]; exact w.tr x h
  ap := fun j d x h1 h2 h3 => by
    rcases set_get h1 with ⟨rfl, rfl⟩ | ⟨ne, h1⟩
    · rw [hi] at h2; cases h2
      exact w.ap _ _ _ hS hi hl
    · exact w.ap j d x h1 h2 h3
  ok := fun j d x h1 h2 => by
    rcases set_get h1 with ⟨rfl, rfl⟩ | ⟨ne, h1⟩
    · rw [hi] at h2; cases h2
      exact hc
    · have nx : x ≠ a := fun z => ne (nodup_at w.nd h2 (by rw [z]; exact hi))
      exact (w.ok j d x h1 h2).mono (List.prefix_refl _) (Ex.refl _) fun o h => by rw [upd_ne nx]; exact h
/-- a list cell -/
def atC (S : Store) (d : D) : Option (Nat × List D) := match d with
  | .ref i => match S[i]? with
    | some (.lst l) => some (i, l)
    | _ => none
  | _ => none
theorem atC_ok {φ : List Addr} {S : Store} {G H : Hp} (w : Wd K cl φ S G H) {d : D} {v : V} {i : Nat} {l : List D} (h : IsD K φ G d v) (e : atC S d = some (i, l)) : S[i]? = some (.lst l) ∧ ∃ a xs, v = .ref a ∧ φ[i]? = some a ∧ H a = some (.lst xs) ∧ IsDs K φ G l xs := by
  unfold atC at e
  split at e
  · split at e
    · rename_i i' l' hi
      cases e
      simp only [IsD] at h
      obtain ⟨a, h1, h2⟩ := h
      obtain ⟨vs, h3, h4⟩ := w.ok _ _ _ hi h2
      exact ⟨hi, a, vs, h1, h2, h3, h4⟩
    · cases e
  · cases e
noncomputable def mApp (mo me : M D) : M D := mB mo fun d => mB (mL fun S => atC S d) fun _ => mB me fun e => fun _ S => match atC S d with
  | some (i, l) => if szOk (l.length + 1) = true then some (.ok .non, S.set i (.lst (l ++ [e]))) else none
  | none => none
theorem re_app {o e : Expr} {apos cpos : Pos} {mo me : M D} (ho : RE X cl tk o mo) (he : RE X cl tk e me)
    (hbase : attributeBase o "append" X.env (eval o X.env) = eval o X.env := by rfl)
    (hfew : ((backTo cpos (starEach [e] X.env)).all (fun x => !x.1) && (backToKw cpos (keywordEach [] X.env)).all (fun x => x.1.isSome)
      && decide ([e].length + ([] : List Keyword).length + (if ([] : List Keyword).isEmpty then 0 else 1) < 30)) = true := by rfl)
    (hline : (apos.endLine == cpos.line) = true := by rfl) (hs : starEach [e] X.env = (false, eval e X.env) :: starEach [] X.env := by rfl) (hplain : (backTo cpos (starEach [] X.env)).any (·.1) = false := by rfl) :
    RE X cl tk (.Call (.Attribute o "append" apos) [e] [] cpos) (mApp mo me) := by
  refine pe_imp (pe_bm PySem.F.plainAttrs_list PySem.F.slot_list_append PySem.F.type_list_append mt_append ho (pa_cons he pa_nil hs) hbase hfew hline hs hplain) fun σ H Q ⟨φ, G, g, S, r, S', w, s, e', k⟩ => ?_
  refine tM_bind T.ok w s e' k fun d φ1 G1 H1 S1 x st1 w1 s1 hx e1 k1 => ?_
  rcases mB_ok e1 with ⟨u, S2, e2, e3⟩ | ⟨c, fs, e2, rfl⟩
  · obtain ⟨⟨i0, l0⟩, ez, _, rfl⟩ := mL_ok e2
    obtain ⟨_, a, xs, rfl, hφ, hH, _⟩ := atC_ok w1 hx ez
    refine ⟨.inl ⟨rfl, _, SqL.of hH⟩, ?_⟩
    refine tM_bind T.ok w1 s1 e3 k1 fun y φ2 G2 H2 S3 v st2 w2 s2 hv e4 k2 => ?_
    split at e4
    · rename_i i l q
      split at e4
      · rename_i hz
        cases e4
        obtain ⟨h0, a', xs', e5, h1, h2, h3⟩ := atC_ok w2 (hx.mono st2.pre st2.ex) q
        cases e5
        refine ⟨a, xs', v, rfl, rfl, h2, by rw [← h3.length]; exact Nat.lt_of_lt_of_le (Nat.lt_succ_self _) (szOk_le hz), ?_⟩
        exact k2 _ _ _ (write_step w2 h1 _) (write_wd w2 h0 rfl h1 ⟨_, upd_same, h3.append (.cons hv .nil)⟩) _ (by simp only [IsD])
      · cases e4
    · cases e4
  · obtain ⟨_, _, q, _⟩ := mL_ok e2
    cases q
end
end Mi
namespace Mi
open PySem L2
section
variable {X : Cx} {cl : Cl} {tk : WX → Prop} [T : Tk X tk]
variable {K : PySem.W.Frag}
/-! ### numbers -/
def f2I (C : Int → Int → Bool) (g : Int → Int → D) : Store → D → D → Option D := fun _ d e => match d, e with
  | .int i, .int j => if C i j = true then some (g i j) else none
  | _, _ => none
theorem f2I_inv {C : Int → Int → Bool} {g : Int → Int → D} {S : Store} {d e z : D} (h : f2I C g S d e = some z) : ∃ i j, d = .int i ∧ e = .int j ∧ C i j = true ∧ z = g i j := by
  unfold f2I at h
  split at h
  · split at h
    · rename_i hc; cases h; exact ⟨_, _, rfl, rfl, hc, rfl⟩
    · cases h
  · cases h
theorem s2I {P : Int → Int → Prop} {C : Int → Int → Bool} {g : Int → Int → V} {g' : Int → Int → D} (hC : ∀ i j, C i j = true → P i j) (hg : ∀ i j φ G, IsD K φ G (g' i j) (g i j)) : OpS K cl (rI P g) (f2I C g') := fun φ S G H x y d e z Q w h1 h2 h3 k => by
  obtain ⟨i, j, rfl, rfl, hc, rfl⟩ := f2I_inv h3
  simp only [IsD] at h1 h2
  exact ⟨i, j, h1, h2, hC i j hc, k _ _ _ (Step.refl _ _ _) w _ (hg i j _ _)⟩
theorem s2I0 {g : Int → Int → V} {g' : Int → Int → D} (hg : ∀ i j φ G, IsD K φ G (g' i j) (g i j)) : OpS K cl (rI0 g) (f2I (fun _ _ => true) g') := fun φ S G H x y d e z Q w h1 h2 h3 k => by
  obtain ⟨i, j, rfl, rfl, hc, rfl⟩ := f2I_inv h3
  simp only [IsD] at h1 h2
  exact ⟨i, j, h1, h2, k _ _ _ (Step.refl _ _ _) w _ (hg i j _ _)⟩
def cTrue : Int → Int → Bool := fun _ _ => true
noncomputable def cMul : Int → Int → Bool := fun i j => cdec ((-(2 ^ 64) < i ∧ i < 2 ^ 64) ∨ (-(2 ^ 64) < j ∧ j < 2 ^ 64))
noncomputable def cDiv : Int → Int → Bool := fun i j => cdec (0 < j ∧ j < 1073741824)
noncomputable def cMod : Int → Int → Bool := fun i j => cdec (0 < j)
noncomputable def cPow : Int → Int → Bool := fun i j => cdec (0 ≤ j ∧ j ≤ 1000000 ∧ i.natAbs < 2 ^ 64)
/-- int + int, str + str, list + list -/
noncomputable def fAdd : Store → D → D → Option D := fun S d e => match d, e with
  | .int i, .int j => some (.int (i + j))
  | .str x, .str y => if szOk (x.length + y.length) = true then some (.str (x ++ y)) else none
  | .tup x, .tup y => if x ≠ [] ∧ y ≠ [] ∧ szOk (x.length + y.length) = true then some (.tup (x ++ y)) else none
  | d, e => match asLL S d, asLL S e with
    | some x, some y => if szOk (x.length + y.length) = true then some (.lst (x ++ y)) else none
    | _, _ => none
def rAddA (K : PySem.W.Frag) : R2 := fun x y H Q => (rI0 fun i j => .int (i + j)) x y H Q ∨ (fun x y H Q => ∃ i j, x = .str i ∧ y = .str j ∧ i.length + j.length ≤ sizeLine ∧ Q (.str (i ++ j)) H) x y H Q ∨ rCat x y H Q ∨ rCatT K x y H Q
theorem op_addA : OpR X (binaryOp .Add) (rAddA X.K) := op_add.or (op_add_str.or (op_cat.or op_catT))
theorem fAdd_ok : OpS K cl (rAddA K) fAdd := fun φ S G H x y d0 e0 z Q w h1 h2 h3 k => by
  unfold fAdd at h3
  split at h3
  · cases h3
    simp only [IsD] at h1 h2
    exact .inl ⟨_, _, h1, h2, k _ _ _ (Step.refl _ _ _) w _ (by simp only [IsD])⟩
  · split at h3
    · rename_i hz
      cases h3
      simp only [IsD] at h1 h2
      exact .inr (.inl ⟨_, _, h1, h2, szOk_le hz, k _ _ _ (Step.refl _ _ _) w _ (by simp only [IsD])⟩)
    · cases h3
  · split at h3
    · rename_i x' y' hz
      cases h3
      simp only [IsD] at h1 h2
      obtain ⟨a, xs, e1, e2, e3⟩ := h1
      obtain ⟨b, ys, e4, e5, e6⟩ := h2
      have n0 : xs ≠ [] := fun q => hz.1 (List.length_eq_zero_iff.mp (by rw [e3.length, q]; rfl))
      refine .inr (.inr (.inr ⟨a, b, xs, ys, e1, e4, Ex.t w.sub e2, Ex.t w.sub e5, n0, ?_, ?_⟩))
      · rw [← e3.length, ← e6.length]; exact szOk_le hz.2.2
      · refine ⟨fun q => absurd (List.length_eq_zero_iff.mp (by rw [e6.length, q]; rfl)) hz.2.1, fun _ => new_tup w (e3.append e6) k⟩
    · cases h3
  · split at h3
    · rename_i x' y' q1 q2
      split at h3
      · rename_i hz
        cases h3
        obtain ⟨a, xs, e1, e2, e3⟩ := asLL_sq w h1 q1
        obtain ⟨b, ys, e4, e5, e6⟩ := asLL_sq w h2 q2
        exact .inr (.inr (.inl ⟨a, b, xs, ys, e1, e4, e2, e5, by rw [← e3.length, ← e6.length]; exact szOk_le hz, new_lst w (e3.append e6) k⟩))
      · cases h3
    · cases h3

/-! ### comparisons -/
def flV : D → Option V
  | .non => some .non
  | .bl b => some (.bl b)
  | .int i => some (.int i)
  | .str x => some (.str x)
  | _ => none
theorem flV_ok {φ : List Addr} {G : Hp} {d : D} {v x : V} (h : IsD K φ G d v) (e : flV d = some x) : v = x := by
  cases d <;> simp only [flV] at e <;> first | (cases e; done) | skip
  all_goals (cases e; simp only [IsD] at h; exact h)
mutual
def toP : D → Option PyData
  | .non => some .none
  | .bl b => some (.bool b)
  | .int i => some (.int i)
  | .str x => some (.str x)
  | .tup l => (toPs l).map .tuple
  | .lst l => (toPs l).map .list
  | _ => none
def toPs : List D → Option (List PyData)
  | [] => some []
  | d :: ds => (toP d).bind fun p => (toPs ds).map fun ps => p :: ps
end
mutual
theorem toP_ok {φ : List Addr} {G H : Hp} (e : Ex G H) : ∀ {d : D} {v : V} {p : PyData}, IsD K φ G d v → toP d = some p → Dp K H v p
  | .non, _, _, h, q => by
    simp only [IsD] at h; simp only [toP] at q; cases q; subst h; exact .non
  | .bl b, _, _, h, q => by
    simp only [IsD] at h; simp only [toP] at q; cases q; subst h; exact .bl _
  | .int b, _, _, h, q => by
    simp only [IsD] at h; simp only [toP] at q; cases q; subst h; exact .int _
  | .str b, _, _, h, q => by
    simp only [IsD] at h; simp only [toP] at q; cases q; subst h; exact .str _
  | .tup l, _, _, h, q => by
    simp only [IsD] at h; simp only [toP] at q
    obtain ⟨a, xs, rfl, h1, h2⟩ := h
    cases r : toPs l with
    | none => rw [r] at q; cases q
    | some ps => rw [r] at q; cases q; exact .tup (e.t h1) (toPs_ok e h2 r)
  | .lst l, _, _, h, q => by
    simp only [IsD] at h; simp only [toP] at q
    obtain ⟨a, xs, rfl, h1, h2⟩ := h
    cases r : toPs l with
    | none => rw [r] at q; cases q
    | some ps => rw [r] at q; cases q; exact .lst (SqL.of (e _ _ h1)) (toPs_ok e h2 r)
  | .scr l, _, _, h, q => by simp only [toP] at q; cases q
  | .ref l, _, _, h, q => by simp only [toP] at q; cases q
theorem toPs_ok {φ : List Addr} {G H : Hp} (e : Ex G H) : ∀ {ds : List D} {vs : List V} {ps : List PyData}, IsDs K φ G ds vs → toPs ds = some ps → DpAll K H vs ps
  | [], _, _, h, q => by
    rw [h.nil_inv]; simp only [toPs] at q; cases q; exact .nil
  | d :: ds, _, _, h, q => by
    obtain ⟨v, r, rfl, h1, h2⟩ := h.cons_inv
    simp only [toPs] at q
    cases a : toP d with
    | none => rw [a] at q; cases q
    | some p =>
      rw [a] at q
      cases b : toPs ds with
      | none => simp only [b] at q; cases q
      | some ps => simp only [b] at q; cases q; exact .cons (toP_ok e h1 a) (toPs_ok e h2 b)
end
/-- .. a list cell too, at the head -/
def toPS (S : Store) (d : D) : Option PyData := match atC S d with
  | some (_, l) => (toPs l).map .list
  | none => toP d
theorem toPS_ok {φ : List Addr} {S : Store} {G H : Hp} (w : Wd K cl φ S G H) {d : D} {v : V} {p : PyData} (h : IsD K φ G d v) (e : toPS S d = some p) : Dp K H v p := by
  unfold toPS at e
  split at e
  · rename_i i l q
    obtain ⟨_, a, xs, rfl, h1, h2, h3⟩ := atC_ok w h q
    cases r : toPs l with
    | none => rw [r] at e; cases e
    | some ps => rw [r] at e; cases e; exact .lst (SqL.of h2) (toPs_ok w.sub h3 r)
  · exact toP_ok w.sub h e
def eqB (S : Store) (d e : D) : Option Bool := match flV d, flV e with
  | some x, some y => if scal x y = true then some (decide (x = y)) else none
  | _, _ => match toPS S d, toPS S e with
    | some p, some q => if SeqAt.shaped p = true ∧ SeqAt.shaped q = true then some (PyData.eqv p q) else none
    | _, _ => none
def fEq : Store → D → D → Option D := fun S d e => (eqB S d e).map .bl
def fNe : Store → D → D → Option D := fun S d e => (eqB S d e).map fun b => .bl (!b)
def rEqA (K : PySem.W.Frag) : R2 := fun x y H Q => rEq x y H Q ∨ rEqD K x y H Q
def rNeA (K : PySem.W.Frag) : R2 := fun x y H Q => rNe x y H Q ∨ rNeD K x y H Q
theorem op_eqA (hr : Room k X.A) : OpR X (compareOp .Eq) (rEqA X.K) := op_eq.or (op_eqD hr.units)
theorem op_neA (hr : Room k X.A) : OpR X (compareOp .NotEq) (rNeA X.K) := op_ne.or (op_neD hr.units)
theorem fEq_rel : RelS K cl (rEqA K) fEq := fun φ S G H x y d e z Q w h1 h2 h3 => by
  unfold fEq at h3
  cases q : eqB S d e with
  | none => rw [q] at h3; cases h3
  | some b =>
    rw [q] at h3; cases h3
    refine ⟨b, rfl, fun k => ?_⟩
    unfold eqB at q
    split at q
    · rename_i x' y' q1 q2
      split at q
      · rename_i hs
        cases q
        rw [flV_ok h1 q1, flV_ok h2 q2]
        exact .inl ⟨hs, k⟩
      · cases q
    · split at q
      · rename_i p1 p2 q1 q2
        split at q
        · rename_i hs
          cases q
          exact .inr ⟨_, _, toPS_ok w h1 q1, toPS_ok w h2 q2, hs.1, hs.2, k⟩
        · cases q
      · cases q
theorem fNe_rel : RelS K cl (rNeA K) fNe := fun φ S G H x y d e z Q w h1 h2 h3 => by
  unfold fNe at h3
  cases q : eqB S d e with
  | none => rw [q] at h3; cases h3
  | some b =>
    rw [q] at h3; cases h3
    refine ⟨!b, rfl, fun k => ?_⟩
    unfold eqB at q
    split at q
    · rename_i x' y' q1 q2
      split at q
      · rename_i hs
        cases q
        rw [flV_ok h1 q1, flV_ok h2 q2]
        exact .inl ⟨hs, k⟩
      · cases q
    · split at q
      · rename_i p1 p2 q1 q2
        split at q
        · rename_i hs
          cases q
          exact .inr ⟨_, _, toPS_ok w h1 q1, toPS_ok w h2 q2, hs.1, hs.2, k⟩
        · cases q
      · cases q
theorem f2B_rel {g : Int → Int → Bool} : RelS K cl (rI0 fun i j => .bl (g i j)) (f2I cTrue fun i j => .bl (g i j)) := fun φ S G H x y d e z Q w h1 h2 h3 => by
  obtain ⟨i, j, rfl, rfl, hc, rfl⟩ := f2I_inv h3
  simp only [IsD] at h1 h2
  exact ⟨_, rfl, fun k => ⟨i, j, h1, h2, k⟩⟩
def fLt : Store → D → D → Option D := f2I cTrue fun i j => .bl (decide (i < j))
def fLe : Store → D → D → Option D := f2I cTrue fun i j => .bl (decide (i ≤ j))
def fGt : Store → D → D → Option D := f2I cTrue fun i j => .bl (decide (j < i))
def fGe : Store → D → D → Option D := f2I cTrue fun i j => .bl (decide (j ≤ i))
/-- is None: the second is None -/
def isNon : D → Bool
  | .non => true
  | _ => false
def fIsN : Store → D → D → Option D := fun _ d e => match e with
  | .non => some (.bl (isNon d))
  | _ => none
theorem isN_dec {φ : List Addr} {G : Hp} {d : D} {v : V} (h : IsD K φ G d v) : decide (v = .non) = isNon d := by
  cases d <;> simp only [IsD] at h <;> simp only [isNon] <;> first | (subst h; simp) | (obtain ⟨a, _, rfl, _⟩ := h; simp) | (obtain ⟨a, rfl, _⟩ := h; simp)
theorem fIsN_rel : RelS K cl (fun x y H Q => y = .non ∧ Q (.bl (decide (x = .non))) H) fIsN := fun φ S G H x y d e z Q w h1 h2 h3 => by
  unfold fIsN at h3
  split at h3
  · cases h3
    simp only [IsD] at h2
    exact ⟨_, rfl, fun k => ⟨h2, by rw [isN_dec h1]; exact k⟩⟩
  · cases h3
def fNotN : Store → D → D → Option D := fun _ d e => match e with
  | .non => some (.bl (!isNon d))
  | _ => none
theorem fNotN_rel : RelS K cl (fun x y H Q => y = .non ∧ Q (.bl (!decide (x = .non))) H) fNotN := fun φ S G H x y d e z Q w h1 h2 h3 => by
  unfold fNotN at h3
  split at h3
  · cases h3
    simp only [IsD] at h2
    exact ⟨_, rfl, fun k => ⟨h2, by rw [isN_dec h1]; exact k⟩⟩
  · cases h3
/-- in: a sign in a text; in a tuple of flat values; in a list of any data -/
def allFl : List D → Option (List V)
  | [] => some []
  | d :: ds => (flV d).bind fun v => (allFl ds).map fun vs => v :: vs
theorem allFl_ok {φ : List Addr} {G : Hp} : ∀ {ds : List D} {vs ws : List V}, IsDs K φ G ds vs → allFl ds = some ws → vs = ws
  | [], _, _, h, q => by rw [h.nil_inv]; simp only [allFl] at q; cases q; rfl
  | d :: ds, _, _, h, q => by
    obtain ⟨v, r, rfl, h1, h2⟩ := h.cons_inv
    simp only [allFl] at q
    cases a : flV d with
    | none => rw [a] at q; cases q
    | some p =>
      rw [a] at q
      cases b : allFl ds with
      | none => simp only [b] at q; cases q
      | some ps => simp only [b] at q; cases q; rw [flV_ok h1 a, allFl_ok h2 b]
theorem flV_flat {d : D} {v : V} (h : flV d = some v) : flatV v = true := by
  cases d <;> simp only [flV] at h <;> first | (cases h; done) | (cases h; rfl)
theorem allFl_flat : ∀ {ds : List D} {ws : List V}, allFl ds = some ws → ws.all flatV = true
  | [], _, q => by simp only [allFl] at q; cases q; rfl
  | d :: ds, _, q => by
    simp only [allFl] at q
    cases a : flV d with
    | none => rw [a] at q; cases q
    | some p =>
      rw [a] at q
      cases b : allFl ds with
      | none => simp only [b] at q; cases q
      | some ps => simp only [b] at q; cases q; rw [List.all_cons, flV_flat a, allFl_flat b]; rfl
def inB (S : Store) (d e : D) : Option Bool := match d, e with
  | .str x, .str z => if x.cps.size = 1 then some (decide (x.cps.getD 0 0 ∈ z.cps.toList)) else none
  | d, .tup l => (flV d).bind fun v => (allFl l).map fun vs => inV v vs
  | d, e => match toPS S d, toPS S e with
    | some p, some (.list qs) => if SeqAt.shaped p = true ∧ SeqAt.shaped (.list qs) = true then some (qs.any fun z => PyData.eqv z p) else none
    | _, _ => none
def fIn : Store → D → D → Option D := fun S d e => (inB S d e).map .bl
def fNotIn : Store → D → D → Option D := fun S d e => (inB S d e).map fun b => .bl (!b)
def rInA (K : PySem.W.Frag) : R2 := fun x y H Q => (fun x y H Q => ∃ (c : Nat) (z : Str), x = .str ⟨#[c]⟩ ∧ y = .str z ∧ Q (.bl (decide (c ∈ z.cps.toList))) H) x y H Q ∨ rIn K false x y H Q ∨ rInD K x y H Q
def rNotInA (K : PySem.W.Frag) : R2 := fun x y H Q => (fun x y H Q => ∃ (c : Nat) (z : Str), x = .str ⟨#[c]⟩ ∧ y = .str z ∧ Q (.bl (!decide (c ∈ z.cps.toList))) H) x y H Q ∨ rIn K true x y H Q ∨ rNotInD K x y H Q
theorem op_inA (hr : Room k X.A) : OpR X (compareOp .In) (rInA X.K) := op_in_sign.or (op_in_seq.or (op_inD (by have := hr.un; omega)))
theorem op_notInA (hr : Room k X.A) : OpR X (compareOp .NotIn) (rNotInA X.K) := op_notIn_sign.or (op_notIn_seq.or (op_notInD (by have := hr.un; omega)))
theorem one_sign {x : Str} (h : x.cps.size = 1) : x = ⟨#[x.cps.getD 0 0]⟩ := by
  obtain ⟨⟨l⟩⟩ := x
  match l, h with
  | [c], _ => rfl
theorem inB_rel {neg : Bool} {φ : List Addr} {S : Store} {G H : Hp} {x y : V} {d0 e0 : D} {b : Bool} {Q : VK} (w : Wd K cl φ S G H) (h1 : IsD K φ G d0 x) (h2 : IsD K φ G e0 y) (q : inB S d0 e0 = some b) (k : Q (.bl (if neg then !b else b)) H) :
    (∃ (c : Nat) (z : Str), x = .str ⟨#[c]⟩ ∧ y = .str z ∧ Q (.bl (if neg then !decide (c ∈ z.cps.toList) else decide (c ∈ z.cps.toList))) H) ∨ rIn K neg x y H Q ∨
      (∃ d ds, Dp K H x d ∧ Dp K H y (.list ds) ∧ SeqAt.shaped d = true ∧ SeqAt.shaped (.list ds) = true ∧ Q (.bl (if neg then !ds.any fun z => PyData.eqv z d else ds.any fun z => PyData.eqv z d)) H) := by
  unfold inB at q
  split at q
  · split at q
    · rename_i hs
      cases q
      simp only [IsD] at h1 h2
      exact .inl ⟨_, _, by rw [h1]; exact congrArg V.str (one_sign hs), h2, k⟩
    · cases q
  · rename_i l
    cases a : flV d0 with
    | none => rw [a] at q; cases q
    | some v =>
      rw [a] at q
      cases b' : allFl l with
      | none => simp only [b'] at q; cases q
      | some vs =>
        simp only [b'] at q
        cases q
        simp only [IsD] at h2
        obtain ⟨p, xs, rfl, e1, e2⟩ := h2
        rw [allFl_ok e2 b'] at e1
        refine .inr (.inl ⟨p, vs, rfl, .inr (Ex.t w.sub e1), ?_, allFl_flat b', ?_⟩)
        · rw [flV_ok h1 a]; exact flV_flat a
        · rw [flV_ok h1 a]; exact k
  · split at q
    · rename_i p qs q1 q2
      split at q
      · rename_i hs
        cases q
        exact .inr (.inr ⟨p, qs, toPS_ok w h1 q1, toPS_ok w h2 q2, hs.1, hs.2, k⟩)
      · cases q
    · cases q
theorem fIn_rel : RelS K cl (rInA K) fIn := fun φ S G H x y d e z Q w h1 h2 h3 => by
  unfold fIn at h3
  cases q : inB S d e with
  | none => rw [q] at h3; cases h3
  | some b =>
    rw [q] at h3; cases h3
    exact ⟨b, rfl, fun k => inB_rel (neg := false) w h1 h2 q k⟩
theorem fNotIn_rel : RelS K cl (rNotInA K) fNotIn := fun φ S G H x y d e z Q w h1 h2 h3 => by
  unfold fNotIn at h3
  cases q : inB S d e with
  | none => rw [q] at h3; cases h3
  | some b =>
    rw [q] at h3; cases h3
    exact ⟨!b, rfl, fun k => inB_rel (neg := true) w h1 h2 q k⟩
end
end Mi
namespace Mi
open PySem L2
section
variable {X : Cx} {cl : Cl} {tk : WX → Prop} [T : Tk X tk]
variable {K : PySem.W.Frag}
/-! ### built-ins -/
def flat1 {φ : List Addr} {G : Hp} {d : D} {xs : List V} (h : IsDs K φ G [d] xs) : ∃ v, xs = [v] ∧ IsD K φ G d v := by
  obtain ⟨v, r, rfl, h1, h2⟩ := h.cons_inv
  rw [h2.nil_inv]
  exact ⟨v, rfl, h1⟩
noncomputable def cLen : Store → List D → Option D := fun S ds => match ds with
  | [.str z] => if szOk z.length = true then some (.int z.length) else none
  | [d] => (asL S d).map fun l => .int l.length
  | _ => none
def rLenA (K : PySem.W.Frag) : List V → Hp → VK → Prop := fun xs H Q => (∃ p ys, xs = [.ref p] ∧ (SqL K H p ys ∨ SqT K H p ys) ∧ Q (.int ys.length) H) ∨ (∃ z, xs = [.str z] ∧ z.length ≤ sizeLine ∧ Q (.int z.length) H)
theorem call_lenA : CallR X (.builtin "len") (rLenA X.K) := call_len_seq.or call_len_str
theorem cLen_ok : CallS K cl (rLenA K) cLen := fun φ S G H xs ds z Q w h1 h3 k => by
  unfold cLen at h3
  split at h3
  · split at h3
    · rename_i hz
      cases h3
      obtain ⟨v, rfl, h4⟩ := flat1 h1
      simp only [IsD] at h4
      exact .inr ⟨_, by rw [h4], szOk_le hz, k _ _ _ (Step.refl _ _ _) w _ (by simp only [IsD])⟩
    · cases h3
  · rename_i d _
    cases q : asL S d with
    | none => rw [q] at h3; cases h3
    | some l =>
      rw [q] at h3; cases h3
      obtain ⟨v, rfl, h4⟩ := flat1 h1
      obtain ⟨a, ys, rfl, h5, h6⟩ := asL_sq w h4 q
      exact .inl ⟨a, ys, rfl, h5, by rw [← h6.length]; exact k _ _ _ (Step.refl _ _ _) w _ (by simp only [IsD])⟩
  · cases h3
def cAbs : Store → List D → Option D := fun _ ds => match ds with
  | [.int i] => some (.int (if i < 0 then -i else i))
  | _ => none
theorem cAbs_ok : CallS K cl (fun xs H Q => ∃ i, xs = [.int i] ∧ Q (.int (if i < 0 then -i else i)) H) cAbs := fun φ S G H xs ds z Q w h1 h3 k => by
  unfold cAbs at h3
  split at h3
  · cases h3
    obtain ⟨v, rfl, h4⟩ := flat1 h1
    simp only [IsD] at h4
    exact ⟨_, by rw [h4], k _ _ _ (Step.refl _ _ _) w _ (by simp only [IsD])⟩
  · cases h3
noncomputable def cInt : Store → List D → Option D := fun _ ds => match ds with
  | [.int i] => some (.int i)
  | [.str a] => if cdec (a.length ≤ 640) = true then (PySem.intText? a).map .int else none
  | _ => none
def rIntA : List V → Hp → VK → Prop := fun xs H Q => ((∃ i, xs = [.int i] ∧ Q (.int i) H) ∨ ∃ k, xs = [.bl k] ∧ Q (.int (if k then 1 else 0)) H) ∨ (∃ a n, xs = [.str a] ∧ PySem.intText? a = some n ∧ a.length ≤ 640 ∧ Q (.int n) H)
theorem call_intA : CallR X (.type "int") rIntA := call_int1.or call_int_str
theorem cInt_ok : CallS K cl rIntA cInt := fun φ S G H xs ds z Q w h1 h3 k => by
  unfold cInt at h3
  split at h3
  · cases h3
    obtain ⟨v, rfl, h4⟩ := flat1 h1
    simp only [IsD] at h4
    exact .inl (.inl ⟨_, by rw [h4], k _ _ _ (Step.refl _ _ _) w _ (by simp only [IsD])⟩)
  · rename_i a
    split at h3
    · rename_i hl
      cases q : PySem.intText? a with
      | none => rw [q] at h3; cases h3
      | some n =>
        rw [q] at h3; cases h3
        obtain ⟨v, rfl, h4⟩ := flat1 h1
        simp only [IsD] at h4
        exact .inr ⟨a, n, by rw [h4], q, cdec_iff.mp hl, k _ _ _ (Step.refl _ _ _) w _ (by simp only [IsD])⟩
    · cases h3
  · cases h3
noncomputable def cStr : Store → List D → Option D := fun _ ds => match ds with
  | [.int i] => if cdec (i.natAbs.log2 < 1920) = true then some (.str (Str.ofString (toString i))) else none
  | [.str a] => some (.str a)
  | _ => none
def rStrA : List V → Hp → VK → Prop := fun xs H Q => (∃ i, xs = [.int i] ∧ i.natAbs.log2 < 1920 ∧ Q (.str (toString i)) H) ∨ (∃ a, xs = [.str a] ∧ Q (.str a) H)
theorem call_strA : CallR X (.type "str") rStrA := call_str_int.or SkE.call_str_str
theorem cStr_ok : CallS K cl rStrA cStr := fun φ S G H xs ds z Q w h1 h3 k => by
  unfold cStr at h3
  split at h3
  · split at h3
    · rename_i hz
      cases h3
      obtain ⟨v, rfl, h4⟩ := flat1 h1
      simp only [IsD] at h4
      exact .inl ⟨_, by rw [h4], cdec_iff.mp hz, k _ _ _ (Step.refl _ _ _) w _ (by simp only [IsD])⟩
    · cases h3
  · cases h3
    obtain ⟨v, rfl, h4⟩ := flat1 h1
    simp only [IsD] at h4
    exact .inr ⟨_, by rw [h4], k _ _ _ (Step.refl _ _ _) w _ (by simp only [IsD])⟩
  · cases h3
def intsOf : List D → Option (List Int)
  | [] => some []
  | .int i :: ds => (intsOf ds).map fun r => i :: r
  | _ => none
theorem intsOf_eq : ∀ {ds : List D} {ns : List Int}, intsOf ds = some ns → ds = ns.map .int
  | [], _, h => by cases h; rfl
  | .int i :: ds, _, h => by
    simp only [intsOf] at h
    cases q : intsOf ds with
    | none => rw [q] at h; cases h
    | some r => rw [q] at h; cases h; rw [intsOf_eq q]; rfl
  | .non :: ds, _, h => by cases h
  | .bl _ :: ds, _, h => by cases h
  | .str _ :: ds, _, h => by cases h
  | .tup _ :: ds, _, h => by cases h
  | .lst _ :: ds, _, h => by cases h
  | .scr _ :: ds, _, h => by cases h
  | .ref _ :: ds, _, h => by cases h
def blsOf : List D → Option (List Bool)
  | [] => some []
  | .bl i :: ds => (blsOf ds).map fun r => i :: r
  | _ => none
theorem blsOf_eq : ∀ {ds : List D} {ns : List Bool}, blsOf ds = some ns → ds = ns.map .bl
  | [], _, h => by cases h; rfl
  | .bl i :: ds, _, h => by
    simp only [blsOf] at h
    cases q : blsOf ds with
    | none => rw [q] at h; cases h
    | some r => rw [q] at h; cases h; rw [blsOf_eq q]; rfl
  | .non :: ds, _, h => by cases h
  | .int _ :: ds, _, h => by cases h
  | .str _ :: ds, _, h => by cases h
  | .tup _ :: ds, _, h => by cases h
  | .lst _ :: ds, _, h => by cases h
  | .scr _ :: ds, _, h => by cases h
  | .ref _ :: ds, _, h => by cases h
def strsOf : List D → Option (List Str)
  | [] => some []
  | .str i :: ds => (strsOf ds).map fun r => i :: r
  | _ => none
theorem strsOf_eq : ∀ {ds : List D} {ns : List Str}, strsOf ds = some ns → ds = ns.map .str
  | [], _, h => by cases h; rfl
  | .str i :: ds, _, h => by
    simp only [strsOf] at h
    cases q : strsOf ds with
    | none => rw [q] at h; cases h
    | some r => rw [q] at h; cases h; rw [strsOf_eq q]; rfl
  | .non :: ds, _, h => by cases h
  | .int _ :: ds, _, h => by cases h
  | .bl _ :: ds, _, h => by cases h
  | .tup _ :: ds, _, h => by cases h
  | .lst _ :: ds, _, h => by cases h
  | .scr _ :: ds, _, h => by cases h
  | .ref _ :: ds, _, h => by cases h
def cSum : Store → List D → Option D := fun S ds => match ds with
  | [d] => ((asLL S d).bind intsOf).map fun ns => .int ns.sum
  | _ => none
theorem cSum_ok : CallS K cl (rSum K) cSum := fun φ S G H xs ds z Q w h1 h3 k => by
  unfold cSum at h3
  split at h3
  · rename_i d
    cases q : asLL S d with
    | none => rw [q] at h3; cases h3
    | some l =>
      rw [q] at h3
      cases q2 : intsOf l with
      | none => simp only [Option.bind_some, q2] at h3; cases h3
      | some ns =>
        simp only [Option.bind_some, q2] at h3
        cases h3
        obtain ⟨v, rfl, h4⟩ := flat1 h1
        obtain ⟨a, ys, rfl, h5, h6⟩ := asLL_sq w h4 q
        rw [intsOf_eq q2] at h6
        rw [h6.ints] at h5
        exact ⟨a, ns, rfl, SqL.of h5, k _ _ _ (Step.refl _ _ _) w _ (by simp only [IsD])⟩
  · cases h3
def cAll : Store → List D → Option D := fun S ds => match ds with
  | [d] => ((asLL S d).bind blsOf).map fun ns => .bl (ns.all id)
  | _ => none
theorem cAll_ok : CallS K cl (rAll K) cAll := fun φ S G H xs ds z Q w h1 h3 k => by
  unfold cAll at h3
  split at h3
  · rename_i d
    cases q : asLL S d with
    | none => rw [q] at h3; cases h3
    | some l =>
      rw [q] at h3
      cases q2 : blsOf l with
      | none => simp only [Option.bind_some, q2] at h3; cases h3
      | some ns =>
        simp only [Option.bind_some, q2] at h3
        cases h3
        obtain ⟨v, rfl, h4⟩ := flat1 h1
        obtain ⟨a, ys, rfl, h5, h6⟩ := asLL_sq w h4 q
        rw [blsOf_eq q2] at h6
        rw [h6.bls] at h5
        exact ⟨a, ns, rfl, SqL.of h5, k _ _ _ (Step.refl _ _ _) w _ (by simp only [IsD])⟩
  · cases h3
def cAny : Store → List D → Option D := fun S ds => match ds with
  | [d] => ((asLL S d).bind blsOf).map fun ns => .bl (ns.any id)
  | _ => none
theorem cAny_ok : CallS K cl (rAny K) cAny := fun φ S G H xs ds z Q w h1 h3 k => by
  unfold cAny at h3
  split at h3
  · rename_i d
    cases q : asLL S d with
    | none => rw [q] at h3; cases h3
    | some l =>
      rw [q] at h3
      cases q2 : blsOf l with
      | none => simp only [Option.bind_some, q2] at h3; cases h3
      | some ns =>
        simp only [Option.bind_some, q2] at h3
        cases h3
        obtain ⟨v, rfl, h4⟩ := flat1 h1
        obtain ⟨a, ys, rfl, h5, h6⟩ := asLL_sq w h4 q
        rw [blsOf_eq q2] at h6
        rw [h6.bls] at h5
        exact ⟨a, ns, rfl, SqL.of h5, k _ _ _ (Step.refl _ _ _) w _ (by simp only [IsD])⟩
  · cases h3
/-- list(x): a stable list -/
def cList : Store → List D → Option D := fun S ds => match ds with
  | [d] => (asL S d).map .lst
  | _ => none
theorem cList_ok : CallS K cl (fun xs H Q => ∃ p ys, xs = [.ref p] ∧ (SqL K H p ys ∨ SqT K H p ys) ∧ ∀ l, H l = none → Q (.ref l) (upd H l (.lst ys))) cList := fun φ S G H xs ds z Q w h1 h3 k => by
  unfold cList at h3
  split at h3
  · rename_i d
    cases q : asL S d with
    | none => rw [q] at h3; cases h3
    | some l =>
      rw [q] at h3; cases h3
      obtain ⟨v, rfl, h4⟩ := flat1 h1
      obtain ⟨a, ys, rfl, h5, h6⟩ := asL_sq w h4 q
      exact ⟨a, ys, rfl, h5, new_lst w h6 k⟩
  · cases h3
def cTuple : Store → List D → Option D := fun S ds => match ds with
  | [.tup l] => some (.tup l)
  | [d] => (asLL S d).map .tup
  | _ => none
theorem cTuple_ok : CallS K cl (fun xs H Q => ∃ p ys, xs = [.ref p] ∧ ((SqL K H p ys ∧ ∀ l, H l = none → Q (.ref l) (upd H l (.tup ys))) ∨ (SqT K H p ys ∧ Q (.ref p) H))) cTuple := fun φ S G H xs ds z Q w h1 h3 k => by
  unfold cTuple at h3
  split at h3
  · cases h3
    obtain ⟨v, rfl, h4⟩ := flat1 h1
    have h5 := h4
    simp only [IsD] at h4
    obtain ⟨a, ys, rfl, h6, h7⟩ := h4
    exact ⟨a, ys, rfl, .inr ⟨Ex.t w.sub h6, k _ _ _ (Step.refl _ _ _) w _ h5⟩⟩
  · rename_i d _
    cases q : asLL S d with
    | none => rw [q] at h3; cases h3
    | some l =>
      rw [q] at h3; cases h3
      obtain ⟨v, rfl, h4⟩ := flat1 h1
      obtain ⟨a, ys, rfl, h5, h6⟩ := asLL_sq w h4 q
      exact ⟨a, ys, rfl, .inl ⟨SqL.of h5, new_tup w h6 k⟩⟩
  · cases h3
/-- isinstance(x, T), T a built-in class -/
inductive TyT where
  | non | bl | int | str | tup | lst | dct
def TyT.nm : TyT → String
  | .non => "NoneType"
  | .bl => "bool"
  | .int => "int"
  | .str => "str"
  | .tup => "tuple"
  | .lst => "list"
  | .dct => "dict"
def tyN (S : Store) : D → Option TyT
  | .non => some .non
  | .bl _ => some .bl
  | .int _ => some .int
  | .str _ => some .str
  | .tup _ => some .tup
  | .lst _ => some .lst
  | .ref i => match S[i]? with
    | some (.lst _) => some .lst
    | some (.dK _) => some .dct
    | _ => none
  | .scr _ => none
theorem tyN_ok {φ : List Addr} {S : Store} {G H : Hp} (w : Wd K cl φ S G H) {d : D} {v : V} {n : TyT} (h : IsD K φ G d v) (e : tyN S d = some n) : TyX K H v (.type n.nm) := by
  cases d <;> simp only [tyN] at e <;> try (cases e; done)
  · cases e; simp only [IsD] at h; subst h; exact .base .non
  · cases e; simp only [IsD] at h; subst h; exact .base (.bl _)
  · cases e; simp only [IsD] at h; subst h; exact .base (.int _)
  · cases e; simp only [IsD] at h; subst h; exact .base (.str _)
  · cases e; simp only [IsD] at h
    obtain ⟨a, xs, rfl, h1, h2⟩ := h
    rcases Ex.t w.sub h1 with h3 | ⟨o, its, n, h3, h4, _⟩
    · rcases h3 with h3 | ⟨o, h3⟩
      · exact .base (.tup h3)
      · exact .fTuple h3
    · exact .kTuple h3 h4
  · cases e; simp only [IsD] at h
    obtain ⟨a, xs, rfl, h1, h2⟩ := h
    exact .base (.lst (w.sub _ _ h1))
  · simp only [IsD] at h
    obtain ⟨a, rfl, h1⟩ := h
    split at e
    · rename_i hi
      cases e
      obtain ⟨vs, h3, _⟩ := w.ok _ _ _ hi h1
      exact .base (.lst h3)
    · rename_i hi
      cases e
      obtain ⟨vs, h3, _⟩ := w.ok _ _ _ hi h1
      exact .base (.dK h3)
    · cases e
def isiB : TyT → TyT → Bool
  | .non, .non => true
  | .bl, .bl => true
  | .bl, .int => true
  | .int, .int => true
  | .str, .str => true
  | .tup, .tup => true
  | .lst, .lst => true
  | .dct, .dct => true
  | _, _ => false
def fIsi (Ty : TyT) : Store → D → Option D := fun S d => (tyN S d).map fun n => .bl (isiB n Ty)
def isiTab (Ty : TyT) : Bool := [TyT.non, .bl, .int, .str, .tup, .lst, .dct].all fun n => decide (kitB n.nm Ty.nm = some (isiB n Ty))
theorem ty_mem (n : TyT) : n ∈ [TyT.non, .bl, .int, .str, .tup, .lst, .dct] := by cases n <;> simp
theorem re_isi {x : Expr} {Ty : TyT} {nm : Str} {p q pos : Pos} {m : M D} (hm : X.mg "isinstance" = none) (hm2 : X.mg nm = none) (hv : bootBuiltins nm = some (.type Ty.nm)) (ht : isiTab Ty = true) (hx : RE X cl tk x m)
    (hg : Gl X "isinstance" := by rfl) (hg2 : Gl X nm := by rfl) (hn : nm ≠ "__name__" := by decide) (hd : (nm == ("__debug__" : Str)) = false := by decide)
    (hs1 : starEach [x, .Name nm q] X.env = (false, eval x X.env) :: starEach [.Name nm q] X.env := by rfl) (hs2 : starEach [.Name nm q] X.env = (false, eval (.Name nm q) X.env) :: starEach [] X.env := by rfl)
    (hpl : (backTo pos (starEach [.Name nm q] X.env)).any (·.1) = false := by rfl) : RE X cl tk (.Call (.Name "isinstance" p) [x, .Name nm q] [] pos) (mOp1 (fIsi Ty) m) := by
  refine pe_imp (pe_callB call_isi hg hm PyProof.Rows.boot_isinstance (pa_cons hx (pa_cons (pe_bltn (v := .ty Ty.nm) hg2 hm2 hv rfl hn hd) pa_nil hs2) hs1) (by decide) (by decide) hs1 hpl) fun σ H Q ⟨φ, G, g, S, r, S', w, s, e, k⟩ => ?_
  refine tM_bind T.ok w s e k fun d φ1 G1 H1 S1 v st1 w1 s1 hv' e1 k1 => ?_
  obtain ⟨z, ez, rfl, rfl⟩ := mL_ok e1
  unfold fIsi at ez
  cases q : tyN S' d with
  | none => rw [q] at ez; cases ez
  | some n =>
    rw [q] at ez
    cases ez
    refine ⟨v, .ty Ty.nm, .type n.nm, .type Ty.nm, isiB n Ty, rfl, .ty Ty.nm, tyN_ok w1 hv' q, kit_ty ?_, k1.now w1 _ (by simp only [IsD])⟩
    exact of_decide_eq_true (List.all_eq_true.mp ht n (ty_mem n))

/-! ### texts -/
noncomputable def fJoin : Store → D → D → Option D := fun S d e => match d with
  | .str a => ((asL S e).bind strsOf).bind fun ys => if szOk ((ys.map (·.length)).sum + ys.length * a.length) = true then some (.str (Txt.join a ys)) else none
  | _ => none
theorem tM1_of {r : V → List V → Hp → VK → Prop} {f : Store → D → D → Option D} {chk : D → Bool} {ma mb : M D} (ht : TkOk tk) (hc : ∀ S d e z, f S d e = some z → ∃ a, d = .str a)
    (hs : ∀ (φ : List Addr) (S : Store) (G H : Hp) (x y : V) (d e z : D) (Q : VK), Wd K cl φ S G H → IsD K φ G d x → IsD K φ G e y → f S d e = some z →
      (∀ φ' G' H', Step φ G H φ' G' H' → Wd K cl φ' S G' H' → ∀ v, IsD K φ' G' z v → Q v H') → r x [y] H Q) {σ : St} {H : Hp} {Q : VK}
    (h : tM K cl tk (mB ma fun d => mB (mL fun _ => match d with | .str _ => some () | _ => none) fun _ => mB mb fun e => mL fun S => f S d e) σ H Q) : tM1 r (tM K cl tk ma) (tM K cl tk mb) σ H Q := by
  obtain ⟨φ, G, g, S, r, S', w, s, e, k⟩ := h
  refine tM_bind ht w s e k fun d φ1 G1 H1 S1 x st1 w1 s1 hx e1 k1 => ?_
  rcases mB_ok e1 with ⟨u, S2, e2, e3⟩ | ⟨c, fs, e2, rfl⟩
  · obtain ⟨_, ez, _, rfl⟩ := mL_ok e2
    split at ez
    · have hx' := hx
      simp only [IsD] at hx'
      refine ⟨⟨_, hx'⟩, ?_⟩
      refine tM_bind ht w1 s1 e3 k1 fun d2 φ2 G2 H2 S2 y st2 w2 s2 hy e4 k2 => ?_
      obtain ⟨z, ez, rfl, rfl⟩ := mL_ok e4
      exact hs _ _ _ _ _ _ _ _ _ _ w2 (hx.mono st2.pre st2.ex) hy ez k2
    · cases ez
  · obtain ⟨_, _, q, _⟩ := mL_ok e2
    cases q
def mStr1 (f : Store → D → D → Option D) (ma mb : M D) : M D := mB ma fun d => mB (mL fun _ => match d with | .str _ => some () | _ => none) fun _ => mB mb fun e => mL fun S => f S d e
theorem re_join {o e : Expr} {apos pos : Pos} {mo me : M D} (ho : RE X cl tk o mo) (he : RE X cl tk e me) (hs : starEach [e] X.env = [(false, eval e X.env)] := by rfl) (hbase : attributeBase o "join" X.env (eval o X.env) = eval o X.env := by rfl) (hline : (apos.endLine == pos.line) = true := by rfl) :
    RE X cl tk (.Call (.Attribute o "join" apos) [e] [] pos) (mStr1 fJoin mo me) :=
  pe_imp (pe_join ho he hs hbase hline) fun _ _ _ h => tM1_of (chk := fun _ => true) (f := fJoin) T.ok (fun S d e z h => by unfold fJoin at h; split at h; exact ⟨_, rfl⟩; cases h) (fun φ S G H x y d e z Q w h1 h2 h3 k => by
    unfold fJoin at h3
    split at h3
    · rename_i a
      cases q : asL S e with
      | none => rw [q] at h3; cases h3
      | some l =>
        rw [q] at h3
        cases q2 : strsOf l with
        | none => simp only [Option.bind_some, q2] at h3; cases h3
        | some ys =>
          simp only [Option.bind_some, q2] at h3
          split at h3
          · rename_i hz
            cases h3
            simp only [IsD] at h1
            obtain ⟨p, xs, rfl, h5, h6⟩ := asL_sq w h2 q
            rw [strsOf_eq q2] at h6
            rw [h6.strs] at h5
            exact ⟨a, p, ys, h1, rfl, h5, cdec_iff.mp hz, k _ _ _ (Step.refl _ _ _) w _ (by simp only [IsD])⟩
          · cases h3
    · cases h3) h
noncomputable def fSplit : Store → D → D → Option D := fun S d e => match d, e with
  | .str a, .str b => if (b.length == 0) = false ∧ szOk (a.length + 2) = true then some (.lst ((Txt.split a b).map .str)) else none
  | _, _ => none
theorem re_split {o e : Expr} {apos pos : Pos} {mo me : M D} (ho : RE X cl tk o mo) (he : RE X cl tk e me) (hs : starEach [e] X.env = [(false, eval e X.env)] := by rfl) (hbase : attributeBase o "split" X.env (eval o X.env) = eval o X.env := by rfl) (hline : (apos.endLine == pos.line) = true := by rfl) :
    RE X cl tk (.Call (.Attribute o "split" apos) [e] [] pos) (mStr1 fSplit mo me) :=
  pe_imp (pe_split ho he hs hbase hline) fun _ _ _ h => tM1_of (chk := fun _ => true) (f := fSplit) T.ok (fun S d e z h => by unfold fSplit at h; split at h; exact ⟨_, rfl⟩; cases h) (fun φ S G H x y d e z Q w h1 h2 h3 k => by
    unfold fSplit at h3
    split at h3
    · split at h3
      · rename_i a b hz
        cases h3
        simp only [IsD] at h1 h2
        refine ⟨a, b, h1, by rw [h2], hz.1, szOk_le hz.2, fun p hp => ?_⟩
        exact new_lst w (IsDs.of_strs _) k p hp
      · cases h3
    · cases h3) h
end
end Mi
namespace Mi
open PySem L2
/-! ### match over sequences of written texts and names -/
inductive PatE where
  | val (s : Str) | cap (i : Nat)
inductive PatOk (X : Cx) : Pattern → PatE → Prop where
  | val {s : Str} {k : Nat} {p q : Pos} : PatOk X (.MatchValue (.Constant (.str s) k p) q) (.val s)
  | cap {n : Str} {i : Nat} {p : Pos} (hi : X.N[i]? = some n) (hx : Loc X.env.scope n) (hf : X.fn n = true ∨ X.env.scope.names.lookup n = some .local) : PatOk X (.MatchAs none (some n) p) (.cap i)
def matchSeqD : List PatE → List D → Option (Option (List (Nat × D)))
  | [], [] => some (some [])
  | .val s :: ps, d :: ds => match flV d with
    | some x => if scal x (.str s) = true then (if x = .str s then matchSeqD ps ds else some none) else none
    | none => none
  | .cap i :: ps, d :: ds => match matchSeqD ps ds with
    | some (some bs) => some (some ((i, d) :: bs))
    | r => r
  | _, _ => none
def BsOk (X : Cx) (φ : List Addr) (G : Hp) : List (Nat × D) → List (Str × Value) → Prop
  | [], bvs => bvs = []
  | (i, d) :: bs, bvs => ∃ n u r v, bvs = (n, u) :: r ∧ X.N[i]? = some n ∧ Loc X.env.scope n ∧ (X.fn n = true ∨ X.env.scope.names.lookup n = some .local) ∧ RelV v u ∧ IsD X.K φ G d v ∧ BsOk X φ G bs r
def bindAll (bs : List (Nat × D)) (g : Gm) : Gm := bs.foldl (fun g p => g.set p.1 (some p.2)) g
/-- the cases, by the subject's data -/
abbrev MC := D → MS
structure RCs (X : Cx) (cl : Cl) (tk : WX → Prop) (cases : List MatchCase) (m : MC) : Prop where
  run : ∀ (first : Bool) (pins : List (Addr × Obj)) (s : Shared) (σ : L2.St) (H : Hp) (Dn : Ends) (v : V) (u : Value) (φ : List Addr) (G : Hp) (g : Gm) (S : Store) (d : D) (o : Out) (S' : Store), Inv X pins σ H s → RelV v u →
    Wd X.K cl φ S G H → Sl X.K cl φ G g σ → IsD X.K φ G d v → m d g S = some (o, S') → Kos X.K cl tk φ G H o S' Dn → wpAny (model X.prog X.w) X.A (matchCases cases X.env u first) (SP X pins Dn) X.xe s
section
variable {X : Cx} {cl : Cl} {tk : WX → Prop} [T : Tk X tk]
theorem matchEach_ok {pins : List (Addr × Obj)} {σ : L2.St} {H : Hp} {φ : List Addr} {G : Hp} {E : Value → Shared → Prop} : ∀ {ps : List Pattern} {pes : List PatE} {ds : List D} {vs : List V} {us : List Value} {r : Option (List (Nat × D))} {s : Shared} {Q : Option (List (Str × Value)) → Shared → Prop},
    Paired (PatOk X) ps pes → IsDs X.K φ G ds vs → Vals vs us → matchSeqD pes ds = some r → Inv X pins σ H s → (∀ s', Inv X pins σ H s' → match r with
      | none => Q none s'
      | some bs => ∀ bvs, BsOk X φ G bs bvs → Q (some bvs) s') → wpAny (model X.prog X.w) X.A (matchEach ps X.env us) Q E s
  | _, _, [], _, _, _, _, _, .nil, hd, hv, e, I, k => by
    rw [hd.nil_inv] at hv
    cases hv
    simp only [matchSeqD] at e
    cases e
    exact wpAny_matchEach_nil (k _ I [] (by simp only [BsOk]))
  | _, _, [], _, _, _, _, _, .cons a _, hd, hv, e, I, k => by
    cases a <;> simp only [matchSeqD] at e <;> cases e
  | _, _, d :: ds, _, _, _, _, _, .nil, hd, hv, e, I, k => by
    simp only [matchSeqD] at e
    cases e
  | _, _, d :: ds, _, _, r, s, Q, .cons a rest, hd, hv, e, I, k => by
    obtain ⟨v, vr, rfl, h1, h2⟩ := hd.cons_inv
    cases hv with
    | cons rv rr =>
      cases a with
      | val =>
        simp only [matchSeqD] at e
        split at e
        · rename_i x fx
          split at e
          · rename_i hs
            have ev := flV_ok h1 fx
            subst ev
            refine wpAny_matchEach_cons (wpAny_matchPattern_Value (Calls.Constant_str ?_))
            refine wpAny_mono ((op_eq (X := X.wish E)) pins _ σ H v (.str _) _ _ (fun y H' => y = .bl (decide (v = .str _)) ∧ H' = H) ((I.tok _).wish E) rv ⟨_, rfl⟩ ⟨hs, rfl, rfl⟩) (fun c s2 ⟨y, H', I2, ry, q1, q2⟩ => ?_) fun _ _ z => z
            subst q1 q2
            cases ry
            refine wpAny_truthy_bool ?_
            split at e
            · rename_i hx
              rw [decide_eq_true hx, if_pos rfl]
              show wpAny _ _ _ _ _ _
              refine matchEach_ok rest h2 rr e I2.unwish fun s' I' => ?_
              have k' := k s' I'
              cases r with
              | none => exact k'
              | some bs => exact fun bvs hb => k' _ hb
            · rename_i hx
              cases e
              rw [decide_eq_false hx, if_neg Bool.false_ne_true]
              exact k s2 I2.unwish
          · cases e
        · cases e
      | cap hi hx hf =>
        simp only [matchSeqD] at e
        refine wpAny_matchEach_cons (wpAny_matchPattern_Capture ?_)
        show wpAny _ _ _ _ _ _
        cases q : matchSeqD _ ds with
        | none => rw [q] at e; cases e
        | some r' =>
          rw [q] at e
          refine matchEach_ok rest h2 rr q I fun s' I' => ?_
          have k' := k s' I'
          cases r' with
          | none => cases e; exact k'
          | some bs =>
            cases e
            exact fun bvs hb => k' _ ⟨_, _, _, v, rfl, hi, hx, hf, rv, h1, hb⟩
theorem bind_ok {pins : List (Addr × Obj)} {H : Hp} {φ : List Addr} {G : Hp} (hN : X.N.Nodup) : ∀ {bs : List (Nat × D)} {bvs : List (Str × Value)} {g : Gm} {σ : L2.St} {s : Shared} {Q : Unit → Shared → Prop}, BsOk X φ G bs bvs → Sl X.K cl φ G g σ → Inv X pins σ H s →
    (∀ σ' s', Inv X pins σ' H s' → Sl X.K cl φ G (bindAll bs g) σ' → Q () s') → wpAny (model X.prog X.w) X.A (assignInOrder (bvs.map fun (n, _) => bindName X.env n) (bvs.map (·.2))) Q X.xe s
  | [], _, g, σ, s, Q, hb, sl, I, k => by
    simp only [BsOk] at hb
    subst hb
    exact wpAny_assignInOrder_none (k σ s I sl)
  | (i, d) :: bs, _, g, σ, s, Q, hb, sl, I, k => by
    simp only [BsOk] at hb
    obtain ⟨n, u, r, v, rfl, hi, hx, hf, rv, hd, hb⟩ := hb
    refine wpAny_assignInOrder_more (wpAny_bindName (store_ok I hN hi hx rv (fun s2 I2 => ?_) hf))
    exact bind_ok hN hb (sl.set hd) I2 k
def mcNil : MC := fun _ g S => some (.nx g, S)
def mcCons (ps : List PatE) (body : MS) (rest : MC) : MC := fun d g S => match asL S d with
  | some l => if l.length = ps.length then match matchSeqD ps l with
      | some (some bs) => body (bindAll bs g) S
      | some none => rest d g S
      | none => none
    else rest d g S
  | none => none
theorem rcs_nil : RCs X cl tk [] mcNil := ⟨fun first pins s σ H Dn v u φ G g S d o S' I r w sl hd e k => by
  cases e
  exact wpAny_matchCases_nil ⟨σ, H, I, k φ G H (Step.refl _ _ _) w σ sl⟩⟩
theorem rcs_cons {ps : List Pattern} {pes : List PatE} {pos : Pos} {body : List Stmt} {rest : List MatchCase} {mb : MS} {mr : MC} (hN : X.N.Nodup) (hp : Paired (PatOk X) ps pes) (hb : RSs X cl tk body mb) (hr : RCs X cl tk rest mr) (hc : X.calm = true := by rfl)
    (hstar : ps.findIdx? (·.isStar) = none := by rfl) (hwild : (ps.all fun p => p.isWildcard || (p.isStar && p.names.isEmpty)) = false := by rfl) : RCs X cl tk (⟨.MatchSequence ps pos, none, body⟩ :: rest) (mcCons pes mb mr) := ⟨fun first pins s σ H Dn v u φ G g S d o S' I r w sl hd e k => by
  unfold mcCons at e
  split at e
  · rename_i l q
    obtain ⟨a, xs, rfl, h1, h2⟩ := asL_sq w hd q
    cases r
    have hpl : ps.length = pes.length := hp.length
    have hxl := h2.length
    refine wpAny_matchCases_cons ?_
    have go : ∀ (its : List Value) (s1 : Shared), Vals xs its → Inv X pins σ H s1 → l.length = pes.length → wpAny (model X.prog X.w) X.A (matchEach ps X.env its) (fun r s₁ => match r with
          | none => wpAny (model X.prog X.w) X.A (matchCases rest X.env (.ref a) false) (SP X pins Dn) X.xe s₁
          | some bs => wpAny (model X.prog X.w) X.A (assignInOrder (bs.map fun (n, _) => bindName X.env n) (bs.map (·.2))) (fun _ s₂ => wpAny (model X.prog X.w) X.A (execs body X.env) (SP X pins Dn) X.xe s₂) X.xe s₁) X.xe s1 := fun its s1 rv I1 hl => by
      rw [if_pos hl] at e
      split at e
      · rename_i bs q2
        refine matchEach_ok hp h2 rv q2 I1 fun s' I' => fun bvs hbv => ?_
        refine bind_ok hN hbv sl I' fun σ2 s2 I2 sl2 => ?_
        exact hb.run pins s2 σ2 H Dn I2 ⟨φ, G, _, S, o, S', w, sl2, e, k⟩
      · rename_i q2
        refine matchEach_ok hp h2 rv q2 I1 fun s' I' => ?_
        exact hr.run false pins s' σ H Dn (.ref a) (.ref a) φ G g S d o S' I' rfl w sl hd e k
      · cases e
    rcases h1 with h1 | h1
    · obtain ⟨its, rv, pl, hz⟩ := I.list h1
      have hl' : s.heap.IsList a its.toArray := by
        obtain ⟨o, m, e, c, d, q⟩ := pl
        exact ⟨o, e, c, m, q⟩
      have hfit : ((its.toArray.size : Nat) : Int) < 2 ^ 63 := by
        have := rv.length
        have h3 := line63
        simp
        have : (its.length : Int) ≤ (sizeLine : Nat) := by omega
        omega
      have hsz : its.toArray.size = l.length := by simp [← rv.length, hxl]
      by_cases hl : l.length = pes.length
      · refine PyProof.Rows.matchSeq_list_hit hl' hfit (by rw [hsz, hl, hpl]) ?_ hstar hwild
        rw [show ps.length = its.toArray.size by rw [hsz, hl, hpl]]
        refine PySem.W.kun_itemsOf (I.ok.hd hc) hl' fun h' hx => ?_
        have I1 : Inv X pins σ H { s with heap := h', toks := s.toks + 1 + 1 } := I.kept (t' := s.toks + 1 + 1) fun b o e => hx b o (Nat.ne_of_lt (Heap.lt_size e)) e
        exact go its _ rv I1 hl
      · refine PyProof.Rows.matchSeq_list_miss hl' hfit (by rw [hsz, hpl]; exact hl) ?_ hstar hwild
        rw [if_neg hl] at e
        exact hr.run false pins _ σ H Dn (.ref a) (.ref a) φ G g S d o S' (I.tok _) rfl w sl hd e k
    · obtain ⟨its, rv, pl, hz⟩ := I.tuple h1
      have hfit : ((its.toArray.size : Nat) : Int) < 2 ^ 63 := by
        have := rv.length
        have h3 := line63
        simp
        have : (its.length : Int) ≤ (sizeLine : Nat) := by omega
        omega
      have hsz : its.toArray.size = l.length := by simp [← rv.length, hxl]
      by_cases hl : l.length = pes.length
      · refine PyProof.Rows.matchSeq_tuple_hit pl hfit (by rw [hsz, hl, hpl]) ?_ hstar hwild
        rw [show ps.length = its.toArray.size by rw [hsz, hl, hpl]]
        refine PyProof.Rows.unpackItems_tuple (I.ok.hd hc) (pl.keeps fun b o e => e) fun h' hx => ?_
        have I1 : Inv X pins σ H { s with heap := h', toks := s.toks + 1 + 1 } := I.kept (t' := s.toks + 1 + 1) fun b o e => hx b o (Nat.ne_of_lt (Heap.lt_size e)) e
        exact go its _ rv I1 hl
      · refine PyProof.Rows.matchSeq_tuple_miss pl hfit (by rw [hsz, hpl]; exact hl) ?_ hstar hwild
        rw [if_neg hl] at e
        exact hr.run false pins _ σ H Dn (.ref a) (.ref a) φ G g S d o S' (I.tok _) rfl w sl hd e k
  · cases e⟩
def mMatch (m : M D) (mc : MC) : MS := fun g S => match m g S with
  | some (.ok d, S1) => mc d g S1
  | some (.exc c fs, S1) => some (.ex g c fs, S1)
  | none => none
theorem rs_match {subject : Expr} {cases : List MatchCase} {pos : Pos} {m : M D} {mc : MC} (he : RE X cl tk subject m) (hc : RCs X cl tk cases mc) : RS X cl tk (.Match subject cases pos) (mMatch m mc) := by
  refine ⟨fun pins s σ H Dn I ⟨φ, G, g, S, o, S', w, sl, e, k⟩ => ?_⟩
  refine wpAny_Match (thn (he.run pins s σ H (fun v H1 => ∃ φ1 G1 S1 d, Wd X.K cl φ1 S1 G1 H1 ∧ Sl X.K cl φ1 G1 g σ ∧ IsD X.K φ1 G1 d v ∧ mc d g S1 = some (o, S') ∧ Kos X.K cl tk φ1 G1 H1 o S' Dn) I ?_) fun u s1 ⟨v, H1, I1, rv, φ1, G1, S1, d, w1, sl1, hd, e1, k1⟩ => ?_)
  · exact tM_stmt (f := fun d g S1 => mc d g S1) w sl e k T.ok fun d φ1 G1 H1 S1 v st1 w1 s1 hv e1 k1 => ⟨φ1, G1, S1, d, w1, s1, hv, e1, k1⟩
  · exact hc.run true pins s1 σ H1 Dn v u φ1 G1 g S1 d o S' I1 rv w1 sl1 hd e1 k1
end
end Mi
namespace Mi
open PySem L2
/-! ### cells of a call that nothing leads to are forgotten -/
mutual
def refsLt (n : Nat) : D → Bool
  | .tup l => refsLts n l
  | .lst l => refsLts n l
  | .ref i => decide (i < n)
  | _ => true
def refsLts (n : Nat) : List D → Bool
  | [] => true
  | d :: ds => refsLt n d && refsLts n ds
end
def cellLt (n : Nat) : Cell → Bool
  | .lst l => refsLts n l
  | .dK kvs => refsLts n (kvs.map (·.2))
  | .dF kvs => refsLts n (kvs.map (·.2))
  | .ins _ fs => refsLts n (fs.map (·.2))
  | .dead => true
section
variable {K : PySem.W.Frag} {cl : Cl} {φ : List Addr} {G H : Hp} {n : Nat}
mutual
theorem IsD.cut : ∀ {d : D} {v : V}, IsD K φ G d v → refsLt n d = true → IsD K (φ.take n) G d v
  | .non, _, h, _ => by simpa only [IsD] using h
  | .bl _, _, h, _ => by simpa only [IsD] using h
  | .int _, _, h, _ => by simpa only [IsD] using h
  | .str _, _, h, _ => by simpa only [IsD] using h
  | .scr _, _, h, _ => by simpa only [IsD] using h
  | .tup ds, v, h, e => by
    simp only [IsD] at h ⊢
    simp only [refsLt] at e
    obtain ⟨a, xs, h1, h2, h3⟩ := h
    exact ⟨a, xs, h1, h2, IsDs.cutR h3 e⟩
  | .lst ds, v, h, e => by
    simp only [IsD] at h ⊢
    simp only [refsLt] at e
    obtain ⟨a, xs, h1, h2, h3⟩ := h
    exact ⟨a, xs, h1, h2, IsDs.cutR h3 e⟩
  | .ref i, v, h, e => by
    simp only [IsD] at h ⊢
    simp only [refsLt] at e
    obtain ⟨a, h1, h2⟩ := h
    exact ⟨a, h1, by rw [List.getElem?_take_of_lt (of_decide_eq_true e)]; exact h2⟩
theorem IsDs.cutR : ∀ {ds : List D} {vs : List V}, IsDs K φ G ds vs → refsLts n ds = true → IsDs K (φ.take n) G ds vs
  | [], _, h, _ => by simpa only [IsDs] using h
  | d :: ds, vs, h, e => by
    simp only [IsDs] at h ⊢
    simp only [refsLts, Bool.and_eq_true] at e
    obtain ⟨v, r, h1, h2, h3⟩ := h
    exact ⟨v, r, h1, IsD.cut h2 e.1, IsDs.cutR h3 e.2⟩
end
theorem FsD.cut : ∀ {fs : List (Str × D)} {vs : List (Str × V)}, FsD K φ G fs vs → refsLts n (fs.map (·.2)) = true → FsD K (φ.take n) G fs vs
  | [], _, h, _ => h
  | (m, d) :: fs, _, ⟨v, r, h1, h2, h3⟩, e => by
    simp only [List.map_cons, refsLts, Bool.and_eq_true] at e
    exact ⟨v, r, h1, h2.cut e.1, FsD.cut h3 e.2⟩
theorem KsD.cut : ∀ {fs : List (Key × D)} {vs : List (Key × V)}, KsD K φ G fs vs → refsLts n (fs.map (·.2)) = true → KsD K (φ.take n) G fs vs
  | [], _, h, _ => h
  | (m, d) :: fs, _, ⟨v, r, h1, h2, h3⟩, e => by
    simp only [List.map_cons, refsLts, Bool.and_eq_true] at e
    exact ⟨v, r, h1, h2.cut e.1, KsD.cut h3 e.2⟩
theorem CellOk.cut {a : Addr} {c : Cell} (h : CellOk K cl φ G H a c) (e : cellLt n c = true) : CellOk K cl (φ.take n) G H a c := by
  cases c with
  | lst l => obtain ⟨vs, h1, h2⟩ := h; exact ⟨vs, h1, h2.cutR e⟩
  | dK l => obtain ⟨vs, h1, h2⟩ := h; exact ⟨vs, h1, h2.cut e⟩
  | dF l => obtain ⟨o, vs, h1, h2⟩ := h; exact ⟨o, vs, h1, h2.cut e⟩
  | ins c l => obtain ⟨dx, vs, h1, h2⟩ := h; exact ⟨dx, vs, h1, h2.cut e⟩
  | dead => trivial
theorem Wd.cut {S : Store} (w : Wd K cl φ S G H) (e : (S.take n).all (cellLt n) = true) : Wd K cl (φ.take n) (S.take n) G H where
  len := by rw [List.length_take, List.length_take, w.len]
  iv := w.iv
  sub := w.sub
  nd := w.nd.sublist (List.take_sublist _ _)
  tr := fun a h => w.tr a (List.mem_of_mem_take h)
  ap := fun i c a h1 h2 h3 => by
    rw [List.getElem?_take] at h1 h2
    split at h1
    · rename_i hi
      rw [if_pos hi] at h2
      exact w.ap i c a h1 h2 h3
    · cases h1
  ok := fun i c a h1 h2 => by
    have hc : cellLt n c = true := List.all_eq_true.mp e c (List.mem_of_getElem? h1)
    rw [List.getElem?_take] at h1 h2
    split at h1
    · rename_i hi
      rw [if_pos hi] at h2
      exact (w.ok i c a h1 h2).cut hc
    · cases h1
theorem Step.cut {φ0 : List Addr} {G0 H0 : Hp} (s : Step φ0 G0 H0 φ G H) (e : φ0.length = n) : Step φ0 G0 H0 (φ.take n) G H where
  pre := by
    obtain ⟨t, rfl⟩ := s.pre
    rw [← e, List.take_left]
    exact List.prefix_refl _
  ex := s.ex
  gn := s.gn
  keep := s.keep
  new := fun a h => s.new a (List.mem_of_mem_take h)
def mTrim (m : MF) : MF := fun ds S => match m ds S with
  | some (.ok d, S1) => if refsLt S.length d = true ∧ (S1.take S.length).all (cellLt S.length) = true then some (.ok d, S1.take S.length) else none
  | some (.exc c fs, S1) => if (S1.take S.length).all (cellLt S.length) = true then some (.exc c fs, S1.take S.length) else none
  | none => none
theorem sp_trim {m : MF} {vs : List V} {Q : VK} {E : XK} (h : spM K cl (mTrim m) vs H Q E) : spM K cl m vs H Q E := by
  obtain ⟨φ, G, S, ds, r, S', w, hd, e, k⟩ := h
  unfold mTrim at e
  split at e
  · rename_i d S1 q
    split at e
    · rename_i hc
      cases e
      refine ⟨φ, G, S, ds, _, S1, w, hd, q, fun φ' G' H' st w' v hv => ?_⟩
      exact k _ G' H' (st.cut w.len) (w'.cut hc.2) v (hv.cut hc.1)
    · cases e
  · rename_i c fs S1 q
    split at e
    · rename_i hc
      cases e
      refine ⟨φ, G, S, ds, _, S1, w, hd, q, fun cls dd φ' G' H' ⟨h1, h2, h3⟩ => k cls dd _ G' H' ⟨h1.cut w.len, h2.cut hc, h3⟩⟩
    · cases e
  · cases e
theorem fn_trim {P : Program} {w : World} {mg : Str → Option Value} {base : Heap} {CX : CXT} {k : Nat} {f : Addr} {fd : FuncData} {ps : List Str} {m : MF} (F : FnOk P w K mg base CX k f fd ps (spM K cl m)) : FnOk P w K mg base CX k f fd ps (spM K cl (mTrim m)) :=
  F.imp fun _ _ _ _ h => sp_trim h
end

/-! ### a list cell becomes stable -/
section
variable {X : Cx} {cl : Cl} {tk : WX → Prop} [T : Tk X tk]
variable {K : PySem.W.Frag}
def mVarF (i : Nat) : M D := fun g S => match g[i]? with
  | some (some d) => match atC S d with
    | some (j, l) => some (.ok (.lst l), S.set j .dead)
    | none => none
  | _ => none
theorem frz_step {φ : List Addr} {S : Store} {G H : Hp} (w : Wd K cl φ S G H) {i : Nat} {a : Addr} {l : List D} {vs : List V} (hS : S[i]? = some (.lst l)) (hi : φ[i]? = some a) (hH : H a = some (.lst vs)) (hv : IsDs K φ G l vs) :
    Step φ G H φ (upd G a (.lst vs)) H ∧ Wd K cl φ (S.set i .dead) (upd G a (.lst vs)) H ∧ IsD K φ (upd G a (.lst vs)) (.lst l) (.ref a) := by
  have g0 : G a = none := w.ap i _ a hS hi rfl
  have ex : Ex G (upd G a (.lst vs)) := Ex.new g0
  refine ⟨⟨List.prefix_refl _, ex, fun x h => ?_, fun x o h _ => h, fun x h => .inl h⟩, ⟨by rw [List.length_set]; exact w.len, fun x o h => ?_, w.nd, w.tr, fun j c x h1 h2 h3 => ?_, fun j c x h1 h2 => ?_, cl.mono _ _ ex w.iv⟩, ?_⟩
  · by_cases e : x = a
    · subst e; exact .inr (.inr (List.mem_of_getElem? hi))
    · rw [upd_ne e] at h; exact .inl h
  · by_cases e : x = a
    · subst e; rw [upd_same] at h; rw [← h]; exact hH
    · rw [upd_ne e] at h; exact w.sub x o h
  · rcases set_get h1 with ⟨rfl, rfl⟩ | ⟨ne, h1⟩
    · cases h3
    · have nx : x ≠ a := fun z => ne (nodup_at w.nd h2 (by rw [z]; exact hi))
      rw [upd_ne nx]; exact w.ap j c x h1 h2 h3
  · rcases set_get h1 with ⟨rfl, rfl⟩ | ⟨ne, h1⟩
    · trivial
    · exact (w.ok j c x h1 h2).mono (List.prefix_refl _) ex fun o h => h
  · simp only [IsD]
    exact ⟨a, vs, rfl, upd_same, hv.mono (List.prefix_refl _) ex⟩
theorem re_varF {i : Nat} {x : Str} {pos : Pos} (hN : X.N[i]? = some x := by rfl) (hv : Vis X.env.scope x := by first | exact Or.inl rfl | exact Or.inr (Or.inl rfl) | exact Or.inr (Or.inr rfl)) (hd : (x == ("__debug__" : Str)) = false := by decide)
    (hcd : (x == ("__classdict__" : Str)) = false := by decide) : RE X cl tk (.Name x pos) (mVarF i) := by
  refine pe_imp (pe_var hN hv hd hcd) fun σ H Q ⟨φ, G, g, S, r, S', w, s, e, k⟩ => ?_
  unfold mVarF at e
  split at e
  · rename_i d hd
    split at e
    · rename_i j l q
      cases e
      obtain ⟨v, h1, h2⟩ := s.at_ _ _ hd
      obtain ⟨h3, a, xs, rfl, h4, h5, h6⟩ := atC_ok w h2 q
      obtain ⟨e1, e2, e3⟩ := frz_step w h3 h4 h5 h6
      exact ⟨_, h1, k _ _ _ e1 e2 _ e3⟩
    · cases e
  · cases e
/-! ### arithmetic's rows -/
def fSub : Store → D → D → Option D := f2I cTrue fun i j => .int (i - j)
noncomputable def fMul : Store → D → D → Option D := f2I cMul fun i j => .int (i * j)
noncomputable def fDiv : Store → D → D → Option D := f2I cDiv fun i j => .int (i / j)
noncomputable def fMod : Store → D → D → Option D := f2I cMod fun i j => .int (i % j)
noncomputable def fPow : Store → D → D → Option D := f2I cPow fun i j => .int (i ^ j.toNat)
theorem fSub_ok : OpS K cl (rI0 fun i j => .int (i - j)) fSub := s2I0 fun i j φ G => by simp only [IsD]
theorem fMul_ok : OpS K cl (rI CMul fun i j => .int (i * j)) fMul := s2I (P := CMul) (fun i j h => cdec_iff.mp h) fun i j φ G => by simp only [IsD]
theorem fDiv_ok : OpS K cl (rI CDiv fun i j => .int (i / j)) fDiv := s2I (P := CDiv) (fun i j h => cdec_iff.mp h) fun i j φ G => by simp only [IsD]
theorem fMod_ok : OpS K cl (rI (fun _ j => 0 < j) fun i j => .int (i % j)) fMod := s2I (P := fun _ j => 0 < j) (fun i j h => cdec_iff.mp h) fun i j φ G => by simp only [IsD]
theorem fPow_ok : OpS K cl (rI CPow fun i j => .int (i ^ j.toNat)) fPow := s2I (P := CPow) (fun i j h => cdec_iff.mp h) fun i j φ G => by simp only [IsD]
def fNeg : Store → D → Option D := fun _ d => match d with
  | .int i => some (.int (-i))
  | _ => none
theorem fNeg_ok : UnS K cl (rU fun i => .int (-i)) fNeg := fun φ S G H x d z Q w h1 h3 k => by
  unfold fNeg at h3
  split at h3
  · cases h3
    simp only [IsD] at h1
    exact ⟨_, h1, k _ _ _ (Step.refl _ _ _) w _ (by simp only [IsD])⟩
  · cases h3
theorem fLt_rel : RelS K cl (rI0 fun i j => .bl (decide (i < j))) fLt := f2B_rel
theorem fLe_rel : RelS K cl (rI0 fun i j => .bl (decide (i ≤ j))) fLe := f2B_rel
theorem fGt_rel : RelS K cl (rI0 fun i j => .bl (decide (j < i))) fGt := f2B_rel (g := fun i j => decide (j < i))
theorem fGe_rel : RelS K cl (rI0 fun i j => .bl (decide (j ≤ i))) fGe := f2B_rel (g := fun i j => decide (j ≤ i))
end
section
variable {X : Cx} {cl : Cl} {tk : WX → Prop} [T : Tk X tk]
theorem re_gstr {x z : Str} {t : Tok} {pos : Pos} (h : X.mg x = some (.str z t)) (hg : Gl X x := by rfl) (hdb : (x == ("__debug__" : Str)) = false := by decide) : RE X cl tk (.Name x pos) (mP (.str z)) :=
  re_glob (v := .str z) h ⟨t, rfl⟩ (fun _ _ => by simp only [Mi.IsD]) hg hdb
end
/-! ### the ends -/
theorem fn_none {P : Program} {w : World} {K : PySem.W.Frag} {mg : Str → Option Value} {base : Heap} {CX : CXT} {cl : Cl} {k : Nat} {f : Addr} {fd : FuncData} {ps : List Str} : FnOk P w K mg base CX k f fd ps (spM K cl fun _ _ => none) :=
  ⟨fun _ _ _ _ ⟨_, _, _, _, _, _, _, _, e, _⟩ => (by cases e), fun _ _ _ _ _ _ _ _ _ _ _ _ _ ⟨_, _, _, _, _, _, _, _, e, _⟩ => (by cases e)⟩
theorem cx_never {P : Program} {w : World} {outer : List Env} {H : Hp} {s : Shared} {e : Value} {s' : Shared} (h : L2.CX P w outer H s (fun _ _ _ => False) e s') : False := by
  obtain ⟨_, _, _, _, _, _, _, _, _, _, _, _, z⟩ := h
  exact z
/-- the law's promise, from its mirror at the script -/
def clT (f : Nat → Addr) : Cl := ⟨f, fun _ => True, fun _ _ _ _ => trivial, fun _ _ _ _ _ _ => trivial, none⟩
theorem law_of {K : PySem.W.Frag} {f : Nat → Addr} {m : MF} {ns : List Int} {S' : Store} (e : m [.scr ns] [] = some (.ok (.bl true), S')) {H : Hp} {a : Addr} (hS : SqL K H a (ns.map V.int)) : spM K (clT f) m [.ref a] H (fun v _ => v = .bl true) fun _ _ _ => False := by
  refine ⟨[], H, [], [.scr ns], _, S', ⟨rfl, Ex.refl _, List.nodup_nil, fun _ h => (nomatch h), fun i c a h => (by simp at h), fun i c a h => (by simp at h), trivial⟩, .cons ?_ .nil, e, fun φ' G' H' _ _ v hv => ?_⟩
  · simp only [IsD]; exact ⟨a, rfl, hS⟩
  · simpa only [IsD] using hv
def mSkip : MS := fun g S => some (.nx g, S)
def mRetN : MS := fun _ S => some (.rt .non, S)
def mBrk : MS := fun g S => some (.bk g, S)
def mCnt : MS := fun g S => some (.ct g, S)
@[simp] theorem v_skip (g : Gm) (S : Store) : mSkip g S = some (.nx g, S) := id rfl
@[simp] theorem v_retN (g : Gm) (S : Store) : mRetN g S = some (.rt .non, S) := id rfl
@[simp] theorem v_brk (g : Gm) (S : Store) : mBrk g S = some (.bk g, S) := id rfl
@[simp] theorem v_cnt (g : Gm) (S : Store) : mCnt g S = some (.ct g, S) := id rfl
end Mi
/-! MiEval: what the mirrors' words give, for simp. -/
namespace Mi
open PySem L2
theorem sz_ok {n : Nat} (h : n ≤ 16777216) : szOk n = true := cdec_iff.mpr h
theorem sz_iff {n : Nat} : szOk n = true ↔ n ≤ 16777216 := cdec_iff
theorem big_ok {i : Int} (h : -1000000000 ≤ i ∧ i ≤ 1000000000) : big62 i = true := cdec_iff.mpr ⟨by omega, by omega⟩
section
variable {α β : Type} {g : Gm} {S S1 : Store}
@[simp] theorem v_P (a : α) : mP a g S = some (.ok a, S) := id rfl
theorem v_B {m : M α} {f : α → M β} {a : α} (h : m g S = some (.ok a, S1)) : mB m f g S = f a g S1 := by simp only [mB, h]
@[simp] theorem v_Beq (m : M α) (f : α → M β) : mB m f g S = match m g S with
  | some (.ok a, S1) => f a g S1
  | some (.exc c fs, S1) => some (.exc c fs, S1)
  | none => none := id rfl
@[simp] theorem v_L (f : Store → Option α) : mL f g S = (f S).map fun a => (.ok a, S) := id rfl
@[simp] theorem v_op1 (f : Store → D → Option D) (m : M D) : mOp1 f m g S = mB m (fun d => mL fun S => f S d) g S := id rfl
@[simp] theorem v_op2 (f : Store → D → D → Option D) (m n : M D) : mOp2 f m n g S = mB m (fun d => mB n fun e => mL fun S => f S d e) g S := id rfl
@[simp] theorem v_opA (f : Store → List D → Option D) (m : M (List D)) : mOpA f m g S = mB m (fun ds => mL fun S => f S ds) g S := id rfl
@[simp] theorem v_nil : mNil g S = some (.ok [], S) := id rfl
@[simp] theorem v_cons (m : M D) (n : M (List D)) : mCons m n g S = mB m (fun d => mB n fun ds => mP (d :: ds)) g S := id rfl
@[simp] theorem v_var (i : Nat) : mVar i g S = match g[i]? with
  | some (some d) => some (.ok d, S)
  | _ => none := id rfl
@[simp] theorem v_T (m : M D) : mT m g S = mB m (fun d => mL fun _ => match d with
  | .bl b => some b
  | _ => none) g S := id rfl
@[simp] theorem v_call (mf : MF) (m : M (List D)) : mCall mf m g S = mB m (fun ds => fun _ S => mf ds S) g S := id rfl
@[simp] theorem v_withD (mf : MF) : withD mf [] = mf := by funext ds S; simp [withD]
@[simp] theorem v_set (i : Nat) (m : M D) : mSet i m g S = match m g S with
  | some (.ok d, S1) => some (.nx (g.set i (some d)), S1)
  | some (.exc c fs, S1) => some (.ex g c fs, S1)
  | none => none := id rfl
@[simp] theorem v_ret (m : M D) : mRet m g S = match m g S with
  | some (.ok d, S1) => some (.rt d, S1)
  | some (.exc c fs, S1) => some (.ex g c fs, S1)
  | none => none := id rfl
@[simp] theorem v_ex (m : M D) : mEx m g S = match m g S with
  | some (.ok _, S1) => some (.nx g, S1)
  | some (.exc c fs, S1) => some (.ex g c fs, S1)
  | none => none := id rfl
@[simp] theorem v_seq (m n : MS) : mSeq m n g S = match m g S with
  | some (.nx g1, S1) => n g1 S1
  | r => r := id rfl
@[simp] theorem v_ifS (c : M Bool) (m n : MS) : mIfS c m n g S = match c g S with
  | some (.ok b, S1) => if b = true then m g S1 else n g S1
  | some (.exc c fs, S1) => some (.ex g c fs, S1)
  | none => none := id rfl
@[simp] theorem v_and (m n : M Bool) : mAndT m n g S = mB m (fun b => if b = true then n else mP false) g S := id rfl
@[simp] theorem v_or (m n : M Bool) : mOrT m n g S = mB m (fun b => if b = true then mP true else n) g S := id rfl
@[simp] theorem v_not (m : M Bool) : mNotT m g S = mB m (fun b => mP (!b)) g S := id rfl
@[simp] theorem v_bl (m : M D) (f : Bool → M D) : mBl m f g S = mB m (fun d => match d with
  | .bl b => f b
  | _ => fun _ _ => none) g S := id rfl
@[simp] theorem v_andV (m n : M D) : mAndV m n g S = mBl m (fun b => if b = true then n else mP (.bl false)) g S := id rfl
@[simp] theorem v_orV (m n : M D) : mOrV m n g S = mBl m (fun b => if b = true then mP (.bl true) else n) g S := id rfl
@[simp] theorem v_notV (m : M D) : mNotV m g S = mBl m (fun b => mP (.bl (!b))) g S := id rfl
@[simp] theorem v_if (c : M Bool) (m n : M D) : mIf c m n g S = mB c (fun b => if b = true then m else n) g S := id rfl
@[simp] theorem v_ch (f f' : Store → D → D → Option D) (ma mb mc : M D) : mCh f f' ma mb mc g S = mB ma (fun x => mB mb fun y => mB (mL fun S => f S x y) fun z => match z with
  | .bl true => mB mc fun u => mL fun S => f' S y u
  | .bl false => mP (.bl false)
  | _ => fun _ _ => none) g S := id rfl
@[simp] theorem v_part (m : M D) : mPart m g S = mB m (fun d => mL fun _ => match d with
  | .int i => some (some i)
  | _ => none) g S := id rfl
@[simp] theorem v_sl (m : M D) (lo hi : M (Option Int)) : mSl m lo hi g S = mB m (fun d => mB lo fun l => mB hi fun h => mL fun S => fSl S d l h) g S := id rfl
@[simp] theorem v_fn (N np : Nat) (b : MS) (ds : List D) : mFn N np b ds S = if ds.length = np then
    match b (ds.map some ++ List.replicate (N - np) none) S with
    | some (.rt d, S') => some (.ok d, S')
    | some (.nx _, S') => some (.ok .non, S')
    | some (.ex _ c fs, S') => some (.exc c fs, S')
    | _ => none
  else none := id rfl
@[simp] theorem v_for (mi : M Src) (b : Bind) (body : MS) : mFor mi b body g S = match mi g S with
  | some (.ok src, S1) => forGo src b body src.1 g S1
  | some (.exc c fs, S1) => some (.ex g c fs, S1)
  | none => none := id rfl
@[simp] theorem v_str1 (f : Store → D → D → Option D) (m n : M D) : mStr1 f m n g S = mB m (fun d => mB (mL fun _ => match d with | .str _ => some () | _ => none) fun _ => mB n fun e => mL fun S => f S d e) g S := id rfl
@[simp] theorem v_newL (m : M (List D)) : mNewL m g S = mB m (fun ds => fun _ S => if szOk ds.length = true then some (.ok (.ref S.length), S ++ [.lst ds]) else none) g S := id rfl
@[simp] theorem v_rng (m : M (List D)) : mRng m g S = mB m (fun ds => mL fun _ => match ds with
  | [.int j] => if big62 j = true then some (rngD 0 j.toNat, none) else none
  | [.int i, .int j] => if big62 i = true ∧ big62 j = true then some (rngD i (j - i).toNat, none) else none
  | _ => none) g S := id rfl
theorem v_lc {vs : List Nat} {mi : M Src} {b : Bind} {mt : M Bool} {me : M D} {src : Src} {l : List D} {S2 : Store} (h1 : mi g S = some (.ok src, S1)) (h2 : lcGo src b mt me (wipeG g vs) src.1 [] S1 = some (l, S2)) : mLc vs mi b mt me g S = some (.ok (.lst l), S2) := by
  unfold mLc mB
  rw [h1]
  show (match lcGo src b mt me (wipeG g vs) src.1 [] S1 with
    | some (l, S1) => some ((.ok (.lst l) : R D), S1)
    | none => none) = _
  rw [h2]
@[simp] theorem v_I (m : M D) : mI m g S = mB m (fun d => mL fun S => match d with
  | .lst l => some (l, none)
  | .scr l => some (l.map D.int, none)
  | .tup l => some (l, none)
  | .str z => some (chars z, none)
  | .ref i => match S[i]? with
    | some (.lst l) => some (l, some i)
    | _ => none
  | _ => none) g S := id rfl
@[simp] theorem v_bN (i : Nat) (d : D) : bN i d g = some (g.set i (some d)) := id rfl
@[simp] theorem v_app (mo me : M D) : mApp mo me g S = mB mo (fun d => mB (mL fun S => atC S d) fun _ => mB me fun e => fun _ S => match atC S d with
  | some (i, l) => if szOk (l.length + 1) = true then some (.ok .non, S.set i (.lst (l ++ [e]))) else none
  | none => none) g S := id rfl
@[simp] theorem v_varF (i : Nat) : mVarF i g S = match g[i]? with
  | some (some d) => match atC S d with
    | some (j, l) => some (.ok (.lst l), S.set j .dead)
    | none => none
  | _ => none := id rfl
@[simp] theorem v_match (m : M D) (mc : MC) : mMatch m mc g S = match m g S with
  | some (.ok d, S1) => mc d g S1
  | some (.exc c fs, S1) => some (.ex g c fs, S1)
  | none => none := id rfl
@[simp] theorem v_mcNil (d : D) : mcNil d g S = some (.nx g, S) := id rfl
@[simp] theorem v_mcCons (ps : List PatE) (body : MS) (rest : MC) (d : D) : mcCons ps body rest d g S = match asL S d with
  | some l => if l.length = ps.length then match matchSeqD ps l with
      | some (some bs) => body (bindAll bs g) S
      | some none => rest d g S
      | none => none
    else rest d g S
  | none => none := id rfl
end
/-! numbers -/
@[simp] theorem v_add (S : Store) (i j : Int) : fAdd S (.int i) (.int j) = some (.int (i + j)) := id rfl
@[simp] theorem v_adds (S : Store) (x y : Str) : fAdd S (.str x) (.str y) = if szOk (x.length + y.length) = true then some (.str (x ++ y)) else none := id rfl
@[simp] theorem v_sub (S : Store) (i j : Int) : fSub S (.int i) (.int j) = some (.int (i - j)) := id rfl
theorem v_mul (S : Store) (i j : Int) (h : (-(2 ^ 64) < i ∧ i < 2 ^ 64) ∨ (-(2 ^ 64) < j ∧ j < 2 ^ 64)) : fMul S (.int i) (.int j) = some (.int (i * j)) := by
  show (if cdec _ = true then _ else _) = _
  rw [if_pos (cdec_iff.mpr h)]
theorem v_mod (S : Store) (i j : Int) (h : 0 < j) : fMod S (.int i) (.int j) = some (.int (i % j)) := by
  show (if cdec _ = true then _ else _) = _
  rw [if_pos (cdec_iff.mpr h)]
theorem v_div (S : Store) (i j : Int) (h : 0 < j ∧ j < 1073741824) : fDiv S (.int i) (.int j) = some (.int (i / j)) := by
  show (if cdec _ = true then _ else _) = _
  rw [if_pos (cdec_iff.mpr h)]
theorem v_pow (S : Store) (i j : Int) (h : 0 ≤ j ∧ j ≤ 1000000 ∧ i.natAbs < 2 ^ 64) : fPow S (.int i) (.int j) = some (.int (i ^ j.toNat)) := by
  show (if cdec _ = true then _ else _) = _
  rw [if_pos (cdec_iff.mpr h)]
@[simp] theorem v_lt (S : Store) (i j : Int) : fLt S (.int i) (.int j) = some (.bl (decide (i < j))) := id rfl
@[simp] theorem v_le (S : Store) (i j : Int) : fLe S (.int i) (.int j) = some (.bl (decide (i ≤ j))) := id rfl
@[simp] theorem v_gt (S : Store) (i j : Int) : fGt S (.int i) (.int j) = some (.bl (decide (j < i))) := id rfl
@[simp] theorem v_ge (S : Store) (i j : Int) : fGe S (.int i) (.int j) = some (.bl (decide (j ≤ i))) := id rfl
@[simp] theorem v_abs (S : Store) (i : Int) : cAbs S [.int i] = some (.int (if i < 0 then -i else i)) := id rfl
@[simp] theorem v_cint (S : Store) (i : Int) : cInt S [.int i] = some (.int i) := id rfl
@[simp] theorem v_lenL (S : Store) (l : List D) : cLen S [.lst l] = some (.int l.length) := id rfl
@[simp] theorem v_lenT (S : Store) (l : List D) : cLen S [.tup l] = some (.int l.length) := id rfl
theorem v_lenS (S : Store) (z : Str) (h : z.length ≤ 16777216) : cLen S [.str z] = some (.int z.length) := by
  show (if szOk z.length = true then _ else _) = _
  rw [if_pos (show szOk z.length = true from cdec_iff.mpr h)]
@[simp] theorem v_ixL (S : Store) (l : List D) (i : Int) : fIx S (.lst l) (.int i) = atI l i := id rfl
@[simp] theorem v_ixT (S : Store) (l : List D) (i : Int) : fIx S (.tup l) (.int i) = atI l i := id rfl
@[simp] theorem v_slL (S : Store) (l : List D) (lo hi : Option Int) : fSl S (.lst l) lo hi = some (.lst (cutD l lo hi)) := id rfl
theorem intsOf_map : ∀ l : List Int, intsOf (l.map D.int) = some l
  | [] => rfl
  | i :: l => by simp only [List.map_cons, intsOf, intsOf_map l]; rfl
theorem blsOf_map : ∀ l : List Bool, blsOf (l.map D.bl) = some l
  | [] => rfl
  | i :: l => by simp only [List.map_cons, blsOf, blsOf_map l]; rfl
theorem strsOf_map : ∀ l : List Str, strsOf (l.map D.str) = some l
  | [] => rfl
  | i :: l => by simp only [List.map_cons, strsOf, strsOf_map l]; rfl
theorem v_sum (S : Store) (l : List Int) : cSum S [.lst (l.map D.int)] = some (.int l.sum) := by
  show ((some (l.map D.int)).bind intsOf).map _ = _
  rw [Option.bind_some, intsOf_map]; rfl
theorem v_all (S : Store) (l : List Bool) : cAll S [.lst (l.map D.bl)] = some (.bl (l.all id)) := by
  show ((some (l.map D.bl)).bind blsOf).map _ = _
  rw [Option.bind_some, blsOf_map]; rfl
theorem v_any (S : Store) (l : List Bool) : cAny S [.lst (l.map D.bl)] = some (.bl (l.any id)) := by
  show ((some (l.map D.bl)).bind blsOf).map _ = _
  rw [Option.bind_some, blsOf_map]; rfl
theorem atI_natD {l : List D} {i : Int} {j : Nat} (h : i = j) (hj : j < l.length) : atI l i = some l[j] := by
  subst h; exact atI_nat (List.getElem?_eq_getElem hj)
theorem atI_ints {l : List Int} {i : Int} (h0 : 0 ≤ i) (h1 : i < l.length) : atI (l.map D.int) i = some (.int (l.getD i.toNat 0)) := by
  have e : i = (i.toNat : Nat) := by omega
  have hj : i.toNat < l.length := by omega
  rw [e, atI_nat (v := .int (l.getD i.toNat 0))]
  · rfl
  · simp [List.getD, hj]
/-! ### the draws of a law -/
def drawF (l : List Int) (k many : Int) : Int := if k < l.length then l.getD k.toNat 0 % many else (k * 7919 + (l.take 40).sum * 31 + 3) % 1009 % many
theorem drawF_ge (l : List Int) (k : Int) {many : Int} (h : 0 < many) : 0 ≤ drawF l k many := by
  unfold drawF; split <;> exact Int.emod_nonneg _ (by omega)
theorem drawF_lt (l : List Int) (k : Int) {many : Int} (h : 0 < many) : drawF l k many < many := by
  unfold drawF; split <;> exact Int.emod_lt_of_pos _ h
theorem cut40 (l : List Int) : cutD (l.map D.int) none (some 40) = (l.take 40).map D.int := by
  unfold cutD
  have e : HT.sIx (l.map D.int).length 0 none = 0 := rfl
  have e2 : HT.sIx (l.map D.int).length (l.map D.int).length (some 40) = min 40 (l.map D.int).length := HT.sIx_nat _ _ 40
  rw [e, e2, List.drop_zero, Nat.sub_zero, List.length_map, ← List.map_take]
  congr 1
  rw [List.take_eq_take_iff]
  omega
/-! ### loops by a word -/
@[simp] theorem srcOk_none (S : Store) (l : List D) : srcOk S (l, none) = True := id rfl
/-- a loop whose body never leaves it: I by what is left, the names, the store -/
theorem forGo_all {src : Src} {b : Bind} {body : MS} (I : List D → Gm → Store → Prop)
    (turn : ∀ d ds g S, I (d :: ds) g S → srcOk S src ∧ ∃ g1 g2 S2, b d g = some g1 ∧ (body g1 S = some (.nx g2, S2) ∨ body g1 S = some (.ct g2, S2)) ∧ I ds g2 S2) (fin : ∀ g S, I [] g S → srcOk S src) :
    ∀ (l : List D) (g : Gm) (S : Store), I l g S → ∃ g' S', forGo src b body l g S = some (.nx g', S') ∧ I [] g' S'
  | [], g, S, h => ⟨g, S, by simp only [forGo, if_pos (fin g S h)], h⟩
  | d :: ds, g, S, h => by
    obtain ⟨h1, g1, g2, S2, e1, e2, h2⟩ := turn d ds g S h
    obtain ⟨g', S', e3, h3⟩ := forGo_all I turn fin ds g2 S2 h2
    refine ⟨g', S', ?_, h3⟩
    rcases e2 with e2 | e2
    · simp only [forGo, if_pos h1, e1, e2, e3]
    · simp only [forGo, if_pos h1, e1, e2, e3]
/-- a comprehension whose turns all give a value -/
theorem lcGo_map {src : Src} {b : Bind} {me : M D} {g0 : Gm} {S : Store} (f : D → D) (hok : srcOk S src) :
    ∀ (l acc : List D), (∀ d ∈ l, ∃ g1, b d g0 = some g1 ∧ me g1 S = some (.ok (f d), S)) → l.length + acc.length ≤ 16777216 → lcGo src b (mP true) me g0 l acc S = some (acc ++ l.map f, S)
  | [], acc, _, _ => by simp only [lcGo, if_pos hok, List.map_nil, List.append_nil]
  | d :: ds, acc, h, hl => by
    obtain ⟨g1, e1, e2⟩ := h d List.mem_cons_self
    simp only [List.length_cons] at hl
    simp only [lcGo, if_pos hok, e1, v_P, e2]
    rw [if_pos (sz_ok (by omega)), lcGo_map f hok ds (acc ++ [f d]) (fun x hx => h x (List.mem_cons_of_mem _ hx)) (by simp; omega)]
    simp
theorem lcGo_filter {src : Src} {b : Bind} {mt : M Bool} {me : M D} {g0 : Gm} {S : Store} (p : D → Bool) (f : D → D) (hok : srcOk S src) :
    ∀ (l acc : List D), (∀ d ∈ l, ∃ g1, b d g0 = some g1 ∧ mt g1 S = some (.ok (p d), S) ∧ (p d = true → me g1 S = some (.ok (f d), S))) → l.length + acc.length ≤ 16777216 → lcGo src b mt me g0 l acc S = some (acc ++ (l.filter p).map f, S)
  | [], acc, _, _ => by simp only [lcGo, if_pos hok, List.filter_nil, List.map_nil, List.append_nil]
  | d :: ds, acc, h, hl => by
    obtain ⟨g1, e1, e2, e3⟩ := h d List.mem_cons_self
    simp only [List.length_cons] at hl
    cases q : p d with
    | true =>
      rw [q] at e2
      simp only [lcGo, if_pos hok, e1, e2, e3 q]
      rw [if_pos (sz_ok (by omega)), lcGo_filter p f hok ds (acc ++ [f d]) (fun x hx => h x (List.mem_cons_of_mem _ hx)) (by simp; omega), List.filter_cons_of_pos q]
      simp
    | false =>
      rw [q] at e2
      simp only [lcGo, if_pos hok, e1, e2]
      rw [lcGo_filter p f hok ds acc (fun x hx => h x (List.mem_cons_of_mem _ hx)) (by omega), List.filter_cons_of_neg (by simp [q])]
theorem refsLts_ints (n : Nat) : ∀ l : List Int, refsLts n (l.map D.int) = true
  | [] => rfl
  | i :: l => by simp only [List.map_cons, refsLts, refsLt, refsLts_ints n l]; rfl
end Mi
namespace Mi
open PySem L2
/-! ### raising an own error made with a text -/
abbrev veBm : List Value := [.type "ValueError", .type "Exception", .type "BaseException", .type "object"]
/-- class x at C may be made with a text -/
structure OwnC (K : PySem.W.Frag) (mg : Str → Option Value) (x : Str) (C : Addr) : Prop where
  q : PySem.W.excIn K C veBm "ValueError.__new__" = true
  g : mg x = some (.ref C)
  k : PySem.W.keepIn K (.ref C) = true
  b : PySem.W.subIn K (.ref C) (.type "BaseException") = some true
  t : PySem.W.typeIn K (.ref C) = some (.type "type")
def mRaise (c : Nat) (fs : List (Str × D)) : MS := fun g S => some (.ex g c fs, S)
section
variable {X : Cx} {cl : Cl} {tk : WX → Prop} [T : Tk X tk]
theorem rs_raise {x m : Str} {j : Nat} {p p2 pos pos' : Pos} {c : Nat} (O : OwnC X.K X.mg x (cl.at_ c)) (hc : X.calm = true := by rfl) (hg : Gl X x := by rfl) (hdb : (x == ("__debug__" : Str)) = false := by decide) :
    RS X cl tk (.Raise (some (.Call (.Name x p) [.Constant (.str m) j p2] [] pos)) none pos') (mRaise c []) := by
  refine ⟨fun pins s σ H D I ⟨φ, G, g, S, o, S', w, sl, e, k⟩ => ?_⟩
  cases e
  exact (ps_raise hc (T.tk _ k) (pmk_own PySem.F.excBase_ValueError O.q O.g O.k (raises_own O.b O.t) hg hdb)).run pins s σ H D I ⟨φ, G, ⟨Step.refl _ _ _, w, rfl, .inl ⟨rfl, rfl⟩⟩, sl⟩
end

/-! ### what a handler knows -/
def FOk (K : PySem.W.Frag) (fs : List (Str × D)) (d : Option Addr) (G : Hp) : Prop := (fs = [] ∧ d = none) ∨ ∃ dx fv, d = some dx ∧ G dx = some (.xd fv) ∧ FsD K [] G fs fv
def clE (K : PySem.W.Frag) (cl : Cl) (fs : List (Str × D)) (d : Option Addr) (hd : Option (Nat × Addr)) : Cl where
  at_ := cl.at_
  inv := fun G => cl.inv G ∧ FOk K fs d G
  mono := fun G G' e h => ⟨cl.mono G G' e h.1, h.2.imp id fun ⟨dx, fv, h1, h2, h3⟩ => ⟨dx, fv, h1, e _ _ h2, h3.mono (List.prefix_refl _) e⟩⟩
  unf := fun G a o kws q h => ⟨cl.unf G a o kws q h.1, h.2.imp id fun ⟨dx, fv, h1, h2, h3⟩ => ⟨dx, fv, h1, by rw [del_ne (fun z => by rw [z, q] at h2; cases h2)]; exact h2, h3.unf q⟩⟩
  hd := hd
section
variable {K : PySem.W.Frag} {cl : Cl} {φ : List Addr} {S : Store} {G H : Hp} {fs : List (Str × D)} {d : Option Addr} {hd : Option (Nat × Addr)}
theorem cellE {a : Addr} {c : Cell} : CellOk K (clE K cl fs d hd) φ G H a c ↔ CellOk K cl φ G H a c := by cases c <;> exact Iff.rfl
theorem Wd.toE (w : Wd K cl φ S G H) (h : FOk K fs d G) : Wd K (clE K cl fs d hd) φ S G H := ⟨w.len, w.sub, w.nd, w.tr, w.ap, fun i c a h1 h2 => cellE.mpr (w.ok i c a h1 h2), ⟨w.iv, h⟩⟩
theorem Wd.ofE (w : Wd K (clE K cl fs d hd) φ S G H) : Wd K cl φ S G H := ⟨w.len, w.sub, w.nd, w.tr, w.ap, fun i c a h1 h2 => cellE.mp (w.ok i c a h1 h2), w.iv.1⟩
theorem Sl.ofE (hh : cl.hd = none) {g : Gm} {σ : St} (s : Sl K (clE K cl fs d hd) φ G g σ) : Sl K cl φ G g σ := ⟨s.len, s.at_, fun i a z => by rw [hh] at z; cases z⟩
theorem Sl.toE {i : Nat} {a : Addr} {g : Gm} {σ : St} (s : Sl K cl φ G g σ) : Sl K (clE K cl fs d (some (i, a))) φ G (g.set i none) (σ.set i (some (.ref a))) := ⟨by simp [s.len], fun j e hj => by
  by_cases q : i = j
  · subst q
    rw [List.getElem?_set] at hj
    simp at hj
  · rw [List.getElem?_set_ne q] at hj ⊢
    exact s.at_ j e hj, fun j b hj hg => by
  cases (show some (i, a) = some (j, b) from hj)
  have hl : i < g.length := by
    by_cases h : i < g.length
    · exact h
    · rw [List.getElem?_eq_none (by simpa using h)] at hg; cases hg
  exact List.getElem?_set_self (by rw [s.len]; exact hl)⟩
theorem Sl.toO {g : Gm} {σ : St} (s : Sl K cl φ G g σ) : Sl K (clE K cl fs d none) φ G g σ := ⟨s.len, s.at_, fun i a z => by cases (show (none : Option (Nat × Addr)) = some _ from z)⟩
end

/-! ### try .. except -/
def leW (W : WX) : WX → Prop := fun W' => ∀ c d σ H, W' c d σ H → W c d σ H
theorem leW_ok (W : WX) : TkOk (leW W) := fun W1 W2 h i c d σ H q => h c d σ H (i c d σ H q)
theorem tk_le {X : Cx} {W : WX} (t : Takes X W) : Tk X (leW W) := ⟨leW_ok W, fun _ h => t.imp h⟩
/-- what a suite's end is behind the try: the name is gone -/
def outE (i : Nat) : Out → Option Out
  | .nx g => some (.nx (g.set i none))
  | .bk g => some (.bk (g.set i none))
  | .ct g => some (.ct (g.set i none))
  | .rt d => some (.rt d)
  | .ex _ _ _ => none
def mTryAs (mb : MS) (tab : Nat → Option Bool) (i : Nat) (mh : Nat → List (Str × D) → MS) : MS := fun g S => match mb g S with
  | some (.ex g1 c fs, S1) => match tab c with
    | some true => match mh c fs (g1.set i none) S1 with
      | some (o, S2) => (outE i o).map fun o' => (o', S2)
      | none => none
    | some false => some (.ex g1 c fs, S1)
    | none => none
  | r => r
def outO : Out → Option Out
  | .ex _ _ _ => none
  | o => some o
def mTryO (mb : MS) (tab : Nat → Option Bool) (mh : Nat → List (Str × D) → MS) : MS := fun g S => match mb g S with
  | some (.ex g1 c fs, S1) => match tab c with
    | some true => match mh c fs g1 S1 with
      | some (o, S2) => (outO o).map fun o' => (o', S2)
      | none => none
    | some false => some (.ex g1 c fs, S1)
    | none => none
  | r => r
section
variable {X : Cx} {cl : Cl} {tk : WX → Prop} [T : Tk X tk]
theorem kos_le {K : PySem.W.Frag} {φ : List Addr} {G H : Hp} {o : Out} {S' : Store} {Dn : Ends} {W : WX} (k : Kos K cl tk φ G H o S' Dn) (h : ∀ g c fs, o ≠ .ex g c fs) : Kos K cl (leW W) φ G H o S' Dn := by
  cases o with
  | ex g c fs => exact absurd rfl (h g c fs)
  | nx g => exact k
  | rt g => exact k
  | bk g => exact k
  | ct g => exact k
theorem rs_tryAs {i : Nat} {x n : Str} {cv : Value} {body suite : List Stmt} {b₀ : Stmt} {np pos pos' : Pos} {mb : MS} {tab : Nat → Option Bool} {mh : Nat → List (Str × D) → MS}
    (hN : X.N.Nodup) (hc : Names X x cv) (hx : ∀ c b, tab c = some b → PySem.W.exmOne X.K (.ref (cl.at_ c)) cv = some b)
    (hb : ∀ (W : WX) (pn : List (Addr × Obj)) (xe : Value → Shared → Prop), Tk (X.tr pn xe) (leW W) → PassesOwn (model X.prog X.w) X.A X.env xe → RSs (X.tr pn xe) cl (leW W) body mb)
    (hS : ∀ (a : Addr) (oe : Obj) (c : Nat) (fs : List (Str × D)) (d : Option Addr) (pn : List (Addr × Obj)), tab c = some true → Zc (.ref (cl.at_ c)) d oe → (∃ vs, oe.data = .fields vs) →
      RSs (X.suite a ((a, oe) :: pn)) (clE X.K cl fs d (some (i, a))) (fun _ => False) (b₀ :: suite) (mh c fs))
    (hs : X.stack = X.env :: X.outer := by rfl) (hf : X.env.frame = some X.env.locals := by rfl) (hi : X.N[i]? = some n := by rfl) (hln : X.env.kindOf n = some .local := by rfl) (hh : cl.hd = none := by rfl) :
    RS X cl tk (.Try body [.ExceptHandler (some (.Name x np)) (some n) (b₀ :: suite) pos'] [] [] pos) (mTryAs mb tab i mh) := by
  refine ⟨fun pins s σ H D I ⟨φ, G, g, S, o, S', w, sl, e, k⟩ => ?_⟩
  let ts : Addr → Value → Option Addr → TS := fun a cls d D σ H => ∃ c fs, cls = .ref (cl.at_ c) ∧ tab c = some true ∧ tMS X.K (clE X.K cl fs d (some (i, a))) (fun _ => False) (mh c fs) D σ H
  have suiteR : ∀ (a : Addr) (oe : Obj) (cls : Value) (d : Option Addr) (pn : List (Addr × Obj)), Zc cls d oe → (∃ vs, oe.data = .fields vs) → PSs (X.suite a ((a, oe) :: pn)) (b₀ :: suite) (ts a cls d) := fun a oe cls d pn hz hfl =>
    ⟨fun pins s σ H D I ⟨c, fs, ec, et, h⟩ => by subst ec; exact (hS a oe c fs d pn et hz hfl).run pins s σ H D I h⟩
  have main : ∀ Wout : WX, Takes X Wout → tMS X.K cl (leW (wAs X.K cv i ts Wout D)) mb D σ H → wpAny (model X.prog X.w) X.A (exec (.Try body [.ExceptHandler (some (.Name x np)) (some n) (b₀ :: suite) pos'] [] [] pos) X.env) (SP X pins D) X.xe s := fun Wout tkW h =>
    (ps_try_as (i := i) (tb := fun W => tMS X.K cl (leW W) mb) (ts := ts) (Wout := Wout) hs hf hN hi hln hc tkW (fun W pn xe t hp => hb W pn xe (tk_le t) hp) suiteR).run pins s σ H D I h
  unfold mTryAs at e
  split at e
  · rename_i g1 c fs S1 q
    split at e
    · rename_i et
      split at e
      · rename_i o2 S2 q2
        cases ho : outE i o2 with
        | none => rw [ho] at e; cases e
        | some o' =>
          rw [ho] at e
          cases e
          refine main (fun _ _ _ _ => False) takes0 ⟨φ, G, g, S, _, _, w, sl, q, ?_⟩
          intro cls dd σ' H' ⟨φ', G', ⟨st, w', ec, hfo⟩, sl'⟩
          subst ec
          refine ⟨true, hx c true et, fun _ a ha => ⟨c, fs, rfl, et, φ', G', _, S1, o2, S', w'.toE hfo, sl'.toE, q2, ?_⟩, fun z => by cases z⟩
          cases o2 with
          | nx g2 =>
            cases ho
            exact fun φ2 G2 H2 st2 w2 σ2 s2 => k φ2 G2 H2 (st.trans st2) w2.ofE _ ((s2.ofE hh).wipe hh)
          | bk g2 =>
            cases ho
            exact fun φ2 G2 H2 st2 w2 σ2 s2 => k φ2 G2 H2 (st.trans st2) w2.ofE _ ((s2.ofE hh).wipe hh)
          | ct g2 =>
            cases ho
            exact fun φ2 G2 H2 st2 w2 σ2 s2 => k φ2 G2 H2 (st.trans st2) w2.ofE _ ((s2.ofE hh).wipe hh)
          | rt d2 =>
            cases ho
            exact fun φ2 G2 H2 st2 w2 v hv => k φ2 G2 H2 (st.trans st2) w2.ofE v hv
          | ex g2 c2 fs2 => cases ho
      · cases e
    · rename_i et
      cases e
      refine main _ (T.tk _ k) ⟨φ, G, g, S, _, _, w, sl, q, ?_⟩
      intro cls dd σ' H' hw
      obtain ⟨φ', G', ⟨st, w', ec, hfo⟩, sl'⟩ := id hw
      subst ec
      exact ⟨false, hx c false et, fun z => (by cases z), fun _ => hw⟩
    · cases e
  · rename_i hn
    exact main (fun _ _ _ _ => False) takes0 ⟨φ, G, g, S, o, S', w, sl, e, kos_le k fun g c fs z => by subst z; exact hn g c fs S' e⟩
theorem rs_tryO {x : Str} {cv : Value} {body suite : List Stmt} {b₀ : Stmt} {np pos pos' : Pos} {mb : MS} {tab : Nat → Option Bool} {mh : Nat → List (Str × D) → MS}
    (hc : Names X x cv) (hx : ∀ c b, tab c = some b → PySem.W.exmOne X.K (.ref (cl.at_ c)) cv = some b)
    (hb : ∀ (W : WX) (pn : List (Addr × Obj)) (xe : Value → Shared → Prop), Tk (X.tr pn xe) (leW W) → PassesOwn (model X.prog X.w) X.A X.env xe → RSs (X.tr pn xe) cl (leW W) body mb)
    (hS : ∀ (a : Addr) (oe : Obj) (c : Nat) (fs : List (Str × D)) (d : Option Addr) (pn : List (Addr × Obj)), tab c = some true → Zc (.ref (cl.at_ c)) d oe → (∃ vs, oe.data = .fields vs) →
      RSs (X.suite a ((a, oe) :: pn)) (clE X.K cl fs d none) (fun _ => False) (b₀ :: suite) (mh c fs))
    (hs : X.stack = X.env :: X.outer := by rfl) (hf : X.env.frame = some X.env.locals := by rfl) (hh : cl.hd = none := by rfl) :
    RS X cl tk (.Try body [.ExceptHandler (some (.Name x np)) none (b₀ :: suite) pos'] [] [] pos) (mTryO mb tab mh) := by
  refine ⟨fun pins s σ H D I ⟨φ, G, g, S, o, S', w, sl, e, k⟩ => ?_⟩
  let ts : Addr → Value → Option Addr → TS := fun a cls d D σ H => ∃ c fs, cls = .ref (cl.at_ c) ∧ tab c = some true ∧ tMS X.K (clE X.K cl fs d none) (fun _ => False) (mh c fs) D σ H
  have suiteR : ∀ (a : Addr) (oe : Obj) (cls : Value) (d : Option Addr) (pn : List (Addr × Obj)), Zc cls d oe → (∃ vs, oe.data = .fields vs) → PSs (X.suite a ((a, oe) :: pn)) (b₀ :: suite) (ts a cls d) := fun a oe cls d pn hz hfl =>
    ⟨fun pins s σ H D I ⟨c, fs, ec, et, h⟩ => by subst ec; exact (hS a oe c fs d pn et hz hfl).run pins s σ H D I h⟩
  have main : ∀ Wout : WX, Takes X Wout → tMS X.K cl (leW (wOnly X.K cv ts Wout D)) mb D σ H → wpAny (model X.prog X.w) X.A (exec (.Try body [.ExceptHandler (some (.Name x np)) none (b₀ :: suite) pos'] [] [] pos) X.env) (SP X pins D) X.xe s := fun Wout tkW h =>
    (ps_try_only (tb := fun W => tMS X.K cl (leW W) mb) (ts := ts) (Wout := Wout) hs hf hc tkW (fun W pn xe t hp => hb W pn xe (tk_le t) hp) suiteR).run pins s σ H D I h
  unfold mTryO at e
  split at e
  · rename_i g1 c fs S1 q
    split at e
    · rename_i et
      split at e
      · rename_i o2 S2 q2
        cases ho : outO o2 with
        | none => rw [ho] at e; cases e
        | some o' =>
          rw [ho] at e
          cases e
          refine main (fun _ _ _ _ => False) takes0 ⟨φ, G, g, S, _, _, w, sl, q, ?_⟩
          intro cls dd σ' H' ⟨φ', G', ⟨st, w', ec, hfo⟩, sl'⟩
          subst ec
          refine ⟨true, hx c true et, fun _ a ha => ⟨c, fs, rfl, et, φ', G', _, S1, o2, S', w'.toE hfo, sl'.toO, q2, ?_⟩, fun z => by cases z⟩
          cases o2 with
          | nx g2 =>
            cases ho
            exact fun φ2 G2 H2 st2 w2 σ2 s2 => k φ2 G2 H2 (st.trans st2) w2.ofE _ (s2.ofE hh)
          | bk g2 =>
            cases ho
            exact fun φ2 G2 H2 st2 w2 σ2 s2 => k φ2 G2 H2 (st.trans st2) w2.ofE _ (s2.ofE hh)
          | ct g2 =>
            cases ho
            exact fun φ2 G2 H2 st2 w2 σ2 s2 => k φ2 G2 H2 (st.trans st2) w2.ofE _ (s2.ofE hh)
          | rt d2 =>
            cases ho
            exact fun φ2 G2 H2 st2 w2 v hv => k φ2 G2 H2 (st.trans st2) w2.ofE v hv
          | ex g2 c2 fs2 => cases ho
      · cases e
    · rename_i et
      cases e
      refine main _ (T.tk _ k) ⟨φ, G, g, S, _, _, w, sl, q, ?_⟩
      intro cls dd σ' H' hw
      obtain ⟨φ', G', ⟨st, w', ec, hfo⟩, sl'⟩ := id hw
      subst ec
      exact ⟨false, hx c false et, fun z => (by cases z), fun _ => hw⟩
    · cases e
  · rename_i hn
    exact main (fun _ _ _ _ => False) takes0 ⟨φ, G, g, S, o, S', w, sl, e, kos_le k fun g c fs z => by subst z; exact hn g c fs S' e⟩
end

/-! ### in a handler -/
/-- what an own exception class says -/
structure ExF (K : PySem.W.Frag) (C : Addr) : Prop where
  cl : PySem.W.isClsIn K C = true
  ga : PySem.W.findIn K (.ref C) "__getattribute__" = some (some (.builtin "BaseException.__getattribute__"))
  gg : PySem.W.findIn K (.ref C) "__getattr__" = some none
  sb : PySem.W.subIn K (.ref C) (.type "BaseException") = some true
  hd : PySem.W.hasDictIn K C = true
  ca : PySem.W.findIn K (.ref C) "__class__" = some (some (.builtin "object.__class__"))
  sn : PySem.W.specialIn K (.builtin "object.__class__") "__get__" = some (some (.builtin "getset_descriptor.__get__"))
  ht : PySem.W.takesIn K (.builtin "object.__class__") = some true
  hm : PySem.W.mroIn K C (.type "object") = some true
def rIsX (K : PySem.W.Frag) (D a : Addr) (d : Option Addr) : List V → Hp → VK → Prop := fun xs H Q => ∃ (c : V) (cv : Value) (b : Bool), xs = [.ref a, c] ∧ (∀ u, RelV c u → u = cv) ∧ PySem.W.kitOne K (.ref D) cv = some b ∧ (d = none ∨ ∃ dx fv, d = some dx ∧ H dx = some (.xd fv)) ∧ Q (.bl b) H
theorem call_isX {X : Cx} {a D : Addr} {oe : Obj} {d : Option Addr} {pn : List (Addr × Obj)} (C : ExF X.K D) (hz : Zc (.ref D) d oe) (hf : ∃ vs, oe.data = .fields vs) : CallR (X.suite a ((a, oe) :: pn)) (.builtin "isinstance") (rIsX X.K D a d) := by
  intro pins s σ H xs us Q I r h
  obtain ⟨c, cv, b, rfl, hcv, e, hdx, q⟩ := h
  cases r with
  | cons rx rr =>
    cases rr with
    | cons rt rr =>
      cases rr
      cases rx
      have ec := hcv _ rt
      subst ec
      obtain ⟨hget, _⟩ := I.pin (a, oe) (List.mem_append.mpr (.inl List.mem_cons_self))
      obtain ⟨vs, hv⟩ := hf
      have J : ∃ od, PySem.W.InstAt s.heap a oe D od := by
        obtain ⟨oc, oda, odt, osl⟩ := oe
        obtain ⟨h1, h2⟩ := hz
        dsimp only at h1 h2 hv
        subst h1 h2 hv
        rcases hdx with rfl | ⟨dx, fv, rfl, hdx⟩
        · exact ⟨none, hget, rfl, rfl, trivial⟩
        · obtain ⟨mA, hns, _⟩ := (show ObjOk X.prog X.w H s.heap dx (.xd fv) from I.hok dx _ hdx)
          obtain ⟨od, ho, _⟩ := lookIn_ns hns
          exact ⟨some od, hget, rfl, rfl, ho⟩
      obtain ⟨od, J⟩ := J
      exact PySem.W.kia_one (PySem.W.kitx_exc (od := od) C.cl C.ga C.gg C.sb C.ca C.sn C.ht C.hm) I.kIn J e (fun z => nomatch z) fun tk => ⟨.bl b, H, I.kept (t' := tk) fun _ _ z => z, rfl, q⟩
def mIsE (i : Nat) (r : Option Bool) : M D := fun g S => match g[i]? with
  | some none => r.map fun b => (.ok (.bl b), S)
  | _ => none
def mEf (i : Nat) (r : Option D) : M D := fun g S => match g[i]? with
  | some none => r.map fun b => (.ok b, S)
  | _ => none
section
variable {X : Cx} {cl : Cl} {tk : WX → Prop} {a : Addr} {oe : Obj} {d : Option Addr} {pn : List (Addr × Obj)} {fs : List (Str × D)} {i : Nat} {c : Nat}
theorem re_isE {x nm : Str} {p q r pos : Pos} {t : Option Bool} {cv : Value} {v : V} (E : ExF X.K (cl.at_ c)) (hz : Zc (.ref (cl.at_ c)) d oe) (hf : ∃ vs, oe.data = .fields vs)
    (hcls : PE (X.suite a ((a, oe) :: pn)) (.Name nm q) (tC v)) (hcv : ∀ u, RelV v u → u = cv) (ht : ∀ b, t = some b → PySem.W.kitOne X.K (.ref (cl.at_ c)) cv = some b) (hm : X.mg "isinstance" = none)
    (hi : X.N[i]? = some x := by rfl) (hv : Vis X.env.scope x := by first | exact Or.inl rfl | exact Or.inr (Or.inl rfl) | exact Or.inr (Or.inr rfl)) (hg : Gl X "isinstance" := by rfl)
    (hd : (x == ("__debug__" : Str)) = false := by decide) (hcd : (x == ("__classdict__" : Str)) = false := by decide)
    (hs1 : starEach [.Name x r, .Name nm q] X.env = (false, eval (.Name x r) X.env) :: starEach [.Name nm q] X.env := by rfl) (hs2 : starEach [.Name nm q] X.env = (false, eval (.Name nm q) X.env) :: starEach [] X.env := by rfl)
    (hpl : (backTo pos (starEach [.Name nm q] X.env)).any (·.1) = false := by rfl) :
    RE (X.suite a ((a, oe) :: pn)) (clE X.K cl fs d (some (i, a))) (fun _ => False) (.Call (.Name "isinstance" p) [.Name x r, .Name nm q] [] pos) (mIsE i t) := by
  refine pe_imp (pe_callB (call_isX E hz hf) hg hm PyProof.Rows.boot_isinstance (pa_cons (pe_var (i := i) hi hv hd hcd) (pa_cons hcls pa_nil hs2) hs1) (by decide) (by decide) hs1 hpl) fun σ H Q ⟨φ, G, g, S, r, S', w, s, e, k⟩ => ?_
  unfold mIsE at e
  split at e
  · rename_i hgi
    cases ht' : t with
    | none => rw [ht'] at e; cases e
    | some b =>
      rw [ht'] at e
      cases e
      refine ⟨_, s.hd i a rfl hgi, v, cv, b, rfl, hcv, ht b ht', ?_, k.now w _ (by simp only [IsD])⟩
      rcases w.iv.2 with ⟨_, h⟩ | ⟨dx, fv, h1, h2, _⟩
      · exact .inl h
      · exact .inr ⟨dx, fv, h1, w.sub _ _ h2⟩
  · cases e
theorem fsD_get {K : PySem.W.Frag} {φ : List Addr} {G : Hp} {f : Str} {z : D} : ∀ {fs : List (Str × D)} {fv : List (Str × V)}, FsD K φ G fs fv → fs.lookup f = some z → ∃ v, fv.lookup f = some v ∧ IsD K φ G z v
  | [], _, _, e => by cases e
  | (n, d) :: fs, _, ⟨v, r, h1, h2, h3⟩, e => by
    subst h1
    rw [List.lookup_cons] at e ⊢
    split at e
    · rename_i q
      cases e
      exact ⟨v, rfl, h2⟩
    · exact fsD_get h3 e
theorem re_ef {x f : Str} {r pos : Pos} (E : ExF X.K (cl.at_ c)) (hno : PySem.W.findIn X.K (.ref (cl.at_ c)) f = some none) (hz : Zc (.ref (cl.at_ c)) d oe) (hf : ∃ vs, oe.data = .fields vs)
    (hi : X.N[i]? = some x := by rfl) (hv : Vis X.env.scope x := by first | exact Or.inl rfl | exact Or.inr (Or.inl rfl) | exact Or.inr (Or.inr rfl))
    (hd : (x == ("__debug__" : Str)) = false := by decide) (hcd : (x == ("__classdict__" : Str)) = false := by decide) (hb : attributeBase (.Name x r) f X.env (eval (.Name x r) X.env) = eval (.Name x r) X.env := by rfl) :
    RE (X.suite a ((a, oe) :: pn)) (clE X.K cl fs d (some (i, a))) (fun _ => False) (.Attribute (.Name x r) f pos) (mEf i (fs.lookup f)) := by
  refine pe_imp (pe_xf ⟨E.ga, E.gg, E.sb, E.hd⟩ hno hz hf (pe_var (X := X.suite a ((a, oe) :: pn)) (i := i) hi hv hd hcd) hb) fun σ H Q ⟨φ, G, g, S, r, S', w, s, e, k⟩ => ?_
  unfold mEf at e
  split at e
  · rename_i hgi
    cases ht' : fs.lookup f with
    | none => rw [ht'] at e; cases e
    | some z =>
      rw [ht'] at e
      cases e
      refine ⟨_, s.hd i a rfl hgi, rfl, rfl, ?_⟩
      rcases w.iv.2 with ⟨h, _⟩ | ⟨dx, fv, h1, h2, h3⟩
      · subst h; cases ht'
      · obtain ⟨v, e1, e2⟩ := fsD_get h3 ht'
        exact ⟨dx, fv, v, h1, w.sub _ _ h2, e1, k.now w _ (e2.mono (List.nil_prefix) (Ex.refl _))⟩
  · cases e
/-- facts of the class table -/
theorem kit2 {K : PySem.W.Frag} {t : Value} {C : Addr} {b : Bool} (h1 : PySem.W.isClsIn K C = true) (h2 : PySem.W.typeIn K (.ref C) = some (.type "type")) (h3 : PySem.W.subIn K t (.ref C) = some b) : PySem.W.kitCls K t (.ref C) = some b := by
  show (if ((PySem.W.clsIn K C).isSome && PySem.W.typeIn K (.ref C) == some (.type "type")) = true then PySem.W.subIn K t (.ref C) else none) = some b
  rw [if_pos (by rw [show (PySem.W.clsIn K C).isSome = true from h1, h2]; decide +kernel)]
  exact h3
theorem kit1 {K : PySem.W.Frag} {t : Value} {C : Addr} {b : Bool} (h1 : PySem.W.isClsIn K C = true) (h2 : PySem.W.typeIn K (.ref C) = some (.type "type")) (h3 : PySem.W.subIn K t (.ref C) = some b) (h4 : (t == .ref C) = true → b = true) : PySem.W.kitOne K t (.ref C) = some b := by
  unfold PySem.W.kitOne
  split
  · rw [h4 (by assumption)]
  · exact kit2 h1 h2 h3
theorem exm1 {K : PySem.W.Frag} {t : Value} {C : Addr} {b : Bool} (h0 : PySem.W.subIn K (.ref C) (.type "BaseException") = some true) (h1 : PySem.W.isClsIn K C = true) (h2 : PySem.W.typeIn K (.ref C) = some (.type "type")) (h3 : PySem.W.subIn K t (.ref C) = some b) : PySem.W.exmOne K t (.ref C) = some b := by
  unfold PySem.W.exmOne
  rw [if_pos (by rw [h0]; decide +kernel)]
  exact kit2 h1 h2 h3
end
end Mi
namespace Mi
open PySem L2
/-! ### a text times a number; capital letters -/
def repS (a : Str) (n : Nat) : Str := ⟨(List.replicate n a.cps).foldl (· ++ ·) #[]⟩
theorem fold_app : ∀ (l : List (Array Nat)) (acc : Array Nat), (l.foldl (· ++ ·) acc).toList = acc.toList ++ (l.map Array.toList).flatten
  | [], acc => by simp
  | b :: l, acc => by rw [List.foldl_cons, fold_app l, Array.toList_append, List.map_cons, List.flatten_cons, List.append_assoc]
theorem repS_list (a : Str) (n : Nat) : (repS a n).cps.toList = (List.replicate n a.cps.toList).flatten := by
  unfold repS
  rw [fold_app]
  simp
theorem repS_len (a : Str) (n : Nat) : (repS a n).length = n * a.length := by
  show (repS a n).cps.size = _
  rw [← Array.length_toList, repS_list]
  simp [Str.length]
noncomputable def cRep (a : Str) (n : Int) : Bool := cdec (1 < n ∧ n ≤ 1000 ∧ a.length ≠ 0 ∧ a.length ≤ 1000)
noncomputable def fMulS : Store → D → D → Option D := fun _ d e => match d, e with
  | .str a, .int n => if cRep a n = true then some (.str (repS a n.toNat)) else none
  | _, _ => none
def rMulS : R2 := fun x y H Q => ∃ (a : Str) (n : Int), x = .str a ∧ y = .int n ∧ (1 < n ∧ n ≤ 1000 ∧ a.length ≠ 0 ∧ a.length ≤ 1000) ∧ Q (.str (repS a n.toNat)) H
theorem op_mulS {X : Cx} : OpR X (binaryOp .Mult) rMulS := by
  intro pins s σ H x y v u Q I rx ry h
  obtain ⟨a, n, rfl, rfl, ⟨h1, h2, h3, h4⟩, q⟩ := h
  obtain ⟨t, rfl⟩ := rx
  obtain ⟨t', rfl⟩ := ry
  have e1 : ¬ n < 1 := by omega
  have e2 : ¬ ((n == 1 || a.length == 0) = true) := by
    rw [Bool.or_eq_true, beq_iff_eq, beq_iff_eq]; omega
  have hm : a.length * n.toNat ≤ 1000 * 1000 := Nat.mul_le_mul h4 (by omega)
  refine P.mul_str ?_ (fun _ _ => ?_) (fun _ _ => ?_) ?_
  · rw [decide_eq_false (by omega), decide_eq_false (by omega)]; rfl
  · have : (a.length : Int) ≤ (2 ^ 63 - 1) / n := by
      refine (Int.le_ediv_iff_mul_le (by omega)).mpr ?_
      have e : (n.toNat : Int) = n := by omega
      rw [← e]
      have h5 : ((a.length * n.toNat : Nat) : Int) ≤ 1000000 := by omega
      rw [Int.natCast_mul] at h5
      omega
    omega
  · show decide (_ > sizeLine) = false
    rw [sizeLine_eq]
    exact decide_eq_false (by omega)
  · rw [if_neg e1, if_neg e2]
    refine ⟨?_, .str (repS a n.toNat), H, I.tok _, ⟨_, rfl⟩, q⟩
    rw [sizeLine_eq]
    have e := repS_len a n.toNat
    rw [Nat.mul_comm] at e
    show (repS a n.toNat).length ≤ _
    omega
section
variable {X : Cx} {cl : Cl} {tk : WX → Prop} [T : Tk X tk]
theorem fMulS_ok : OpS X.K cl rMulS fMulS := fun φ S G H x y d e z Q w h1 h2 h3 k => by
  unfold fMulS at h3
  split at h3
  · rename_i a n
    split at h3
    · rename_i hc
      cases h3
      simp only [IsD] at h1 h2
      exact ⟨a, n, h1, h2, cdec_iff.mp hc, k _ _ _ (Step.refl _ _ _) w _ (by simp only [IsD])⟩
    · cases h3
  · cases h3
noncomputable def fUpper : Store → D → Option D := fun _ d => match d with
  | .str a => if szOk (3 * a.length) = true then some (.str (Txt.upper a)) else none
  | _ => none
theorem re_upper {o : Expr} {apos pos : Pos} {mo : M D} (ho : RE X cl tk o mo) (hbase : attributeBase o "upper" X.env (eval o X.env) = eval o X.env := by rfl) (hline : (apos.endLine == pos.line) = true := by rfl) :
    RE X cl tk (.Call (.Attribute o "upper" apos) [] [] pos) (mOp1 fUpper mo) := by
  refine pe_imp (pe_upper ho hbase hline) fun σ H Q ⟨φ, G, g, S, r, S', w, s, e, k⟩ => ?_
  refine tM_bind T.ok w s e k fun d φ1 G1 H1 S1 v st1 w1 s1 hv' e1 k1 => ?_
  obtain ⟨z, ez, rfl, rfl⟩ := mL_ok e1
  unfold fUpper at ez
  split at ez
  · rename_i a
    split at ez
    · rename_i hz
      cases ez
      simp only [IsD] at hv'
      have := szOk_le hz
      rw [sizeLine_eq] at this
      exact ⟨⟨a, hv'⟩, a, hv', rfl, by omega, k1.now w1 _ (by simp only [IsD])⟩
    · cases ez
  · cases ez
end
/-! ### class tables -/
theorem kitT {K : PySem.W.Frag} {C : Addr} {T : String} {b : Bool} (h1 : PySem.W.kitMeta T = true) (h3 : PySem.W.subIn K (.ref C) (.type T) = some b) : PySem.W.kitOne K (.ref C) (.type T) = some b := by
  unfold PySem.W.kitOne
  rw [if_neg (fun h => by cases (beq_iff_eq.mp h))]
  show (if PySem.W.kitMeta T = true then PySem.W.subIn K (.ref C) (.type T) else none) = some b
  rw [if_pos h1]; exact h3
theorem subne {K : PySem.W.Frag} {C D : Addr} (h0 : PySem.W.subIn K (.ref D) (.ref D) = some true) (h : PySem.W.subIn K (.ref C) (.ref D) = some false) (e : (Value.ref C == .ref D) = true) : false = true := by
  have := Value.ref.inj (beq_iff_eq.mp e)
  subst this
  rw [h0] at h; cases h
def spA (K : PySem.W.Frag) (m : MF) : Sp := fun vs H Q E => ∀ e, spM K (clT e) m vs H Q E
@[simp] theorem v_mulS {S : Store} {a : Str} {n : Int} : fMulS S (.str a) (.int n) = if cRep a n = true then some (.str (repS a n.toNat)) else none := id rfl
@[simp] theorem v_upper {S : Store} {a : Str} : fUpper S (.str a) = if szOk (3 * a.length) = true then some (.str (Txt.upper a)) else none := id rfl
end Mi
namespace Mi
open PySem L2 PySem.Spec PyProof.Rows
/-! ### a def that knows its class (super) -/
abbrev envS (qual : Str) (scope : Scope) (L f : Addr) (cd : Value) (cc : Addr) : Env := PySem.W.envX qual scope L f cd [("__class__", cc)]
def cxS (CX : CXT) (P : Program) (w : World) (K : PySem.W.Frag) (mg : Str → Option Value) (base : Heap) (N : List Str) (qual : Str) (scope : Scope) (f : Addr) (cd : Value) (cc : Addr) (A : Around) (outer : List Env) (s : Shared) (H : Hp) (E : XK) : Cx where
  prog := P
  w := w
  K := K
  mg := mg
  base := base
  A := A.deeper (envS qual scope s.heap.objs.size f cd cc)
  N := N
  s_0 := s
  H_0 := H
  env := envS qual scope s.heap.objs.size f cd cc
  outer := outer
  stack := envS qual scope s.heap.objs.size f cd cc :: outer
  ex := []
  calm := true
  fn := fun x => !(x == "__class__")
  pn := []
  xe := fun e s' => wpAny (model P w) (A.deeper (envS qual scope s.heap.objs.size f cd cc)) (leaving (envS qual scope s.heap.objs.size f cd cc) e) (fun _ s'' => CX outer H s E e s'') (fun e' s'' => CX outer H s E e' s'') s'
structure SScope (N P : List Str) (sc : Scope) : Prop where
  kind : sc.kind = .function
  co : sc.isCoroutine = false
  gen : sc.isGenerator = false
  nd : N.Nodup
  pre : N.take P.length = P
  par : ∀ x ∈ P, sc.names.lookup x = some .local
  nocell : ∀ y ∈ sc.names, y.2 ≠ .cell
  free : ∀ y ∈ sc.names, y.2 = .free → y.1 = "__class__"
theorem lookup_uniq {y : Str} {u : Value} : ∀ {l : List (Str × Value)}, (l.map (·.1)).Nodup → (y, u) ∈ l → l.lookup y = some u
  | [], _, h => by cases h
  | (n, v) :: r, nd, h => by
    rw [List.map_cons, List.nodup_cons] at nd
    rcases List.mem_cons.mp h with e | h2
    · cases e; simp [List.lookup]
    · have ne : (y == n) = false := by
        rw [beq_eq_false_iff_ne]
        intro e
        subst e
        exact nd.1 (List.mem_map.mpr ⟨(y, u), h2, rfl⟩)
      rw [List.lookup_cons, ne]
      exact lookup_uniq nd.2 h2
theorem zip_uniq {ps : List Str} {us : List Value} (nd : ps.Nodup) (hl : us.length = ps.length) {i : Nat} {y : Str} {u : Value} (h1 : ps[i]? = some y) (h2 : us[i]? = some u) : (ps.zip us).reverse.lookup y = some u := by
  refine lookup_uniq ?_ (List.mem_reverse.mpr ?_)
  · rw [List.map_reverse, List.map_fst_zip (by omega)]
    exact List.pairwise_reverse.mpr (nd.imp Ne.symm)
  · have : (ps.zip us)[i]? = some (y, u) := List.getElem?_zip_eq_some.mpr ⟨h1, h2⟩
    exact List.mem_of_getElem? this
theorem inv_startS {CX : CXT} {P : Program} {w : World} {K : PySem.W.Frag} {mg : Str → Option Value} {base : Heap} {N ps : List Str} {qual : Str} {scope : Scope} {f cc D : Addr} {cd : Value} {A : Around} {outer : List Env} {s : Shared} {H : Hp} {E : XK} {us : List Value} {vs : List V}
    {cl : Value} {cld : Option Addr} {csl : Array (Option Value)} {h1 : Heap} {tk : Nat} (lc : K.lookup cc = some ⟨cl, cld, .cell (some (.ref D)), csl⟩)
    (S : SScope N ps scope) (hd : A.handled = none) (e0 : Env0 P w K mg base A outer s H) (hl : vs.length = ps.length) (r : Vals vs us)
    (hns : h1.Ns s.heap.objs.size (fun x => (ps.zip us).reverse.lookup x)) (hk : ∀ b o, s.heap.get? b = some o → h1.get? b = some o) :
    Inv (cxS CX P w K mg base N qual scope f cd cc A outer s H E) [] (L2.start N vs) H { s with heap := h1, toks := tk } := by
  have hpl : ps.length ≤ N.length := by have := congrArg List.length S.pre; rw [List.length_take] at this; omega
  have noA : ∀ b : Addr, b ∉ (cxS CX P w K mg base N qual scope f cd cc A outer s H E).ex := fun b z => absurd (show b ∈ ([] : List Addr) from z) (by simp)
  have cls : ∀ {y : Str} {c : Addr}, ([(("__class__" : Str), cc)] : List (Str × Addr)).lookup y = some c → y = "__class__" ∧ c = cc := fun {y c} h => by
    rw [List.lookup_cons] at h
    split at h
    · rename_i q; cases h; exact ⟨by simpa using q, rfl⟩
    · cases h
  have bcc : base.get? cc = some ⟨cl, cld, .cell (some (.ref D)), csl⟩ := e0.mod.kin _ _ lc
  refine ⟨⟨e0.mod, S.kind, rfl, rfl, Nat.le_refl _, fun y z c q1 q2 => ?_, fun y hy => ?_, fun y c q1 q2 => ?_, fun _ => hd, Around.frames_deeper e0.frames, .inr ⟨rfl, rfl⟩, fun b z => absurd z (noA b), e0.bs, e0.bsz, fun b _ _ => noA b, fun b z => absurd z (noA b), e0.funs, e0.frf⟩,
    rfl, e0.bare, Un.kept hk, ⟨_, hns, fun i y v q1 q2 q3 => ?_⟩, fun y c q => ?_, e0.hok.fresh (Nat.le_refl _), fun y c q => ?_, fun p hp => absurd (show p ∈ ([] : List (Addr × Obj)) from hp) (by simp), e0.hok.kept hk, ?_⟩
  · rw [(cls q1).1, (cls q2).1]
  · have hy : scope.names.lookup y = some .cell ∨ scope.names.lookup y = some .free := hy
    rcases hy with hy | hy
    · exact absurd rfl (S.nocell _ (PySem.mem_of_lookup hy))
    · have := S.free _ (PySem.mem_of_lookup hy) rfl
      subst this
      exact ⟨cc, by show ([(("__class__" : Str), cc)] : List (Str × Addr)).lookup ("__class__" : Str) = some cc; simp [List.lookup]⟩
  · have e := (cls q2).1
    subst e
    exact absurd q1 (by show ¬ (!(("__class__" : Str) == "__class__")) = true; simp)
  · have hi : i < vs.length := by
      unfold L2.start at q2
      by_cases hi : i < vs.length
      · exact hi
      · rw [List.getElem?_append_right (by simpa using hi)] at q2
        rw [List.getElem?_replicate] at q2
        split at q2 <;> cases q2
    have ha : vs[i]? = some v := by
      unfold L2.start at q2
      rw [List.getElem?_append_left (by simpa using hi), List.getElem?_map] at q2
      cases e : vs[i]? with
      | none => rw [e] at q2; cases q2
      | some a => rw [e] at q2; cases q2; rfl
    obtain ⟨u, hu, rv⟩ := r.get ha
    have hp : ps[i]? = some y := by
      rw [← S.pre, List.getElem?_take_of_lt (by omega)]; exact q1
    have ndP : ps.Nodup := by rw [← S.pre]; exact S.nd.sublist (List.take_sublist _ _)
    exact ⟨u, rv, .inl ⟨S.par y (List.mem_of_getElem? hp), zip_uniq ndP (by rw [← r.length]; exact hl) hp hu⟩⟩
  · obtain ⟨rfl, rfl⟩ := cls q
    exact ⟨_, _, hk _ _ (e0.bs _ _ bcc).1, rfl⟩
  · obtain ⟨rfl, rfl⟩ := cls q
    exact (e0.bs _ _ bcc).2
  · unfold L2.start
    show _ = N.length
    rw [List.length_append, List.length_map, List.length_replicate]
    omega
/-- statements in a def whose code is known -/
structure PSsA (X : Cx) (c : Code) (body : List Stmt) (t : TS) : Prop where
  run : ∀ pins s σ H D, Inv X pins σ H s → t D σ H → _root_.PySem.wpAt (model X.prog X.w) X.A c (execs body X.env) (SP X pins D) X.xe s
structure PSA (X : Cx) (c : Code) (st : Stmt) (t : TS) : Prop where
  run : ∀ pins s σ H D, Inv X pins σ H s → t D σ H → _root_.PySem.wpAt (model X.prog X.w) X.A c (exec st X.env) (SP X pins D) X.xe s
theorem pssA_of {X : Cx} {c : Code} {body : List Stmt} {t : TS} (h : PSs X body t) : PSsA X c body t := ⟨fun pins s σ H D I q => wpAt_of_wpAny (h.run pins s σ H D I q)⟩
theorem psA_of {X : Cx} {c : Code} {st : Stmt} {t : TS} (h : PS X st t) : PSA X c st t := ⟨fun pins s σ H D I q => wpAt_of_wpAny (h.run pins s σ H D I q)⟩
theorem pssA_cons {X : Cx} {c : Code} {st : Stmt} {rest : List Stmt} {t u : TS} (h1 : PSA X c st t) (h2 : PSsA X c rest u) : PSsA X c (st :: rest) (tSeq t u) := by
  refine ⟨fun pins s σ H D I h => ?_⟩
  refine PySem.ks_wpAt_execs_cons (PySem.ks_wpAt_mono (h1.run pins s σ H { D with nx := u D } I h) (fun f s1 q => ?_) fun _ _ z => z)
  cases f with
  | next =>
    obtain ⟨σ', H', I', q⟩ := q
    exact h2.run pins s1 σ' H' D I' q
  | ret v => exact q
  | brk => exact q
  | cont => exact q
theorem fn_ofS {CX : CXT} {P : Program} {w : World} {K : PySem.W.Frag} {mg : Str → Option Value} {base : Heap} {k : Nat} {f cc D : Addr} {name qual : Str} {params : Arguments} {body : List Stmt} {scope : Scope} {dV kV doc pm cdv ct oc : Value} {an od : Option Addr}
    {osl : Array (Option Value)} {N ps : List Str} {sp : Sp} {cl : Value} {cld : Option Addr} {csl : Array (Option Value)} (lk : K.lookup f = some ⟨oc, od, .func (PySem.W.fnX name qual params body scope [("__class__", cc)] dV kV doc pm an cdv ct), osl⟩) (hcd : PySem.W.codeIn K cdv qual = true)
    (lc : K.lookup cc = some ⟨cl, cld, .cell (some (.ref D)), csl⟩) (S : SScope N ps scope)
    (len : ∀ vs H Q E, sp vs H Q E → vs.length = ps.length)
    (hbody : ∀ (A : Around) (outer : List Env) (s : Shared) (H : Hp) (vs : List V) (Q : VK) (E : XK), Room k (A.deeper (envS qual scope s.heap.objs.size f cdv cc)) → sp vs H Q E →
      ∃ t, PSsA (cxS CX P w K mg base N qual scope f cdv cc A outer s H E) (.func body (envS qual scope s.heap.objs.size f cdv cc)) body t ∧ t { nx := fun _ H' => Q .non H', rt := Q } (L2.start N vs) H) :
    FnOk P w K mg base CX (k + 1) f (PySem.W.fnX name qual params body scope [("__class__", cc)] dV kV doc pm an cdv ct) ps sp := by
  refine ⟨len, fun A outer s H args us vs Q E hr e0 hb r hsp => ?_⟩
  have hl := len _ _ _ _ hsp
  have KX : K.In s.heap := e0.mod.kin.keeps fun b o e => (e0.bs b o e).1
  have lim : s.heap.NoLimit := e0.mod.nolimit.keeps fun b o e => (e0.bs b o e).1
  refine PySem.ks_codeAny_call_defAt (body := body) (binds := ps.zip us) hr.depth (KX _ _ lk) rfl lim (PySem.W.codeRec_of KX hcd) rfl hb S.nocell (fun ⟨n, v⟩ hy => S.par n (List.of_mem_zip hy).1) (fun h₁ hns hk₁ => ?_) S.co S.gen S.kind
  obtain ⟨t, ht, hq⟩ := hbody A outer s H vs Q E (hr.deeper _) hsp
  have I : Inv (cxS CX P w K mg base N qual scope f cdv cc A outer s H E) [] (L2.start N vs) H { s with heap := h₁, toks := s.toks + (ps.zip us).length } := inv_startS lc S hr.hd e0 hl r hns hk₁
  refine PySem.ks_wpAt_mono (ht.run [] _ (L2.start N vs) H _ I hq) (fun fl s' hs => ?_) fun e s' hs => hs
  have fin : ∀ {σ' : L2.St} {H' : Hp} {v : V} {u : Value}, Inv (cxS CX P w K mg base N qual scope f cdv cc A outer s H E) [] σ' H' s' → RelV v u → Q v H' → CE outer P w H s Q u s' :=
    fun {σ' H' v u} J rv q => ⟨v, H', J.os, J.bare, J.base, J.hok, rv, q⟩
  cases fl with
  | ret u =>
    obtain ⟨v, σ', H', J, rv, q⟩ := hs
    exact fin J rv q
  | next =>
    obtain ⟨σ', H', J, q⟩ := hs
    exact fin (v := V.non) (u := Value.none) J rfl q
  | brk =>
    obtain ⟨_, _, _, q⟩ := hs
    exact False.elim q
  | cont =>
    obtain ⟨_, _, _, q⟩ := hs
    exact False.elim q
end Mi
namespace Mi
open PySem L2 PySem.Spec PyProof.Rows PySem.Calls
/-- what super() asks of the def that says it: D the class it stands in, x0 its first name -/
structure SupK (X : Cx) (f cc D : Addr) (x0 : Str) : Prop where
  kd : X.env.scope.kind = .function
  gl : X.env.globals = mainGlobals
  bl : X.env.builtins = builtinsNs
  ks : X.env.kindOf ("super" : Str) = some .globalImplicit
  kc : X.env.kindOf ("__class__" : Str) = some .free
  ka : X.env.kindOf x0 = some .local
  fu : X.env.func = some f
  fd : ∃ oc od fdat osl ar, X.K.lookup f = some ⟨oc, od, .func fdat, osl⟩ ∧ (fdat.params.posonlyargs ++ fdat.params.args).head? = some ar ∧ ar.arg = x0
  co : ∃ cda oc od vs sl file tf, X.env.code = .ref cda ∧ X.K.lookup cda = some ⟨oc, od, .fields vs, sl⟩ ∧ vs[2]? = some (.str file tf) ∧ ((X.prog.main.file : Str) == file) = true
  ce : X.env.cells.lookup ("__class__" : Str) = some cc
  cc : ∃ cl cld csl, X.K.lookup cc = some ⟨cl, cld, .cell (some (.ref D)), csl⟩
  cD : PySem.W.isClsIn X.K D = true
  tp : (X.prog.main.scope.names.lookup ("super" : Str)).isSome = false
  n0 : X.N[0]? = some x0
  mg : X.mg "super" = none
section
variable {X : Cx} {f cc D : Addr} {x0 : Str}
theorem cls_at {K : PySem.W.Frag} {h : Heap} (k : K.In h) (c : PySem.W.isClsIn K D = true) : ∃ oD cd, h.get? D = some oD ∧ oD.data = .cls cd ∧ PySem.W.clsIn K D = some cd := by
  obtain ⟨cd, hc⟩ := Option.isSome_iff_exists.mp c
  have hc' := hc
  unfold PySem.W.clsIn at hc'
  split at hc'
  · rename_i c' d' cd' sl' ho
    cases hc'
    exact ⟨_, _, k _ _ ho, rfl, hc⟩
  · cases hc'
theorem sup_base (Z : SupK X f cc D x0) {pins : List (Addr × Obj)} {σ : L2.St} {H : Hp} {s : Shared} {x C : Addr} {ox : Obj} {body : List Stmt} {p0 p1 : Pos} {attr : Str} {whole : Sem Value} {Q : Value → Shared → Prop} {E : Value → Shared → Prop}
    (I : Inv X pins σ H s) (hx : σ[0]? = some (some (.ref x))) (ho : s.heap.get? x = some ox) (hcl : ox.cls = .ref C) (hnc : ∀ c, ox.data ≠ .cls c) (hm : PySem.W.mroIn X.K C (.ref D) = some true) (hat : (attr == ("__class__" : Str)) = false)
    (h : ∀ so h', s.heap.objs.size ≤ so → (∀ b o, s.heap.get? b = some o → h'.get? b = some o) → h'.get? so = some (PySem.W.ks_superObj D x C) → Q (.ref so) { s with heap := h' }) :
    _root_.PySem.wpAt (model X.prog X.w) X.A (.func body X.env) (attributeBase (.Call (.Name "super" p0) [] [] p1) attr X.env whole) Q E s := by
  obtain ⟨oc, od, fdat, osl, ar, lf, hp, rfl⟩ := Z.fd
  obtain ⟨cda, oc2, od2, vs, sl, file, tf, eco, lco, hvs, hfile⟩ := Z.co
  obtain ⟨cl, cld, csl, lcc⟩ := Z.cc
  obtain ⟨oD, cd, hD1, hD2, hD3⟩ := cls_at I.kIn Z.cD
  have KX := I.kIn
  have hg : s.heap.Ns mainGlobals X.mg := I.mod.glob.at fun o q => I.bk _ _ q
  obtain ⟨mb, hb, hbt⟩ := I.mod.blt
  have hb' : s.heap.Ns builtinsNs mb := hb.at fun o q => I.bk _ _ q
  obtain ⟨m, hn, hl⟩ := I.loc
  obtain ⟨u, ru, lk⟩ := hl 0 ar.arg _ Z.n0 hx (.inl Z.ka)
  have eu : u = Value.ref x := ru
  subst eu
  have hv : m ar.arg = some (.ref x) := by
    rcases lk with ⟨_, q⟩ | ⟨q, _⟩
    · exact q
    · rw [Z.ka] at q; rcases q with q | q <;> cases q
  refine ks_wpAt_super_base Z.ks Z.kc hat Z.fu (KX _ _ lf) rfl hp eco (KX _ _ lco) rfl hvs hfile Z.tp ?_
  refine PySem.W.ks_loadName_global Z.kd Z.ks (loadGlobal_builtin (by rw [Z.gl]; exact hg) Z.mg (by rw [Z.bl]; exact hb') ((hbt _ (by decide)).trans (by decide +kernel : bootBuiltins "super" = some (.type "super"))) ⟨rfl, ?_⟩)
  refine wpAny_loadName_free Z.kd Z.kc Z.ce ⟨_, KX _ _ lcc, rfl⟩ ?_
  refine wpAny_loadName_local Z.kd Z.ka hn hv ?_
  refine ks_wpAny_isType_cls hD1 hD2 ⟨rfl, ?_⟩
  obtain ⟨hh, g, d, t, os⟩ := s
  exact ks_wpAny_call_super hD1 hD2 ho hcl hnc (PySem.W.looks_mroIn KX hm) fun h' e k => h _ h' (Nat.le_refl _) k e
/-! ### super().__init__('m') in an own error's __init__ -/
def tSupI (K : PySem.W.Frag) (D : Addr) : TS := fun Dn σ H => ∃ x C : Addr, σ[0]? = some (some (.ref x)) ∧ OexC K C ∧ H x = some (exo x C none) ∧ PySem.W.mroIn K C (.ref D) = some true ∧
  PySem.W.ks_superIn K C D "__init__" = some (some (.builtin "ValueError.__init__")) ∧ PySem.W.subIn K (.ref C) (.type "ValueError") = some true ∧ PySem.W.nsIn K cStatics "thirdparty.any" = some none ∧ Dn.nx σ H
theorem mw_call {pins : List (Addr × Obj)} {σ : L2.St} {H : Hp} {s : Shared} {a C u : Addr} {us : List Value} {Q : Value → Shared → Prop} {E : Value → Shared → Prop} {A : Around} (T : OexC X.K C) (I : Inv X pins σ H s) (e : H a = some (exo a C none)) (hu : s.heap.get? u = some (PySem.W.kxs_mw "ValueError.__init__" a)) (hl : us.length ≤ sizeLine) (h : ∀ s', Inv X pins σ H s' → Q .none s') :
    wpAny (model X.prog X.w) A (call (.ref u) us) Q E s := by
  obtain ⟨nm, q, N, bs, bm, sn, sub, ab, col, dd, k0, k1, k2, k3, k5, hC, hbm⟩ := T.cls
  obtain ⟨t1, ho⟩ := exo_at I.hok e
  have hC' := I.kIn _ _ hC
  obtain ⟨hp, g, d, t, os⟩ := s
  refine wpAny_call (codeAny_of_tree ?_)
  show wpAny _ A.in1 (callAny (.ref u) ⟨us, []⟩) _ _ _
  simp only [callAny]
  refine wpAny_bind (wpAny_load hu ?_)
  simp only [PySem.W.kxs_mw, show (Value.type "method-wrapper" == Value.type "method" || Value.type "method-wrapper" == Value.type "builtin_function_or_method" || Value.type "method-wrapper" == Value.type "method-wrapper") = true by decide, if_true]
  first | refine PySem.W.KFB.if_so (by decide) ?_ | refine _root_.KFB.if_so (by decide) ?_ | refine PySem.P.KFB.if_so (by decide) ?_ | rw [if_pos (by decide)]
  refine wpAny_bind (PySem.W.check_bound_init F.excBase_ValueError.toExcCallFacts hC' ho rfl ?_)
  refine wpAny_bind (wpAny_pure (wpAny_pure ?_))
  refine ⟨plainId_quiet F.excBase_ValueError.init.plain _, codeAny_builtin F.excBase_ValueError.initEntry ?_⟩
  refine PySem.W.exc_init_tree (cls := .ref C) (t0 := t1) (dv := none) (c2 := .none) (c3 := .none) (b4 := .bool false) ho hl fun h' k hx ht => ?_
  have J := I.write (t' := t) (x := a) (e := a) (o := exo a C none) (by rw [e]; exact True.intro) (.inl rfl) k ⟨_, hx⟩ (exo_ok hx)
  have eu : upd H a (exo a C none) = H := by
    funext b
    by_cases hb : b = a
    · rw [hb, upd_same, e]
    · rw [upd_ne hb]
  rw [eu] at J
  exact h _ J
theorem psA_supI (Z : SupK X f cc D x0) {body : List Stmt} {p0 p1 p2 pos pos' pm : Pos} {msg : Str} {j : Nat} {pl : Sem Bool}
    (he : eval (.Call (.Attribute (.Call (.Name "super" p0) [] [] p1) "__init__" p2) [.Constant (.str msg) j pm] [] pos) X.env = (do
      let ov ← attributeBase (.Call (.Name "super" p0) [] [] p1) "__init__" X.env (eval (.Call (.Name "super" p0) [] [] p1) X.env)
      standAt p2.atName
      let (f, first) ← holding [ov] (getMethod ov "__init__" pl)
      callWith pos f first (backTo pos (starEach [.Constant (.str msg) j pm] X.env)) []) := by rfl)
    (hst : starEach [.Constant (.str msg) j pm] X.env = [(false, eval (.Constant (.str msg) j pm) X.env)] := by rfl) (hi : interactive X.env = false := by rfl) (hs : swapsWith (.Call (.Attribute (.Call (.Name "super" p0) [] [] p1) "__init__" p2) [.Constant (.str msg) j pm] [] pos) none pos'.line X.env = pure false := by rfl) :
    PSA X (.func body X.env) (.Expr (.Call (.Attribute (.Call (.Name "super" p0) [] [] p1) "__init__" p2) [.Constant (.str msg) j pm] [] pos) pos') (tSupI X.K D) := by
  refine ⟨fun pins s σ H Dn I ⟨x, C, hx, T, ex, hm, hsi, hsub, hno, q⟩ => ?_⟩
  obtain ⟨t1, ho⟩ := exo_at I.hok ex
  obtain ⟨nm, qn, N, bs, bm, sn, sub, ab, col, dd, k0, k1, k2, k3, k5, hC, hbm⟩ := T.cls
  have hcC : PySem.W.isClsIn X.K C = true := by unfold PySem.W.isClsIn PySem.W.clsIn; rw [hC]; rfl
  refine ks_wpAt_Expr_any (ks_wpAt_MethodCall (sup_base Z I hx ho rfl (fun c z => by cases z) hm (by decide) fun so h' hso k hob => ?_) he) hi hs
  have I1 := I.kept (t' := s.toks) k
  have KX : X.K.In h' := I1.kIn
  obtain ⟨oC, cdC, _, _, hcd⟩ := cls_at KX hcC
  have ho1 := k _ _ ho
  have IA : PySem.W.InstAt h' x ({ cls := .ref C, dict := none, data := .fields #[.ref t1, .none, .none, .none, .bool false, .none] } : Obj) C none := ⟨ho1, rfl, rfl, trivial⟩
  have hI : PySem.W.Looks (model X.prog X.w) h' (isInstance (.ref x) (.type "ValueError")) true := IA.type.andThen (PySem.W.looks_subIn KX hsub)
  unfold PySem.W.ks_superIn at hsi
  rw [hcd] at hsi
  obtain ⟨hh, g, d, t, os⟩ := s
  refine PySem.W.kxs_getMethod PySem.W.kxs_ValueError hob (PySem.W.looks_opaque KX hno) (l₀ := cdC.mro) (fun A Q E s k q => wpAny_bind ((PySem.W.looks_clsIn KX hcd) A _ E s k (wpAny_pure q))) rfl KX hsi hI (PySem.W.ks_ne KX IA hcd) (by decide) ?_
  have k2 : ∀ b o, h'.get? b = some o → (h'.push (PySem.W.kxs_mw "ValueError.__init__" x)).get? b = some o := fun b o e => Heap.get?_push_of_some _ e
  have hu : (h'.push (PySem.W.kxs_mw "ValueError.__init__" x)).get? h'.objs.size = some (PySem.W.kxs_mw "ValueError.__init__" x) := Heap.get?_push_at rfl rfl
  have I2 : Inv X pins σ H ⟨h'.push (PySem.W.kxs_mw "ValueError.__init__" x), g, d, t + 1, os⟩ := I.kept (s := ⟨hh, g, d, t, os⟩) (t' := t + 1) fun b o e => k2 b o (k b o e)
  refine PySem.W.kxs_callWith (i := "ValueError.__init__") (x := x) (by rfl) (evalArgs_plain ?_)
  have ha : PA X [.Constant (.str msg) j pm] (tCons (tC (.str msg)) tNil) := pa_cons pe_str pa_nil
  refine thn (ha.run pos ((h'.objs.size, PySem.W.kxs_mw "ValueError.__init__" x) :: pins) _ σ H (fun vs H1 => vs = [V.str msg] ∧ H = H1) (I2.pins_of fun p hp => ?_) ⟨rfl, rfl⟩) fun us s1 ⟨vs, H1, I3, r1, ev, eH⟩ => ?_
  · rcases List.mem_cons.mp hp with rfl | hp
    · exact ⟨hu, I1.hok.fresh (Nat.le_refl _), fun z => absurd I1.lt (by rw [← z]; exact Nat.lt_irrefl _), I1.nofs (Nat.le_refl _), fun v z => by cases z⟩
    · exact I2.pin p (List.mem_append_right _ hp)
  · subst ev
    subst eH
    obtain ⟨hu3, _⟩ := I3.pin (h'.objs.size, PySem.W.kxs_mw "ValueError.__init__" x) (List.mem_append_right _ List.mem_cons_self)
    have I4 : Inv X pins σ H s1 := I3.pins_of fun p hp => I3.pin p (List.mem_append_right _ (List.mem_cons_of_mem _ hp))
    refine ⟨hu3, mw_call T I4 ex hu3 ?_ fun s' J => ⟨σ, H, J, q⟩⟩
    show us.length ≤ sizeLine
    rw [← Paired.length r1, sizeLine_eq]; simp
end
end Mi
namespace Mi
open PySem L2 PySem.Spec PyProof.Rows PySem.Calls
/-! ### an own error with fields is made and raised -/
/-- what stands of the class x at C and of its __init__ -/
structure IniF (K : PySem.W.Frag) (P : Program) (mg : Str → Option Value) (x qual : Str) (st : Stmt) (C fI : Addr) (fd : FuncData) : Prop where
  T : OexC K C
  g : mg x = some (.ref C)
  iC : PySem.W.findIn K (.ref C) "__init__" = some (some (.ref fI))
  tI : PySem.W.typeIn K (.ref fI) = some (.type "function")
  mro : PySem.W.mroIn K C (.ref C) = some true
  sup : PySem.W.ks_superIn K C C "__init__" = some (some (.builtin "ValueError.__init__"))
  vE : PySem.W.subIn K (.ref C) (.type "ValueError") = some true
  tp : PySem.W.nsIn K cStatics "thirdparty.any" = some none
  cls : PySem.W.isClsIn K C = true
  ms : mg "super" = none
  fn : ∃ oc od osl kV doc pm an cda ct cc cl cld csl oc2 od2 vs sl file tf, fd = PySem.W.fnX "__init__" qual (defArgs st) (defBody st) (defScope st) [("__class__", cc)] .none kV doc pm an (.ref cda) ct ∧
    K.lookup fI = some ⟨oc, od, .func fd, osl⟩ ∧ PySem.W.codeIn K (.ref cda) qual = true ∧ K.lookup cc = some ⟨cl, cld, .cell (some (.ref C)), csl⟩ ∧
    K.lookup cda = some ⟨oc2, od2, .fields vs, sl⟩ ∧ vs[2]? = some (.str file tf) ∧ ((P.main.file : Str) == file) = true
  top : (P.main.scope.names.lookup ("super" : Str)).isSome = false
/-- the first statement: super().__init__('m') -/
abbrev supE (p0 p1 p2 pos pm : Pos) (msg : Str) (j : Nat) : Expr := .Call (.Attribute (.Call (.Name "super" p0) [] [] p1) "__init__" p2) [.Constant (.str msg) j pm] [] pos
/-- what is read off the text of an __init__ -/
structure IniT (st : Stmt) (qual : Str) (ps : List Str) (sf : Str) (p0 p1 p2 pos pos' pm : Pos) (msg : Str) (j : Nat) : Prop where
  S : SScope ps ps (defScope st)
  n0 : ps[0]? = some sf
  ar : ∃ ar, ((defArgs st).posonlyargs ++ (defArgs st).args).head? = some ar ∧ ar.arg = sf
  ks : (defScope st).names.lookup ("super" : Str) = some .globalImplicit
  kc : (defScope st).names.lookup ("__class__" : Str) = some .free
  he : ∀ L fA cd cc, ∃ pl, eval (supE p0 p1 p2 pos pm msg j) (envS qual (defScope st) L fA cd cc) = (do
      let ov ← attributeBase (.Call (.Name "super" p0) [] [] p1) "__init__" (envS qual (defScope st) L fA cd cc) (eval (.Call (.Name "super" p0) [] [] p1) (envS qual (defScope st) L fA cd cc))
      standAt p2.atName
      let (f, first) ← holding [ov] (getMethod ov "__init__" pl)
      callWith pos f first (backTo pos (starEach [.Constant (.str msg) j pm] (envS qual (defScope st) L fA cd cc))) [])
  hst : ∀ L fA cd cc, starEach [.Constant (.str msg) j pm] (envS qual (defScope st) L fA cd cc) = [(false, eval (.Constant (.str msg) j pm) (envS qual (defScope st) L fA cd cc))]
  hi : ∀ L fA cd cc, interactive (envS qual (defScope st) L fA cd cc) = false
  hs : ∀ L fA cd cc, swapsWith (supE p0 p1 p2 pos pm msg j) none pos'.line (envS qual (defScope st) L fA cd cc) = pure false
def sp1 (C : Addr) (f : Str) : Sp := fun vs H Q _ => ∃ (a : Addr) (y : V), vs = [.ref a, y] ∧ H a = some (exo a C none) ∧ ∀ dx, H dx = none → dx ≠ a → Q .non (upd (upd H dx (exd dx [(f, y)])) a (exo a C (some dx)))
def sp2 (C : Addr) (f f' : Str) : Sp := fun vs H Q _ => ∃ (a : Addr) (y y' : V), vs = [.ref a, y, y'] ∧ H a = some (exo a C none) ∧ ∀ dx, H dx = none → dx ≠ a → Q .non (upd (upd (upd H dx (exd dx [(f, y)])) a (exo a C (some dx))) dx (exd dx [(f', y'), (f, y)]))
section
variable {P : Program} {w : World} {K : PySem.W.Frag} {mg : Str → Option Value} {base : Heap} {x qual : Str} {st : Stmt} {C fI : Addr} {fd : FuncData} {k : Nat}
theorem ini1 {f self a : Str} {p0 p1 p2 pos pos' pm q1 q2 q3 q4 : Pos} {msg : Str} {j : Nat} (Z : IniF K P mg x qual st C fI fd) (Y : IniT st qual [self, a] self p0 p1 p2 pos pos' pm msg j) (hno : PySem.W.findIn K (.ref C) f = some none)
    (hb : defBody st = [.Expr (supE p0 p1 p2 pos pm msg j) pos', .Assign [.Attribute (.Name self q1) f q2] (.Name a q3) q4])
    (hs : ∀ L f' cd cc, swapsWith (.Name a q3) (some (.Attribute (.Name self q1) f q2)) q4.line (envS qual (defScope st) L f' cd cc) = pure false)
    (d1 : (self == ("__debug__" : Str)) = false) (d2 : (self == ("__classdict__" : Str)) = false) (d3 : (a == ("__debug__" : Str)) = false) (d4 : (a == ("__classdict__" : Str)) = false) :
    FnOk P w K mg base (L2.CX P w) (k + 1) fI fd [self, a] (sp1 C f) := by
  obtain ⟨oc, od, osl, kV, doc, pmo, an, cda, ct, cc, cl, cld, csl, oc2, od2, vs, sl, file, tf, rfl, lk, hcd, lcc, lcd, hvs, hfile⟩ := Z.fn
  obtain ⟨ar, ha1, ha2⟩ := Y.ar
  refine fn_ofS lk hcd lcc Y.S (fun vs H Q E ⟨a, y, e, _⟩ => by rw [e]; rfl) fun A outer s H vs Q E hr ⟨xa, y, e, ex, q⟩ => ?_
  subst e
  have l0 := Y.S.par self (by simp)
  have l1 := Y.S.par a (by simp)
  obtain ⟨pl, he⟩ := Y.he s.heap.objs.size fI (.ref cda) cc
  have SK : SupK (cxS (L2.CX P w) P w K mg base [self, a] qual (defScope st) fI (.ref cda) cc A outer s H E) fI cc C self :=
    ⟨Y.S.kind, rfl, rfl, Y.ks, Y.kc, l0, rfl, ⟨_, _, _, _, ar, lk, ha1, ha2⟩, ⟨cda, _, _, vs, _, file, tf, rfl, lcd, hvs, hfile⟩, rfl, ⟨_, _, _, lcc⟩, Z.cls, Z.top, rfl, Z.ms⟩
  rw [hb]
  refine ⟨_, pssA_cons (psA_supI SK he (Y.hst _ _ _ _) (Y.hi _ _ _ _) (Y.hs _ _ _ _)) (pssA_of (pss_one (ps_ost (pe_var (i := 0) rfl (.inl l0) d1 d2) (pe_var (i := 1) rfl (.inl l1) d3 d4) (hs _ _ _ _)))), ?_⟩
  refine ⟨xa, C, rfl, Z.T, ex, Z.mro, Z.sup, Z.vE, Z.tp, ?_⟩
  exact ⟨y, rfl, .ref xa, rfl, xa, C, rfl, Z.T, hno, .inl ⟨ex, fun dx hd hne => q dx hd hne⟩⟩
theorem ini2 {f f2 self a a2 : Str} {p0 p1 p2 pos pos' pm q1 q2 q3 q4 q5 q6 q7 q8 : Pos} {msg : Str} {j : Nat} (Z : IniF K P mg x qual st C fI fd) (Y : IniT st qual [self, a, a2] self p0 p1 p2 pos pos' pm msg j) (hno : PySem.W.findIn K (.ref C) f = some none) (hno2 : PySem.W.findIn K (.ref C) f2 = some none)
    (hb : defBody st = [.Expr (supE p0 p1 p2 pos pm msg j) pos', .Assign [.Attribute (.Name self q1) f q2] (.Name a q3) q4, .Assign [.Attribute (.Name self q5) f2 q6] (.Name a2 q7) q8])
    (hs : ∀ L f' cd cc, swapsWith (.Name a q3) (some (.Attribute (.Name self q1) f q2)) q4.line (envS qual (defScope st) L f' cd cc) = pure false)
    (hs2 : ∀ L f' cd cc, swapsWith (.Name a2 q7) (some (.Attribute (.Name self q5) f2 q6)) q8.line (envS qual (defScope st) L f' cd cc) = pure false)
    (d1 : (self == ("__debug__" : Str)) = false) (d2 : (self == ("__classdict__" : Str)) = false) (d3 : (a == ("__debug__" : Str)) = false) (d4 : (a == ("__classdict__" : Str)) = false) (d5 : (a2 == ("__debug__" : Str)) = false) (d6 : (a2 == ("__classdict__" : Str)) = false) :
    FnOk P w K mg base (L2.CX P w) (k + 1) fI fd [self, a, a2] (sp2 C f f2) := by
  obtain ⟨oc, od, osl, kV, doc, pmo, an, cda, ct, cc, cl, cld, csl, oc2, od2, vs, sl, file, tf, rfl, lk, hcd, lcc, lcd, hvs, hfile⟩ := Z.fn
  obtain ⟨ar, ha1, ha2⟩ := Y.ar
  refine fn_ofS lk hcd lcc Y.S (fun vs H Q E ⟨a, y, y', e, _⟩ => by rw [e]; rfl) fun A outer s H vs Q E hr ⟨xa, y, y', e, ex, q⟩ => ?_
  subst e
  have l0 := Y.S.par self (by simp)
  have l1 := Y.S.par a (by simp)
  have l2 := Y.S.par a2 (by simp)
  obtain ⟨pl, he⟩ := Y.he s.heap.objs.size fI (.ref cda) cc
  have SK : SupK (cxS (L2.CX P w) P w K mg base [self, a, a2] qual (defScope st) fI (.ref cda) cc A outer s H E) fI cc C self :=
    ⟨Y.S.kind, rfl, rfl, Y.ks, Y.kc, l0, rfl, ⟨_, _, _, _, ar, lk, ha1, ha2⟩, ⟨cda, _, _, vs, _, file, tf, rfl, lcd, hvs, hfile⟩, rfl, ⟨_, _, _, lcc⟩, Z.cls, Z.top, rfl, Z.ms⟩
  rw [hb]
  refine ⟨_, pssA_cons (psA_supI SK he (Y.hst _ _ _ _) (Y.hi _ _ _ _) (Y.hs _ _ _ _)) (pssA_of (pss_cons (ps_ost (pe_var (i := 0) rfl (.inl l0) d1 d2) (pe_var (i := 1) rfl (.inl l1) d3 d4) (hs _ _ _ _)) (pss_one (ps_ost (pe_var (i := 0) rfl (.inl l0) d1 d2) (pe_var (i := 2) rfl (.inl l2) d5 d6) (hs2 _ _ _ _))))), ?_⟩
  refine ⟨xa, C, rfl, Z.T, ex, Z.mro, Z.sup, Z.vE, Z.tp, ?_⟩
  refine ⟨y, rfl, .ref xa, rfl, xa, C, rfl, Z.T, hno, .inl ⟨ex, fun dx hd hne => ?_⟩⟩
  refine ⟨y', rfl, .ref xa, rfl, xa, C, rfl, Z.T, hno2, .inr ⟨dx, [(f, y)], upd_same, ?_, by simp, q dx hd hne⟩⟩
  rw [upd_ne hne, upd_same]
end
/-- C(ds) raised, the fields fns -/
def mRaiseF (c : Nat) (fns : List Str) (ma : M (List D)) : MS := fun g S => match ma g S with
  | some (.ok ds, S1) => if ds.length = fns.length ∧ refsLts 0 ds = true then some (.ex g c (fns.zip ds).reverse, S1) else none
  | some (.exc c' fs, S1) => some (.ex g c' fs, S1)
  | none => none
section
variable {X : Cx} {cl : Cl} {tk : WX → Prop} [T : Tk X tk]
theorem drop_eq {H1 : Hp} {a dx C : Addr} {fs fs' : List (Str × V)} {u : HO} (n : H1 a = none) (h : H1 dx = none) (hne : dx ≠ a) {H2 : Hp} (e : ∀ b, b ≠ a → b ≠ dx → H2 b = H1 b) : upd (del H2 a) dx u = upd H1 dx u := by
  funext b
  by_cases h1 : b = dx
  · rw [h1, upd_same, upd_same]
  · rw [upd_ne h1, upd_ne h1]
    by_cases h2 : b = a
    · rw [h2, del_same, n]
    · rw [del_ne h2, e b h2 h1]
theorem rs_raiseF1 {x qual f self a : Str} {st : Stmt} {fI : Addr} {fd : FuncData} {k c : Nat} {e : Expr} {p pos pos' : Pos} {ma : M (List D)} (Z : IniF X.K X.prog X.mg x qual st (cl.at_ c) fI fd)
    (F1 : FnOk X.prog X.w X.K X.mg X.base (L2.CX X.prog X.w) k fI fd [self, a] (sp1 (cl.at_ c) f)) (hr : Room (k + 1) X.A) (hb : L2.Binds X.K fd [self, a] []) (ha : RA X cl tk [e] ma) (hc : X.calm = true := by rfl) (hg : Gl X x := by rfl) (hdb : (x == ("__debug__" : Str)) = false := by decide)
    (he : starEach [e] X.env = (false, eval e X.env) :: starEach [] X.env := by rfl) (hpl : (backTo pos (starEach [] X.env)).any (·.1) = false := by rfl) :
    RS X cl tk (.Raise (some (.Call (.Name x p) [e] [] pos)) none pos') (mRaiseF c [f] ma) := by
  refine ⟨fun pins s σ H D I ⟨φ, G, g, S, o, S', w, sl, e1, k1⟩ => ?_⟩
  have mk := pmk_oex (p := p) (pos := pos) (ds := []) (dvs := []) Z.T Z.iC Z.tI F1 hr hb .nil (fun _ _ _ _ _ _ _ z => (cx_never z).elim) hg Z.g ha hdb he hpl
  unfold mRaiseF at e1
  split at e1
  · rename_i ds S1 q
    split at e1
    · rename_i hd
      cases e1
      refine (ps_raise hc (T.tk _ k1) mk).run pins s σ H D I ⟨φ, G, g, S, _, _, w, sl, q, fun φ1 G1 H1 st1 w1 vs hvs => ?_⟩
      match ds, hd with
      | [d], hd =>
        obtain ⟨v, r, rfl, hv, hr'⟩ := hvs.cons_inv
        rw [hr'.nil_inv]
        refine ⟨by simp, fun a0 n0 => ⟨a0, v, rfl, upd_same, fun dx hdx hne => ?_⟩⟩
        rw [upd_ne hne] at hdx
        refine ⟨rfl, dx, _, upd_same, by rw [upd_ne hne, upd_same], hdx, ?_⟩
        rw [drop_eq (C := 0) (fs := []) (fs' := []) n0 hdx hne (fun b h1 h2 => by rw [upd_ne h1, upd_ne h2, upd_ne h1])]
        refine ⟨φ1, upd G1 dx (.xd [(f, v)]), ⟨st1.trans (fresh_step w1 hdx _), fresh_wd w1 hdx _, rfl, .inr ⟨dx, [(f, v)], rfl, upd_same, v, [], rfl, ?_, rfl⟩⟩, sl.step (st1.trans (fresh_step w1 hdx _))⟩
        have r0 : refsLt 0 d = true := by simpa [refsLts] using hd.2
        exact (hv.cut (n := 0) r0).mono (by simp) (Ex.new (w1.gnone hdx))
    · cases e1
  · rename_i c' fs S1 q
    cases e1
    exact (ps_raise (W := fun _ _ _ _ => False) hc takes0 mk).run pins s σ H D I ⟨φ, G, g, S, _, _, w, sl, q, k1⟩
  · cases e1
theorem rs_raiseF2 {x qual f f2 self a a2 : Str} {st : Stmt} {fI : Addr} {fd : FuncData} {k c : Nat} {e e2 : Expr} {p pos pos' : Pos} {ma : M (List D)} (Z : IniF X.K X.prog X.mg x qual st (cl.at_ c) fI fd)
    (F1 : FnOk X.prog X.w X.K X.mg X.base (L2.CX X.prog X.w) k fI fd [self, a, a2] (sp2 (cl.at_ c) f f2)) (hr : Room (k + 1) X.A) (hb : L2.Binds X.K fd [self, a, a2] []) (ha : RA X cl tk [e, e2] ma) (hc : X.calm = true := by rfl) (hg : Gl X x := by rfl) (hdb : (x == ("__debug__" : Str)) = false := by decide)
    (he : starEach [e, e2] X.env = (false, eval e X.env) :: starEach [e2] X.env := by rfl) (hpl : (backTo pos (starEach [e2] X.env)).any (·.1) = false := by rfl) :
    RS X cl tk (.Raise (some (.Call (.Name x p) [e, e2] [] pos)) none pos') (mRaiseF c [f, f2] ma) := by
  refine ⟨fun pins s σ H D I ⟨φ, G, g, S, o, S', w, sl, e1, k1⟩ => ?_⟩
  have mk := pmk_oex (p := p) (pos := pos) (ds := []) (dvs := []) Z.T Z.iC Z.tI F1 hr hb .nil (fun _ _ _ _ _ _ _ z => (cx_never z).elim) hg Z.g ha hdb he hpl
  unfold mRaiseF at e1
  split at e1
  · rename_i ds S1 q
    split at e1
    · rename_i hd
      cases e1
      refine (ps_raise hc (T.tk _ k1) mk).run pins s σ H D I ⟨φ, G, g, S, _, _, w, sl, q, fun φ1 G1 H1 st1 w1 vs hvs => ?_⟩
      match ds, hd with
      | [d, d'], hd =>
        obtain ⟨v, r, rfl, hv, hr'⟩ := hvs.cons_inv
        obtain ⟨v', r', rfl, hv', hr''⟩ := hr'.cons_inv
        rw [hr''.nil_inv]
        refine ⟨by simp, fun a0 n0 => ⟨a0, v, v', rfl, upd_same, fun dx hdx hne => ?_⟩⟩
        rw [upd_ne hne] at hdx
        refine ⟨rfl, dx, _, by rw [upd_ne (Ne.symm hne), upd_same], upd_same, hdx, ?_⟩
        rw [drop_eq (C := 0) (fs := []) (fs' := []) n0 hdx hne (fun b h1 h2 => by rw [upd_ne h2, upd_ne h1, upd_ne h2, upd_ne h1])]
        have rr : refsLt 0 d = true ∧ refsLt 0 d' = true := by simpa [refsLts] using hd.2
        refine ⟨φ1, upd G1 dx (.xd [(f2, v'), (f, v)]), ⟨st1.trans (fresh_step w1 hdx _), fresh_wd w1 hdx _, rfl, .inr ⟨dx, _, rfl, upd_same, v', [(f, v)], rfl, ?_, v, [], rfl, ?_, rfl⟩⟩, sl.step (st1.trans (fresh_step w1 hdx _))⟩
        · exact (hv'.cut (n := 0) rr.2).mono (by simp) (Ex.new (w1.gnone hdx))
        · exact (hv.cut (n := 0) rr.1).mono (by simp) (Ex.new (w1.gnone hdx))
    · cases e1
  · rename_i c' fs S1 q
    cases e1
    exact (ps_raise (W := fun _ _ _ _ => False) hc takes0 mk).run pins s σ H D I ⟨φ, G, g, S, _, _, w, sl, q, k1⟩
  · cases e1
end
end Mi
namespace Mi
open PySem L2
/-! ### instances: fields -/
def fldOf (ok : Nat → Bool) (f : Str) (S : Store) : D → Option D
  | .ref i => match S[i]? with
    | some (.ins c fs) => if ok c = true then fs.lookup f else none
    | _ => none
  | _ => none
def putD (f : Str) (d : D) : List (Str × D) → List (Str × D)
  | [] => [(f, d)]
  | (g, e) :: r => if g = f then (g, d) :: r else (g, e) :: putD f d r
section
variable {K : PySem.W.Frag} {cl : Cl} {φ : List Addr} {G H : Hp} {S : Store}
theorem fsD_put {f : Str} {d : D} {v : V} (hv : IsD K φ G d v) : ∀ {fs : List (Str × D)} {fv : List (Str × V)}, FsD K φ G fs fv → FsD K φ G (putD f d fs) (putF f v fv)
  | [], _, h => by subst h; exact ⟨v, [], rfl, hv, rfl⟩
  | (n, e) :: fs, _, ⟨u, r, h1, h2, h3⟩ => by
    subst h1
    unfold putD putF
    by_cases q : n = f
    · simp only [q, if_true]
      exact ⟨v, r, by simp, hv, h3⟩
    · simp only [q, if_false]
      exact ⟨u, putF f v r, by simp [q], h2, fsD_put hv h3⟩
theorem fsD_len : ∀ {fs : List (Str × D)} {fv : List (Str × V)}, FsD K φ G fs fv → fs.length = fv.length
  | [], _, h => by subst h; rfl
  | (n, e) :: fs, _, ⟨u, r, h1, h2, h3⟩ => by subst h1; simp [fsD_len h3]
theorem fsD_none {f : Str} : ∀ {fs : List (Str × D)} {fv : List (Str × V)}, FsD K φ G fs fv → fs.lookup f = none → fv.lookup f = none
  | [], _, h, _ => by subst h; rfl
  | (n, e) :: fs, _, ⟨u, r, h1, h2, h3⟩, q => by
    subst h1
    rw [List.lookup_cons] at q ⊢
    split at q
    · cases q
    · exact fsD_none h3 q
end
section
variable {X : Cx} {cl : Cl} {tk : WX → Prop} [T : Tk X tk]
theorem re_fld {ok : Nat → Bool} {e : Expr} {f : Str} {pos : Pos} {m : M D} (hc : ∀ c, ok c = true → L2.Cls X.K (cl.at_ c) ∧ NoAttr X.K (cl.at_ c) f) (he : RE X cl tk e m) (hb : attributeBase e f X.env (eval e X.env) = eval e X.env := by rfl) :
    RE X cl tk (.Attribute e f pos) (mOp1 (fun S d => fldOf ok f S d) m) := by
  refine pe_imp (pe_fld he hb) fun σ H Q ⟨φ, G, g, S, r, S', w, s, e, k⟩ => ?_
  refine tM_bind T.ok w s e k fun d φ1 G1 H1 S1 v st1 w1 s1 hv' e1 k1 => ?_
  obtain ⟨z, ez, rfl, rfl⟩ := mL_ok e1
  have ez : fldOf ok f S' d = some z := ez
  unfold fldOf at ez
  split at ez
  · rename_i i
    split at ez
    · rename_i c fs hS
      split at ez
      · rename_i hok
        simp only [IsD] at hv'
        obtain ⟨a, rfl, ha⟩ := hv'
        obtain ⟨dx, fv, h1, h2⟩ := w1.ok _ _ _ hS ha
        obtain ⟨v, e1, e2⟩ := fsD_get h2 ez
        obtain ⟨q1, q2⟩ := hc c hok
        exact ⟨a, _, dx, fv, v, rfl, h1, q1, q2, e1, k1.now w1 v e2⟩
      · cases ez
    · cases ez
  · cases ez
def mSetF (ok : Nat → Bool) (f : Str) (mo mv : M D) : MS := fun g S => match mv g S with
  | some (.ok d, S1) => match mo g S1 with
    | some (.ok (.ref i), S2) => match S2[i]? with
      | some (.ins c fs) => if ok c = true ∧ fs.length < 1000 then some (.nx g, S2.set i (.ins c (putD f d fs))) else none
      | _ => none
    | some (.exc c fs, S2) => some (.ex g c fs, S2)
    | _ => none
  | some (.exc c fs, S1) => some (.ex g c fs, S1)
  | none => none
theorem rs_fld {ok : Nat → Bool} {o value : Expr} {f : Str} {pos pos' : Pos} {mo mv : M D} (hc : ∀ c, ok c = true → L2.Cls X.K (cl.at_ c) ∧ NoAttr X.K (cl.at_ c) f) (ho : RE X cl tk o mo) (hv : RE X cl tk value mv)
    (hs : swapsWith value (some (.Attribute o f pos')) pos.line X.env = pure false := by rfl) : RS X cl tk (.Assign [.Attribute o f pos'] value pos) (mSetF ok f mo mv) := by
  refine ps_imp (ps_fld ho hv hs) fun Dn σ H ⟨φ, G, g, S, out, S', w, s, e, k⟩ => ?_
  unfold mSetF at e
  split at e
  · rename_i d S1 q1
    refine ⟨φ, G, g, S, _, _, w, s, q1, fun φ1 G1 H1 st1 w1 y hy => ?_⟩
    have s1 := s.step st1
    have k1 := k.step T.ok st1
    split at e
    · rename_i i S2 q2
      refine ⟨φ1, G1, g, S1, _, _, w1, s1, q2, fun φ2 G2 H2 st2 w2 x hx => ?_⟩
      have k2 := k1.step T.ok st2
      split at e
      · rename_i c fs hS
        split at e
        · rename_i hok
          cases e
          simp only [IsD] at hx
          obtain ⟨a, rfl, ha⟩ := hx
          obtain ⟨dx, fv, h1, h2⟩ := w2.ok _ _ _ hS ha
          obtain ⟨z1, z2⟩ := hc c hok.1
          refine ⟨a, _, dx, fv, rfl, h1, z1, z2, by rw [← fsD_len h2]; exact hok.2, ?_⟩
          have st3 := write_step w2 ha (.ins (cl.at_ c) dx (putF f y fv))
          exact k2 _ _ _ st3 (write_wd w2 hS rfl ha ⟨dx, _, upd_same, fsD_put (hy.mono st2.pre st2.ex) h2⟩) _ (s1.step (st2.trans st3))
        · cases e
      · cases e
    · rename_i c fs S2 q2
      cases e
      exact ⟨φ1, G1, g, S1, _, _, w1, s1, q2, k1⟩
    · cases e
  · rename_i c fs S1 q1
    cases e
    exact ⟨φ, G, g, S, _, _, w, s, q1, k⟩
  · cases e
end
end Mi
namespace Mi
open PySem L2
/-! ### methods -/
/-- where class c's method m stands and what it promises -/
def MethOk (X : Cx) (cl : Cl) (k : Nat) (m : Str) (c : Nat) (mf : MF) : Prop := ∃ f fd ps, L2.Cls X.K (cl.at_ c) ∧ L2.Meth X.K (cl.at_ c) m f ∧ L2.Binds X.K fd ps [] ∧ FnOk X.prog X.w X.K X.mg X.base (L2.CX X.prog X.w) k f fd ps (spM X.K cl mf)
def mMeth (tab : Nat → Option MF) (m : Str) (mo : M D) (ma : M (List D)) : M D := fun g S => match mo g S with
  | some (.ok (.ref i), S1) => match S1[i]? with
    | some (.ins c fs) => if fs.lookup m = none then match tab c with
      | some mf => match ma g S1 with
        | some (.ok ds, S2) => mf (.ref i :: ds) S2
        | some (.exc c fs, S2) => some (.exc c fs, S2)
        | none => none
      | none => none else none
    | _ => none
  | some (.exc c fs, S1) => some (.exc c fs, S1)
  | _ => none
section
variable {X : Cx} {cl : Cl} {tk : WX → Prop} [T : Tk X tk]
theorem mMeth_ok {tab : Nat → Option MF} {m : Str} {mo : M D} {ma : M (List D)} {g : Gm} {S S' : Store} {r : R D} (e : mMeth tab m mo ma g S = some (r, S')) :
    (∃ i S1 c fs mf, mo g S = some (.ok (.ref i), S1) ∧ S1[i]? = some (.ins c fs) ∧ fs.lookup m = none ∧ tab c = some mf ∧ ((∃ ds S2, ma g S1 = some (.ok ds, S2) ∧ mf (.ref i :: ds) S2 = some (r, S')) ∨ ∃ c' fs', ma g S1 = some (.exc c' fs', S') ∧ r = .exc c' fs')) ∨
      ∃ c fs, mo g S = some (.exc c fs, S') ∧ r = .exc c fs := by
  unfold mMeth at e
  split at e
  · rename_i i S1 q1
    split at e
    · rename_i c fs q2
      split at e
      · rename_i q3
        split at e
        · rename_i mf q4
          refine .inl ⟨i, S1, c, fs, mf, q1, q2, q3, q4, ?_⟩
          split at e
          · rename_i ds S2 q5; exact .inl ⟨ds, S2, q5, e⟩
          · rename_i c' fs' S2 q5; cases e; exact .inr ⟨c', fs', q5, rfl⟩
          · cases e
        · cases e
      · cases e
    · cases e
  · rename_i c fs S1 q1; cases e; exact .inr ⟨c, fs, q1, rfl⟩
  · cases e
theorem re_meth {k : Nat} {tab : Nat → Option MF} {o e : Expr} {es : List Expr} {m : Str} {apos pos : Pos} {pl : Sem Bool} {mo : M D} {ma : M (List D)} (ht0 : ∀ c mf, tab c = some mf → MethOk X cl k m c mf) (hr : Room k X.A) (ho : RE X cl tk o mo) (ha : RA X cl tk (e :: es) ma)
    (hst : starEach (e :: es) X.env = (false, eval e X.env) :: starEach es X.env := by rfl) (hpl : (backTo pos (starEach es X.env)).any (·.1) = false := by rfl)
    (ht : eval (.Call (.Attribute o m apos) (e :: es) [] pos) X.env = (do
      let ov ← eval o X.env
      standAt apos.atName
      let (f, first) ← holding [ov] (getMethod ov m pl)
      callWith pos f first (backTo pos (starEach (e :: es) X.env)) (backToKw pos (keywordEach [] X.env))) := by rfl) :
    RE X cl tk (.Call (.Attribute o m apos) (e :: es) [] pos) (mMeth tab m mo ma) := by
  refine ⟨fun pins s σ H Q I ⟨φ, G, g, S, r, S', w, sl, e1, kq⟩ => ?_⟩
  rcases mMeth_ok e1 with ⟨i, S1, c, fs, mf, q1, q2, q3, q4, q5⟩ | ⟨c, fs, q1, rfl⟩
  · obtain ⟨f, fd, ps, hc, hm, hb, F⟩ := ht0 c mf q4
    refine PySem.W.methodCall_KW (pl := pl) (thn (ho.run pins s σ H (fun x H1 => ∃ φ1 G1 a, x = .ref a ∧ φ1[i]? = some a ∧ Step φ G H φ1 G1 H1 ∧ Wd X.K cl φ1 S1 G1 H1) I ⟨φ, G, g, S, _, _, w, sl, q1, fun φ1 G1 H1 st w1 v hv => ?_⟩) fun u s1 ⟨x, H1, I1, rx, φ1, G1, a, ex, ea, st, w1⟩ => ?_) ht
    · simp only [IsD] at hv
      obtain ⟨a, rfl, ha⟩ := hv
      exact ⟨φ1, G1, a, rfl, ha, st, w1⟩
    · subst ex
      have eu : u = Value.ref a := rx
      subst eu
      obtain ⟨dx, fv, h1, h2⟩ := w1.ok _ _ _ q2 ea
      refine getmeth_ok I1 h1 hc hm (fsD_none h2 q3) ?_
      refine PySem.W.callWith_K (first := [.ref a]) (h₀ := X.base) I.ok.mod.kin hm.kp (thn (ha.run pos pins s1 σ H1 (fun vs H2 => ∃ φ2 G2 ds S2, Step φ1 G1 H1 φ2 G2 H2 ∧ Wd X.K cl φ2 S2 G2 H2 ∧ IsDs X.K φ2 G2 ds vs ∧ mf (.ref i :: ds) S2 = some (r, S')) I1 ?_) fun us s2 ⟨vs, H2, I2, r2, φ2, G2, ds, S2, st2, w2, hds, e2⟩ => ⟨I2.kIn, ?_⟩) hst hpl
      · rcases q5 with ⟨ds, S2, q5, q6⟩ | ⟨c', fs', q5, rfl⟩
        · exact ⟨φ1, G1, g, S1, _, _, w1, sl.step st, q5, fun φ2 G2 H2 st2 w2 vs hvs => ⟨φ2, G2, ds, S2, st2, w2, hvs, q6⟩⟩
        · exact ⟨φ1, G1, g, S1, _, _, w1, sl.step st, q5, kq.step T.ok st⟩
      · have hd : IsDs X.K φ2 G2 (.ref i :: ds) (.ref a :: vs) := .cons (by simp only [IsD]; exact ⟨a, rfl, pre_get st2.pre ea⟩) hds
        exact run_fnM (us := .ref a :: us) (vs := .ref a :: vs) (dds := []) F hr hb .nil .nil I2 (.cons rfl r2) (sl.step (st.trans st2)) w2 hd (by rw [List.append_nil]; exact e2) (kq.step T.ok (st.trans st2))
  · refine PySem.W.methodCall_KW (pl := pl) (thn (ho.run pins s σ H (fun _ _ => False) I ⟨φ, G, g, S, _, _, w, sl, q1, kq⟩) fun u s1 ⟨x, H1, I1, rx, z⟩ => z.elim) ht
theorem re_meth0 {k : Nat} {tab : Nat → Option MF} {o : Expr} {m : Str} {apos pos : Pos} {pl : Sem Bool} {mo : M D} (ht0 : ∀ c mf, tab c = some mf → MethOk X cl k m c mf) (hr : Room k X.A) (ho : RE X cl tk o mo)
    (ht : eval (.Call (.Attribute o m apos) [] [] pos) X.env = (do
      let ov ← eval o X.env
      standAt apos.atName
      let (f, first) ← holding [ov] (getMethod ov m pl)
      callWith pos f first (backTo pos (starEach [] X.env)) (backToKw pos (keywordEach [] X.env))) := by rfl) :
    RE X cl tk (.Call (.Attribute o m apos) [] [] pos) (mMeth tab m mo mNil) := by
  refine ⟨fun pins s σ H Q I ⟨φ, G, g, S, r, S', w, sl, e1, kq⟩ => ?_⟩
  rcases mMeth_ok e1 with ⟨i, S1, c, fs, mf, q1, q2, q3, q4, q5⟩ | ⟨c, fs, q1, rfl⟩
  · obtain ⟨f, fd, ps, hc, hm, hb, F⟩ := ht0 c mf q4
    refine PySem.W.methodCall_KW (pl := pl) (thn (ho.run pins s σ H (fun x H1 => ∃ φ1 G1 a, x = .ref a ∧ φ1[i]? = some a ∧ Step φ G H φ1 G1 H1 ∧ Wd X.K cl φ1 S1 G1 H1) I ⟨φ, G, g, S, _, _, w, sl, q1, fun φ1 G1 H1 st w1 v hv => ?_⟩) fun u s1 ⟨x, H1, I1, rx, φ1, G1, a, ex, ea, st, w1⟩ => ?_) ht
    · simp only [IsD] at hv
      obtain ⟨a, rfl, ha⟩ := hv
      exact ⟨φ1, G1, a, rfl, ha, st, w1⟩
    · subst ex
      have eu : u = Value.ref a := rx
      subst eu
      obtain ⟨dx, fv, h1, h2⟩ := w1.ok _ _ _ q2 ea
      refine getmeth_ok I1 h1 hc hm (fsD_none h2 q3) ?_
      have q6 : mf [.ref i] S1 = some (r, S') := by
        rcases q5 with ⟨ds, S2, q5, q6⟩ | ⟨c', fs', q5, _⟩
        · cases (show some (Mi.R.ok ([] : List D), S1) = some (.ok ds, S2) from q5); exact q6
        · cases (show some (Mi.R.ok ([] : List D), S1) = some (.exc c' fs', S') from q5)
      have hd : IsDs X.K φ1 G1 [.ref i] [.ref a] := .cons (by simp only [IsD]; exact ⟨a, rfl, ea⟩) .nil
      exact PySem.W.callWith_K0 (first := [.ref a]) I1.kIn hm.kp (run_fnM (us := [.ref a]) (vs := [.ref a]) (dds := []) F hr hb .nil .nil I1 (.cons rfl .nil) (sl.step st) w1 hd (by rw [List.append_nil]; exact q6) (kq.step T.ok st))
  · refine PySem.W.methodCall_KW (pl := pl) (thn (ho.run pins s σ H (fun _ _ => False) I ⟨φ, G, g, S, _, _, w, sl, q1, kq⟩) fun u s1 ⟨x, H1, I1, rx, z⟩ => z.elim) ht
end
end Mi
namespace Mi
open PySem L2
/-! ### an instance is made -/
/-- class c, made by its __init__ mf: a new cell -/
def mMake (c : Nat) (mf : MF) (ma : M (List D)) : M D := mB ma fun ds => fun _ S => match mf (.ref S.length :: ds) (S ++ [.ins c []]) with
  | some (.ok .non, S') => some (.ok (.ref S.length), S')
  | some (.exc c' fs, S') => some (.exc c' fs, S')
  | _ => none
section
variable {K : PySem.W.Frag} {cl : Cl}
/-- the world with a new instance: its dict is stable -/
theorem made_step {φ : List Addr} {S : Store} {G H : Hp} (w : Wd K cl φ S G H) {x dx : Addr} (hx : H x = none) (hd : H dx = none) (ne : dx ≠ x) (o : HO) :
    Step φ G H (φ ++ [x]) (upd G dx (.own x)) (upd (upd H dx (.own x)) x o) :=
  (fresh_step w hd (.own x)).trans (cell_step (fresh_wd w hd (.own x)) (p := x) (by rw [upd_ne (Ne.symm ne)]; exact hx) o)
theorem made_wd {φ : List Addr} {S : Store} {G H : Hp} (w : Wd K cl φ S G H) {x dx : Addr} (hx : H x = none) (hd : H dx = none) (ne : dx ≠ x) (c : Nat) :
    Wd K cl (φ ++ [x]) (S ++ [.ins c []]) (upd G dx (.own x)) (upd (upd H dx (.own x)) x (.ins (cl.at_ c) dx [])) :=
  cell_wd (fresh_wd w hd (.own x)) (p := x) (by rw [upd_ne (Ne.symm ne)]; exact hx) fun φ' G' H' _ _ h => ⟨dx, [], h, rfl⟩
end
section
variable {X : Cx} {cl : Cl} {tk : WX → Prop} [T : Tk X tk]
theorem run_mk {k : Nat} {f : Addr} {fd : FuncData} {ps : List Str} {mf : MF} {c : Nat} {ds : List D} {us : List Value} {vs : List V} {pins : List (Addr × Obj)} {σ : L2.St} {φ : List Addr} {S S' : Store} {G H : Hp} {s : Shared} {r : R D} {Q : VK} {g : Gm}
    (M : L2.Mk X.K (cl.at_ c) f) (F : FnOk X.prog X.w X.K X.mg X.base (L2.CX X.prog X.w) k f fd ps (spM X.K cl mf)) (hr : Room (k + 1) X.A) (hb : L2.Binds X.K fd ps [])
    (I : Inv X pins σ H s) (rv : Vals vs us) (sl : Sl X.K cl φ G g σ) (w : Wd X.K cl φ S G H) (h : IsDs X.K φ G ds vs)
    (e : (match mf (.ref S.length :: ds) (S ++ [.ins c []]) with
      | some (.ok .non, S') => some (R.ok (D.ref S.length), S')
      | some (.exc c' fs, S') => some (.exc c' fs, S')
      | _ => none) = some (r, S'))
    (kq : Ko X.K cl tk φ G H g r S' fun φ' G' H' d => ∀ v, IsD X.K φ' G' d v → Q v H') :
    wpAny (model X.prog X.w) X.A (call (.ref (cl.at_ c)) us) (EP X pins σ Q) X.xe s := by
  have nx : H (s.heap.objs.size + 1) = none := I.hok.fresh (Nat.le_succ _)
  have nd : H s.heap.objs.size = none := I.hok.fresh (Nat.le_refl _)
  have ne : s.heap.objs.size ≠ s.heap.objs.size + 1 := Nat.ne_of_lt (Nat.lt_succ_self _)
  have st := made_step w nx nd ne (.ins (cl.at_ c) s.heap.objs.size [])
  have w1 := made_wd w nx nd ne c
  have I2 := Inv.made (C := cl.at_ c) I
  have r2 : Vals (V.ref (s.heap.objs.size + 1) :: vs) (Value.ref (s.heap.objs.size + 1) :: us) := .cons rfl rv
  have hnew : (φ ++ [s.heap.objs.size + 1])[S.length]? = some (s.heap.objs.size + 1) := by
    rw [← w.len, List.getElem?_append_right (Nat.le_refl _)]; simp
  have hds : IsDs X.K (φ ++ [s.heap.objs.size + 1]) (upd G s.heap.objs.size (.own (s.heap.objs.size + 1))) (.ref S.length :: ds) (V.ref (s.heap.objs.size + 1) :: vs) :=
    .cons (by simp only [IsD]; exact ⟨_, rfl, hnew⟩) (h.mono st.pre st.ex)
  let E : XK := fun cls d H' => ∃ c' fs φ' G', r = .exc c' fs ∧ wE X.K cl φ G H S' c' fs cls d φ' G' H'
  have sp : spM X.K cl mf (V.ref (s.heap.objs.size + 1) :: vs) (upd (upd H s.heap.objs.size (.own (s.heap.objs.size + 1))) (s.heap.objs.size + 1) (.ins (cl.at_ c) s.heap.objs.size [])) (fun v H2 => v = .non ∧ Q (.ref (s.heap.objs.size + 1)) H2) E := by
    split at e
    · rename_i S1 q
      cases e
      refine ⟨_, _, _, _, _, _, w1, hds, q, fun φ' G' H' st' w' v hv => ?_⟩
      simp only [IsD] at hv
      refine ⟨hv, kq φ' G' H' (st.trans st') w' _ ?_⟩
      simp only [IsD]
      exact ⟨_, rfl, pre_get st'.pre hnew⟩
    · rename_i c' fs S1 q
      cases e
      exact ⟨_, _, _, _, _, _, w1, hds, q, fun cls dd φ' G' H' z => ⟨c', fs, φ', G', rfl, st.trans z.1, z.2⟩⟩
    · cases e
  have hl : (Value.ref (s.heap.objs.size + 1) :: us ++ []).length = ps.length := by
    rw [List.append_nil, ← r2.length]; exact F.len _ _ _ _ sp
  have hbd := hb _ (Value.ref (s.heap.objs.size + 1) :: us) I2.kIn hl
  rw [List.append_nil] at hbd
  refine wpAny_call (make_map (f := f) I.kIn M.makes M.init (beq_iff_eq.mp M.fn) (codeAny_mono (F.run _ X.stack _ _ ⟨Value.ref (s.heap.objs.size + 1) :: us, []⟩ (Value.ref (s.heap.objs.size + 1) :: us) _ _ E (hr.make (cl.at_ c) us [])
    (I2.env0.make (cl.at_ c) us []) hbd r2 sp) fun rr s' hq' => ?_))
  cases rr with
  | error er =>
    cases r with
    | ok d =>
      obtain ⟨_, _, _, _, _, _, _, _, _, _, _, _, _, _, _, _, z, _⟩ := (show L2.CX X.prog X.w X.stack _ _ E er s' from hq')
      cases z
    | exc c' fs =>
      refine T.tk _ kq er s' (XE.of_call (E := E) I2 (fun cls d H' ⟨c2, fs2, φ', G', z, q⟩ => ?_) hq')
      cases z
      exact ⟨φ', G', q, sl.step q.1⟩
  | ok fl =>
    cases fl with
    | ret u =>
      obtain ⟨v, H', I3, rv3, ev, q3⟩ := I2.after hq'
      subst ev
      exact ⟨rv3, ⟨V.ref (s.heap.objs.size + 1), H', I3, rfl, q3⟩⟩
    | next => exact False.elim hq'
    | brk => exact False.elim hq'
    | cont => exact False.elim hq'
theorem re_make {k : Nat} {f : Addr} {fd : FuncData} {ps : List Str} {mf : MF} {c : Nat} {x : Str} {p pos : Pos} {e : Expr} {es : List Expr} {ma : M (List D)} (M : L2.Mk X.K (cl.at_ c) f) (hm : X.mg x = some (.ref (cl.at_ c)))
    (F : FnOk X.prog X.w X.K X.mg X.base (L2.CX X.prog X.w) k f fd ps (spM X.K cl mf)) (hr : Room (k + 1) X.A) (hb : L2.Binds X.K fd ps []) (ha : RA X cl tk (e :: es) ma) (hg : Gl X x := by rfl) (hdb : (x == ("__debug__" : Str)) = false := by decide)
    (he : starEach (e :: es) X.env = (false, eval e X.env) :: starEach es X.env := by rfl) (hpl : (backTo pos (starEach es X.env)).any (·.1) = false := by rfl) : RE X cl tk (.Call (.Name x p) (e :: es) [] pos) (mMake c mf ma) := by
  refine ⟨fun pins s σ H Q I ⟨φ, G, g, S, r, S', w, sl, e1, kq⟩ => ?_⟩
  refine wpAny_Call_Name_kw (ld_glob I hg hm ?_ hdb)
  refine PySem.W.callWith_K (h₀ := X.base) I.ok.mod.kin M.kp (thn (ha.run pos pins s σ H (fun vs H1 => ∃ φ1 G1 S1 ds, Sl X.K cl φ1 G1 g σ ∧ Wd X.K cl φ1 S1 G1 H1 ∧ IsDs X.K φ1 G1 ds vs ∧
    (match mf (.ref S1.length :: ds) (S1 ++ [.ins c []]) with
      | some (.ok .non, S') => some (R.ok (D.ref S1.length), S')
      | some (.exc c' fs, S') => some (.exc c' fs, S')
      | _ => none) = some (r, S') ∧ Ko X.K cl tk φ1 G1 H1 g r S' fun φ' G' H' d => ∀ v, IsD X.K φ' G' d v → Q v H') I ?_) fun us s1 ⟨vs, H1, I1, rv, φ1, G1, S1, ds, sl1, w1, hds, e2, k2⟩ => ⟨I1.kIn, ?_⟩) he hpl
  · exact tMA_bind T.ok w sl e1 kq fun d φ1 G1 H1 S1 v st1 w1 s1 hx e2 k2 => ⟨φ1, G1, S1, d, s1, w1, hx, e2, k2⟩
  · exact run_mk M F hr hb I1 rv sl1 w1 hds e2 k2
end
end Mi
namespace Mi
open PySem L2
/-! ### own dunders -/
section
variable {X : Cx} {cl : Cl} {tk : WX → Prop} [T : Tk X tk]
/-- a call of a def at a place A' of the same frames -/
theorem run_fnA {A' : Around} (hA : A'.frames = X.A.frames) {k : Nat} {f : Addr} {fd : FuncData} {ps : List Str} {mf : MF} {ds : List D} {us : List Value} {vs : List V} {pins : List (Addr × Obj)} {σ : L2.St} {φ : List Addr} {S S' : Store} {G H : Hp} {s : Shared} {r : R D} {Q : VK}
    (F : FnOk X.prog X.w X.K X.mg X.base (L2.CX X.prog X.w) k f fd ps (spM X.K cl mf)) (hr : Room k A') (hb : L2.Binds X.K fd ps [])
    (I : Inv X pins σ H s) (rv : Vals vs us) {g : Gm} (sl : Sl X.K cl φ G g σ) (w : Wd X.K cl φ S G H) (h : IsDs X.K φ G ds vs) (e : mf ds S = some (r, S')) (kq : Ko X.K cl tk φ G H g r S' fun φ' G' H' d => ∀ v, IsD X.K φ' G' d v → Q v H') :
    wpAny (model X.prog X.w) A' (call (.ref f) us) (EP X pins σ Q) X.xe s := by
  let E : XK := EofR X.K cl φ G H S' r
  have sp : spM X.K cl mf vs H Q E := by
    refine ⟨φ, G, S, ds, r, S', w, h, e, ?_⟩
    cases r with
    | ok d => exact kq
    | exc c fs => exact fun cls dd φ' G' H' q => ⟨φ', G', q⟩
  have hl : us.length = ps.length := by rw [← rv.length]; exact F.len _ _ _ _ sp
  have hbd := hb s us I.kIn (by rw [List.append_nil]; exact hl)
  rw [List.append_nil] at hbd
  have e0 := I.env0
  refine wpAny_call (codeAny_mono (F.run A' X.stack s H ⟨us, []⟩ us vs Q E hr ⟨hA.trans e0.frames, e0.mod, e0.bs, e0.bsz, e0.funs, e0.frf, e0.hok, e0.bare⟩ hbd rv sp) fun r' s' hq => ?_)
  cases r' with
  | error e' =>
    cases r with
    | ok d =>
      obtain ⟨_, _, _, _, _, _, _, _, _, _, _, _, z⟩ := (show L2.CX X.prog X.w X.stack H s E e' s' from hq)
      exact z.elim
    | exc c fs => exact T.tk _ kq e' s' (XE.of_call (E := EofR X.K cl φ G H S' (.exc c fs)) I (fun cls d H' ⟨φ', G', q⟩ => ⟨φ', G', q, sl.step q.1⟩) hq)
  | ok fl =>
    cases fl with
    | ret u => exact I.after hq
    | next => exact False.elim hq
    | brk => exact False.elim hq
    | cont => exact False.elim hq
/-- o[k]: an own __getitem__, or what o[k] was -/
noncomputable def mIxA (tab : Nat → Option MF) (mo mk : M D) : M D := fun g S => match mo g S with
  | some (.ok (.ref i), S1) => match S1[i]? with
    | some (.ins _ _) => match mk g S1 with
        | some (.ok d, S2) => match S2[i]? with
          | some (.ins c _) => match tab c with
            | some mf => mf [.ref i, d] S2
            | none => none
          | _ => none
        | some (.exc c fs, S2) => some (.exc c fs, S2)
        | none => none
    | _ => mOp2 fIx mo mk g S
  | _ => mOp2 fIx mo mk g S
/-- class c has the dunder m at f -/
def DunOk (X : Cx) (cl : Cl) (k : Nat) (m : Str) (c : Nat) (mf : MF) : Prop := ∃ f fd ps, PySem.W.findIn X.K (.ref (cl.at_ c)) m = some (some (.ref f)) ∧ PySem.W.isFn X.K (.ref f) = true ∧ PySem.W.fnIn X.K f = true ∧ L2.Binds X.K fd ps [] ∧ FnOk X.prog X.w X.K X.mg X.base (L2.CX X.prog X.w) k f fd ps (spM X.K cl mf)
theorem re_ixA {k : Nat} {tab : Nat → Option MF} {o b : Expr} {pos : Pos} {mo mk : M D} (ht : ∀ c mf, tab c = some mf → DunOk X cl k "__getitem__" c mf) (hr : Room (k + 1) X.A) (ho : RE X cl tk o mo) (hb : RE X cl tk b mk) (hs : PlainIx b := by exact fun _ _ => rfl)
    (hsl : ∀ x i, subscripted b true (.ref x) i = runValue (.builtin "lifetime.subscript" ⟨[.ref x, i], []⟩) := by intro _ _; with_unfolding_all rfl) : RE X cl tk (.Subscript o b pos) (mIxA tab mo mk) := by
  refine ⟨fun pins s σ H Q I ⟨φ, G, g, S, r, S', w, sl, e1, kq⟩ => ?_⟩
  have other : mOp2 fIx mo mk g S = some (r, S') → wpAny (model X.prog X.w) X.A (eval (.Subscript o b pos) X.env) (EP X pins σ Q) X.xe s := fun e => (re_ix (T := T) ho hb hs).run pins s σ H Q I ⟨φ, G, g, S, r, S', w, sl, e, kq⟩
  unfold mIxA at e1
  split at e1
  · rename_i i S1 q1
    split at e1
    · rename_i c0 fs0 q2
      refine PyProof.Rows.Subscript_ (thn (ho.run pins s σ H (fun x H1 => ∃ φ1 G1 a, x = .ref a ∧ φ1[i]? = some a ∧ Step φ G H φ1 G1 H1 ∧ Wd X.K cl φ1 S1 G1 H1) I ⟨φ, G, g, S, _, _, w, sl, q1, fun φ1 G1 H1 st w1 v hv => ?_⟩) fun u s1 ⟨x, H1, I1, rx, φ1, G1, a, ex, ea, st, w1⟩ => ?_)
      · simp only [IsD] at hv
        obtain ⟨a, rfl, ha⟩ := hv
        exact ⟨φ1, G1, a, rfl, ha, st, w1⟩
      · subst ex
        have eu : u = Value.ref a := rx
        subst eu
        have k1 := kq.step T.ok st
        refine thn (hb.run pins s1 σ H1 (fun y H2 => ∃ φ2 G2 d S2 c fs mf, Step φ1 G1 H1 φ2 G2 H2 ∧ Wd X.K cl φ2 S2 G2 H2 ∧ IsD X.K φ2 G2 d y ∧ S2[i]? = some (.ins c fs) ∧ tab c = some mf ∧ mf [.ref i, d] S2 = some (r, S')) I1 ?_) fun iv s2 ⟨y, H2, I2, ry, φ2, G2, d, S2, c, fs, mf, st2, w2, hd, q3, q4, e2⟩ => ?_
        · split at e1
          · rename_i d S2 q5
            split at e1
            · rename_i c fs q6
              split at e1
              · rename_i mf q7
                exact ⟨φ1, G1, g, S1, _, _, w1, sl.step st, q5, fun φ2 G2 H2 st2 w2 v hv => ⟨φ2, G2, d, S2, c, fs, mf, st2, w2, hv, q6, q7, e1⟩⟩
              · cases e1
            · cases e1
          · rename_i c fs S2 q5
            cases e1
            exact ⟨φ1, G1, g, S1, _, _, w1, sl.step st, q5, k1⟩
          · cases e1
        · obtain ⟨f, fd, ps, h1, h2, h3, h4, F⟩ := ht c mf q4
          have ea2 := pre_get st2.pre ea
          obtain ⟨dx, fv, n1, n2⟩ := w2.ok _ _ _ q3 ea2
          obtain ⟨mA, O, _⟩ := ins_get I2.hok n1
          obtain ⟨od, ho', _⟩ := lookIn_ns O.ns
          obtain ⟨m, Fm⟩ := I2.fr
          have J : PySem.W.InstAt s2.heap a (PySem.W.instObj (cl.at_ c) dx) (cl.at_ c) (some od) := ⟨O.obj, rfl, rfl, ho'⟩
          have hds : IsDs X.K φ2 G2 [.ref i, d] [V.ref a, y] := .cons (by simp only [IsD]; exact ⟨a, rfl, ea2⟩) (.cons hd .nil)
          exact PySem.W.sub_K Fm I2.ok.mod.kin J h1 h3 h2 (run_fnA (A' := X.A.in1) rfl (vs := [V.ref a, y]) F hr.in1 h4 I2 (.cons rfl (.cons ry .nil)) (sl.step (st.trans st2)) w2 hds e2 (k1.step T.ok st2)) (hsl _ _)
    · exact other e1
  · exact other e1
end
end Mi
namespace Mi
open PySem L2
/-- x in o, o with an own __contains__ that changes nothing that is known -/
noncomputable def inO (tab : Nat → Option MF) (S : Store) (i c : Nat) (d : D) : Option Bool := (tab c).bind fun mf => match mf [.ref i, d] S with
  | some (.ok (.bl b), S') => if cdec (S' = S) = true then some b else none
  | _ => none
noncomputable def fInA (tab : Nat → Option MF) : Store → D → D → Option D := fun S d e => match e with
  | .ref i => match S[i]? with
    | some (.ins c _) => (inO tab S i c d).map .bl
    | _ => fIn S d e
  | _ => fIn S d e
noncomputable def fNotInA (tab : Nat → Option MF) : Store → D → D → Option D := fun S d e => match e with
  | .ref i => match S[i]? with
    | some (.ins c _) => (inO tab S i c d).map fun b => .bl (!b)
    | _ => fNotIn S d e
  | _ => fNotIn S d e
def rInO (X : Cx) (cl : Cl) (tab : Nat → Option MF) (neg : Bool) : R2 := fun x y H Q => ∃ φ G S i c fs d b, Wd X.K cl φ S G H ∧ IsD X.K φ G d x ∧ IsD X.K φ G (.ref i) y ∧ S[i]? = some (.ins c fs) ∧ inO tab S i c d = some b ∧
  ∀ φ' G' H', Step φ G H φ' G' H' → Wd X.K cl φ' S G' H' → Q (.bl (if neg = true then !b else b)) H'
section
variable {X : Cx} {cl : Cl}
theorem run_inO {k : Nat} {tab : Nat → Option MF} {neg : Bool} (hh : cl.hd = none) (ht : ∀ c mf, tab c = some mf → DunOk X cl k "__contains__" c mf) (hr : Room k X.A) {pins : List (Addr × Obj)} {s : Shared} {σ : L2.St} {H : Hp} {x y : V} {v u : Value} {Q : VK}
    (I : Inv X pins σ H s) (rx : RelV x v) (ry : RelV y u) (h : rInO X cl tab neg x y H Q) :
    ∃ a f C ox od, u = .ref a ∧ PySem.W.InstAt s.heap a ox C od ∧ PySem.W.findIn X.K (.ref C) "__contains__" = some (some (.ref f)) ∧ PySem.W.isFn X.K (.ref f) = true ∧
      ∀ (Q' : Bool → Shared → Prop), (∀ b s', EP X pins σ Q (.bool (if neg = true then !b else b)) s' → Q' b s') →
        wpAny (model X.prog X.w) X.A (call (.ref f) [.ref a, v]) (fun r s' => wpAny (model X.prog X.w) X.A (truthy r) Q' X.xe s') X.xe s := by
  obtain ⟨φ, G, S, i, c, fs, d, b, w, hd, ho, hS, hb, q⟩ := h
  unfold inO at hb
  cases ht' : tab c with
  | none => rw [ht'] at hb; cases hb
  | some mf =>
    rw [ht', Option.bind_some] at hb
    split at hb
    · rename_i b' S' hm
      split at hb
      · rename_i hc
        cases hb
        have eS : S' = S := cdec_iff.mp hc
        subst eS
        obtain ⟨f, fd, ps, h1, h2, h3, h4, F⟩ := ht c mf ht'
        have ho' := ho
        simp only [IsD] at ho'
        obtain ⟨a, rfl, ha⟩ := ho'
        have eu : u = Value.ref a := ry
        subst eu
        obtain ⟨dx, fv, n1, n2⟩ := w.ok _ _ _ hS ha
        obtain ⟨mA, O, _⟩ := ins_get I.hok n1
        obtain ⟨od, ho2, _⟩ := lookIn_ns O.ns
        refine ⟨a, f, _, _, some od, rfl, ⟨O.obj, rfl, rfl, ho2⟩, h1, h2, fun Q' hQ => ?_⟩
        have sl : Sl X.K cl φ G (List.replicate σ.length none) σ := by
          refine ⟨by simp, fun j e z => ?_, fun j e z => ?_⟩
          · rw [List.getElem?_replicate] at z
            split at z <;> cases z
          · rw [hh] at z; cases z
        refine thn (run_fnA (tk := fun _ => False) (A' := X.A) rfl (vs := [V.ref a, x]) (Q := fun v H' => ∃ b, v = V.bl b ∧ Q (.bl (if neg = true then !b else b)) H') F hr h4 I (.cons rfl (.cons rx .nil)) sl w (.cons ho (.cons hd .nil)) hm fun φ' G' H' st w' v hv => ?_) fun r s' ⟨v', H', I', rv', b2, ev, q2⟩ => ?_
        · simp only [IsD] at hv
          exact ⟨_, hv, q φ' G' H' st w'⟩
        · subst ev
          have er : r = Value.bool b2 := rv'
          subst er
          exact wpAny_truthy_bool (hQ b2 s' ⟨.bl (if neg = true then !b2 else b2), H', I', rfl, q2⟩)
      · cases hb
    · cases hb
theorem op_inO {k : Nat} {tab : Nat → Option MF} (hh : cl.hd = none) (ht : ∀ c mf, tab c = some mf → DunOk X cl k "__contains__" c mf) (hr : Room k X.A) : OpR X (compareOp .In) (rInO X cl tab false) := by
  intro pins s σ H x y v u Q I rx ry h
  obtain ⟨a, f, C, ox, od, rfl, J, h1, h2, h3⟩ := run_inO hh ht hr I rx ry h
  obtain ⟨m, Fm⟩ := I.fr
  exact PySem.W.in_K Fm I.ok.mod.kin J h1 h2 (h3 _ fun b s' z => z)
theorem op_notInO {k : Nat} {tab : Nat → Option MF} (hh : cl.hd = none) (ht : ∀ c mf, tab c = some mf → DunOk X cl k "__contains__" c mf) (hr : Room k X.A) : OpR X (compareOp .NotIn) (rInO X cl tab true) := by
  intro pins s σ H x y v u Q I rx ry h
  obtain ⟨a, f, C, ox, od, rfl, J, h1, h2, h3⟩ := run_inO hh ht hr I rx ry h
  obtain ⟨m, Fm⟩ := I.fr
  exact PySem.W.notIn_K Fm I.ok.mod.kin J h1 h2 (h3 _ fun b s' z => z)
theorem fInA_ok {tab : Nat → Option MF} : OpS X.K cl (fun x y H Q => rInO X cl tab false x y H Q ∨ rInA X.K x y H Q) (fInA tab) := fun φ S G H x y d e z Q w h1 h2 h3 k => by
  have other : fIn S d e = some z → rInO X cl tab false x y H Q ∨ rInA X.K x y H Q := fun q => .inr (fIn_rel.op φ S G H x y d e z Q w h1 h2 q k)
  unfold fInA at h3
  split at h3
  · rename_i i
    split at h3
    · rename_i c fs hS
      cases hb : inO tab S i c d with
      | none => rw [hb] at h3; cases h3
      | some b =>
        rw [hb] at h3
        cases h3
        exact .inl ⟨φ, G, S, i, c, fs, d, b, w, h1, h2, hS, hb, fun φ' G' H' st w' => k φ' G' H' st w' _ (by simp only [IsD]; rfl)⟩
    · exact other h3
  · exact other h3
theorem fNotInA_ok {tab : Nat → Option MF} : OpS X.K cl (fun x y H Q => rInO X cl tab true x y H Q ∨ rNotInA X.K x y H Q) (fNotInA tab) := fun φ S G H x y d e z Q w h1 h2 h3 k => by
  have other : fNotIn S d e = some z → rInO X cl tab true x y H Q ∨ rNotInA X.K x y H Q := fun q => .inr (fNotIn_rel.op φ S G H x y d e z Q w h1 h2 q k)
  unfold fNotInA at h3
  split at h3
  · rename_i i
    split at h3
    · rename_i c fs hS
      cases hb : inO tab S i c d with
      | none => rw [hb] at h3; cases h3
      | some b =>
        rw [hb] at h3
        cases h3
        exact .inl ⟨φ, G, S, i, c, fs, d, b, w, h1, h2, hS, hb, fun φ' G' H' st w' => k φ' G' H' st w' _ (by simp only [IsD]; rfl)⟩
    · exact other h3
  · exact other h3
end
end Mi
namespace Mi
open PySem L2
/-- len(o), o with an own __len__ that changes nothing that is known -/
noncomputable def lenO (tab : Nat → Option MF) (S : Store) (i c : Nat) : Option Int := (tab c).bind fun mf => match mf [.ref i] S with
  | some (.ok (.int n), S') => if cdec (S' = S ∧ 0 ≤ n ∧ n < 2 ^ 63) = true then some n else none
  | _ => none
noncomputable def cLenA (tab : Nat → Option MF) : Store → List D → Option D := fun S ds => match ds with
  | [.ref i] => match S[i]? with
    | some (.ins c _) => (lenO tab S i c).map .int
    | _ => cLen S ds
  | _ => cLen S ds
def rLenO (X : Cx) (cl : Cl) (tab : Nat → Option MF) : List V → Hp → VK → Prop := fun xs H Q => ∃ φ G S i c fs n y, xs = [y] ∧ Wd X.K cl φ S G H ∧ IsD X.K φ G (.ref i) y ∧ S[i]? = some (.ins c fs) ∧ lenO tab S i c = some n ∧
  ∀ φ' G' H', Step φ G H φ' G' H' → Wd X.K cl φ' S G' H' → Q (.int n) H'
section
variable {X : Cx} {cl : Cl}
theorem call_lenO {k : Nat} {tab : Nat → Option MF} (hh : cl.hd = none) (ht : ∀ c mf, tab c = some mf → DunOk X cl k "__len__" c mf) (hr : Room (k + 1) X.A) : CallR X (.builtin "len") (rLenO X cl tab) := by
  intro pins s σ H xs us Q I r h
  obtain ⟨φ, G, S, i, c, fs, n, y, rfl, w, ho, hS, hb, q⟩ := h
  unfold lenO at hb
  cases ht' : tab c with
  | none => rw [ht'] at hb; cases hb
  | some mf =>
    rw [ht', Option.bind_some] at hb
    split at hb
    · rename_i n' S' hm
      split at hb
      · rename_i hc
        cases hb
        obtain ⟨eS, n0, n1'⟩ := cdec_iff.mp hc
        subst eS
        obtain ⟨f, fd, ps, h1, h2, h3, h4, F⟩ := ht c mf ht'
        have ho' := ho
        simp only [IsD] at ho'
        obtain ⟨a, rfl, ha⟩ := ho'
        cases r with
        | cons ru rn =>
          cases rn
          cases ru
          obtain ⟨dx, fv, n1, n2⟩ := w.ok _ _ _ hS ha
          obtain ⟨mA, O, _⟩ := ins_get I.hok n1
          obtain ⟨od, ho2, _⟩ := lookIn_ns O.ns
          obtain ⟨m, Fm⟩ := I.fr
          have sl : Sl X.K cl φ G (List.replicate σ.length none) σ := by
            refine ⟨by simp, fun j e z => ?_, fun j e z => ?_⟩
            · rw [List.getElem?_replicate] at z
              split at z <;> cases z
            · rw [hh] at z; cases z
          have J : PySem.W.InstAt s.heap a (PySem.W.instObj (cl.at_ c) dx) (cl.at_ c) (some od) := ⟨O.obj, rfl, rfl, ho2⟩
          refine PySem.W.len_K Fm I.ok.mod.kin J h1 h2 (thn (run_fnA (tk := fun _ => False) (A' := X.A.in1) rfl (vs := [V.ref a]) (Q := fun v H' => v = V.int n ∧ Q (.int n) H') F hr.in1 h4 I (.cons rfl .nil) sl w (.cons ho .nil) hm fun φ' G' H' st w' v hv => ?_) fun r s' ⟨v', H', I', rv', ev, q2⟩ => ?_)
          · simp only [IsD] at hv
            exact ⟨hv, q φ' G' H' st w'⟩
          · subst ev
            obtain ⟨t, rfl⟩ := rv'
            exact ⟨⟨n0, n1'⟩, .int n, H', I'.tok _, ⟨_, rfl⟩, q2⟩
      · cases hb
    · cases hb
theorem cLenA_ok {tab : Nat → Option MF} : CallS X.K cl (fun xs H Q => rLenO X cl tab xs H Q ∨ rLenA X.K xs H Q) (cLenA tab) := fun φ S G H xs ds z Q w h1 h3 k => by
  have other : cLen S ds = some z → rLenO X cl tab xs H Q ∨ rLenA X.K xs H Q := fun q => .inr (cLen_ok φ S G H xs ds z Q w h1 q k)
  unfold cLenA at h3
  split at h3
  · rename_i i
    split at h3
    · rename_i c fs hS
      cases hb : lenO tab S i c with
      | none => rw [hb] at h3; cases h3
      | some n =>
        rw [hb] at h3
        cases h3
        obtain ⟨y, rfl, hy⟩ := flat1 h1
        exact .inl ⟨φ, G, S, i, c, fs, n, y, rfl, w, hy, hS, hb, fun φ' G' H' st w' => k φ' G' H' st w' _ (by simp only [IsD])⟩
    · exact other h3
  · exact other h3
end
end Mi
namespace Mi
open PySem L2
section
/-- o[k] = v by an own __setitem__ -/
theorem setItem_own {M : Model} {A : Around} {E : Value → Shared → Prop} {s : Shared} {K : PySem.W.Frag} {x C f : Addr} {ox : Obj} {od : Option Obj} {kv v : Value} {Q : Unit → Shared → Prop} (X : K.In s.heap) (I : PySem.W.InstAt s.heap x ox C od) (hq : PySem.W.noSeq K C = true)
    (hs : PySem.W.findIn K (.ref C) "__setitem__" = some (some (.ref f))) (hf : PySem.W.isFn K (.ref f) = true) (h : wpAny M A (call (.ref f) [.ref x, kv, v]) (fun _ s' => Q () s') E s) : wpAny M A (setItem (.ref x) kv v) Q E s := by
  unfold setItem sequenceKey
  refine wpAny_holding (wpAny_bind (wpAny_bind (I.type.here ?_)))
  refine wpAny_bind ((PySem.W.anyM_none X hq).here ?_)
  rw [if_pos (show (!false) = true from rfl)]
  exact wpAny_pure (wpAny_bind (PySem.W.special_fn X I hs (beq_iff_eq.mp hf) (wpAny_mono h (fun _ _ z => wpAny_pure z) fun _ _ z => z)))
variable {X : Cx} {cl : Cl} {tk : WX → Prop} [T : Tk X tk]
/-- o[k] = v, o an instance with an own __setitem__ -/
def mSetIx (tab : Nat → Option MF) (mo mk mv : M D) : MS := fun g S => match mv g S with
  | some (.ok d, S1) => match mo g S1 with
    | some (.ok (.ref i), S2) => match mk g S2 with
      | some (.ok e, S3) => match S3[i]? with
        | some (.ins c _) => match tab c with
          | some mf => match mf [.ref i, e, d] S3 with
            | some (.ok _, S4) => some (.nx g, S4)
            | some (.exc c fs, S4) => some (.ex g c fs, S4)
            | none => none
          | none => none
        | _ => none
      | some (.exc c fs, S3) => some (.ex g c fs, S3)
      | none => none
    | some (.exc c fs, S2) => some (.ex g c fs, S2)
    | _ => none
  | some (.exc c fs, S1) => some (.ex g c fs, S1)
  | none => none
theorem rs_setIx {k : Nat} {tab : Nat → Option MF} {o i value : Expr} {pos pos' : Pos} {mo mk mv : M D} (ht : ∀ c mf, tab c = some mf → DunOk X cl k "__setitem__" c mf ∧ PySem.W.noSeq X.K (cl.at_ c) = true) (hr : Room k X.A) (ho : RE X cl tk o mo) (hi : RE X cl tk i mk) (hv : RE X cl tk value mv)
    (hs : swapsWith value (some (.Subscript o i pos')) pos.line X.env = pure false := by rfl) : RS X cl tk (.Assign [.Subscript o i pos'] value pos) (mSetIx tab mo mk mv) := by
  refine ⟨fun pins s σ H Dn I ⟨φ, G, g, S, out, S', w, sl, e, kq⟩ => ?_⟩
  unfold mSetIx at e
  split at e
  · rename_i d S1 q1
    refine PySem.wpAny_Assign_Subscript (thn (hv.run pins s σ H (fun v H1 => ∃ φ1 G1, Step φ G H φ1 G1 H1 ∧ Wd X.K cl φ1 S1 G1 H1 ∧ IsD X.K φ1 G1 d v) I ⟨φ, G, g, S, _, _, w, sl, q1, fun φ1 G1 H1 st1 w1 v hv => ⟨φ1, G1, st1, w1, hv⟩⟩) fun r s1 ⟨v, H1, I1, rv, φ1, G1, st1, w1, hd⟩ => ?_) hs
    split at e
    · rename_i j S2 q2
      refine thn (ho.run pins s1 σ H1 (fun x H2 => ∃ φ2 G2 a, Step φ1 G1 H1 φ2 G2 H2 ∧ Wd X.K cl φ2 S2 G2 H2 ∧ x = .ref a ∧ φ2[j]? = some a) I1 ⟨φ1, G1, g, S1, _, _, w1, sl.step st1, q2, fun φ2 G2 H2 st2 w2 x hx => ?_⟩) fun u s2 ⟨x, H2, I2, rx, φ2, G2, a, st2, w2, ex, ea⟩ => ?_
      · simp only [IsD] at hx
        obtain ⟨a, rfl, ha⟩ := hx
        exact ⟨φ2, G2, a, st2, w2, rfl, ha⟩
      subst ex
      have eu : u = Value.ref a := rx
      subst eu
      split at e
      · rename_i ke S3 q3
        refine thn (hi.run pins s2 σ H2 (fun y H3 => ∃ φ3 G3, Step φ2 G2 H2 φ3 G3 H3 ∧ Wd X.K cl φ3 S3 G3 H3 ∧ IsD X.K φ3 G3 ke y) I2 ⟨φ2, G2, g, S2, _, _, w2, sl.step (st1.trans st2), q3, fun φ3 G3 H3 st3 w3 y hy => ⟨φ3, G3, st3, w3, hy⟩⟩) fun iv s3 ⟨y, H3, I3, ry, φ3, G3, st3, w3, hk⟩ => ?_
        split at e
        · rename_i c fs q4
          split at e
          · rename_i mf q5
            obtain ⟨⟨f, fd, ps, h1, h2, h3, h4, F⟩, hns⟩ := ht c mf q5
            have ea3 := pre_get st3.pre ea
            obtain ⟨dx, fv, n1, n2⟩ := w3.ok _ _ _ q4 ea3
            obtain ⟨mA, O, _⟩ := ins_get I3.hok n1
            obtain ⟨od, ho', _⟩ := lookIn_ns O.ns
            have J : PySem.W.InstAt s3.heap a (PySem.W.instObj (cl.at_ c) dx) (cl.at_ c) (some od) := ⟨O.obj, rfl, rfl, ho'⟩
            have st := (st1.trans st2).trans st3
            have sl3 := sl.step st
            have hds : IsDs X.K φ3 G3 [.ref j, ke, d] [V.ref a, y, v] := .cons (by simp only [IsD]; exact ⟨a, rfl, ea3⟩) (.cons hk (.cons (hd.mono (st2.trans st3).pre (st2.trans st3).ex) .nil))
            have kk := kq.step T.ok st
            split at e
            · rename_i z S4 q6
              cases e
              exact setItem_own I3.kIn J hns h1 h2 (thn (run_fnA (T := T) (A' := X.A) rfl (vs := [V.ref a, y, v]) (Q := fun _ H' => Dn.nx σ H') F hr h4 I3 (.cons rfl (.cons ry (.cons rv .nil))) sl3 w3 hds q6 fun φ' G' H' st' w' _ _ => kk φ' G' H' st' w' σ (sl3.step st')) fun _ s4 ⟨_, H4, I4, _, q⟩ => ⟨σ, H4, I4, q⟩)
            · rename_i c' fs' S4 q6
              cases e
              exact setItem_own I3.kIn J hns h1 h2 (thn (run_fnA (T := T) (A' := X.A) rfl (vs := [V.ref a, y, v]) (Q := fun _ _ => False) F hr h4 I3 (.cons rfl (.cons ry (.cons rv .nil))) sl3 w3 hds q6 kk) fun _ s4 ⟨_, H4, I4, _, q⟩ => q.elim)
            · cases e
          · cases e
        · cases e
      · rename_i c fs S3 q3
        cases e
        exact thn (hi.run pins s2 σ H2 (fun _ _ => False) I2 ⟨φ2, G2, g, S2, _, _, w2, sl.step (st1.trans st2), q3, kq.step T.ok (st1.trans st2)⟩) fun iv s3 ⟨_, _, _, _, z⟩ => z.elim
      · cases e
    · rename_i c fs S2 q2
      cases e
      exact thn (ho.run pins s1 σ H1 (fun _ _ => False) I1 ⟨φ1, G1, g, S1, _, _, w1, sl.step st1, q2, kq.step T.ok st1⟩) fun iv s3 ⟨_, _, _, _, z⟩ => z.elim
    · cases e
  · rename_i c fs S1 q1
    cases e
    exact PySem.wpAny_Assign_Subscript (thn (hv.run pins s σ H (fun _ _ => False) I ⟨φ, G, g, S, _, _, w, sl, q1, kq⟩) fun r s1 ⟨_, _, _, _, z⟩ => z.elim) hs
  · cases e
end
end Mi
namespace Mi
open PySem L2
/-! ### constants of a class, read off an instance -/
/-- o.f, o an instance of a class where f is the constant tab c -/
def conOf (tab : Nat → Option D) (f : Str) (S : Store) : D → Option D
  | .ref i => match S[i]? with
    | some (.ins c fs) => if fs.lookup f = none then tab c else none
    | _ => none
  | _ => none
section
variable {X : Cx} {cl : Cl} {tk : WX → Prop} [T : Tk X tk]
theorem re_con {tab : Nat → Option D} {e : Expr} {f : Str} {pos : Pos} {m : M D} (hc : ∀ c d, tab c = some d → L2.Cls X.K (cl.at_ c) ∧ ∃ v u, L2.Con X.K (cl.at_ c) f v u ∧ ∀ φ G, IsD X.K φ G d v) (he : RE X cl tk e m) (hb : attributeBase e f X.env (eval e X.env) = eval e X.env := by rfl) :
    RE X cl tk (.Attribute e f pos) (mOp1 (fun S d => conOf tab f S d) m) := by
  refine pe_imp (pe_con he hb) fun σ H Q ⟨φ, G, g, S, r, S', w, s, e, k⟩ => ?_
  refine tM_bind T.ok w s e k fun d φ1 G1 H1 S1 v st1 w1 s1 hv' e1 k1 => ?_
  obtain ⟨z, ez, rfl, rfl⟩ := mL_ok e1
  have ez : conOf tab f S' d = some z := ez
  unfold conOf at ez
  split at ez
  · rename_i i
    split at ez
    · rename_i c fs hS
      split at ez
      · rename_i hn
        simp only [IsD] at hv'
        obtain ⟨a, rfl, ha⟩ := hv'
        obtain ⟨dx, fv, h1, h2⟩ := w1.ok _ _ _ hS ha
        obtain ⟨q1, v, u, q2, q3⟩ := hc c z ez
        exact ⟨a, _, dx, fv, v, u, rfl, h1, q1, q2, fsD_none h2 hn, k1.now w1 v (q3 _ _)⟩
      · cases ez
    · cases ez
  · cases ez
end
end Mi
namespace Mi
open PySem L2
/-! ### dicts as cells -/
def keyOf : D → Option Key
  | .int i => some (.inl i)
  | .str s => some (.inr s)
  | _ => none
def keyD : Key → D
  | .inl i => .int i
  | .inr s => .str s
def valD (kvs : List (Key × D)) (k : Key) : Option D := (kvs.find? fun kv => decide (kv.1 = k)).map (·.2)
def putKD (kvs : List (Key × D)) (k : Key) (v : D) : List (Key × D) :=
  if (kvs.any fun kv => decide (kv.1 = k)) = true then kvs.map (fun kv => if kv.1 = k then (kv.1, v) else kv) else kvs ++ [(k, v)]
def dOf (S : Store) (i : Nat) : Option (List (Key × D)) := match S[i]? with
  | some (.dK kvs) => some kvs
  | some (.dF kvs) => some kvs
  | _ => none
section
variable {K : PySem.W.Frag} {cl : Cl} {φ : List Addr} {G H : Hp} {S : Store}
theorem keyOf_ok {d : D} {v : V} {k : Key} (h : IsD K φ G d v) (e : keyOf d = some k) : v = kV k := by
  cases d <;> simp only [keyOf] at e <;> try (cases e; done)
  · cases e; simp only [IsD] at h; exact h
  · cases e; simp only [IsD] at h; exact h
theorem keyD_ok {k : Key} : IsD K φ G (keyD k) (kV k) := by cases k <;> (simp only [keyD, IsD]; rfl)
theorem dOf_ok (w : Wd K cl φ S G H) {i : Nat} {kvs : List (Key × D)} {a : Addr} (h : dOf S i = some kvs) (ha : φ[i]? = some a) : ∃ kws, Rd H a (.dK kws) ∧ KsD K φ G kvs kws := by
  unfold dOf at h
  split at h
  · rename_i l q
    cases h
    obtain ⟨kws, h1, h2⟩ := w.ok _ _ _ q ha
    exact ⟨kws, .inl h1, h2⟩
  · rename_i l q
    cases h
    obtain ⟨o, kws, h1, h2⟩ := w.ok _ _ _ q ha
    exact ⟨kws, .inr ⟨o, w.sub _ _ h1⟩, h2⟩
  · cases h
theorem ksD_len : ∀ {kvs : List (Key × D)} {kws : List (Key × V)}, KsD K φ G kvs kws → kvs.length = kws.length
  | [], _, h => by subst h; rfl
  | (n, e) :: fs, _, ⟨u, r, h1, h2, h3⟩ => by subst h1; simp [ksD_len h3]
theorem ksD_get : ∀ {kvs : List (Key × D)} {kws : List (Key × V)} {i : Nat} {k : Key} {v : V}, KsD K φ G kvs kws → kws[i]? = some (k, v) → ∃ d, kvs[i]? = some (k, d) ∧ IsD K φ G d v
  | [], _, _, _, _, h, e => by subst h; simp at e
  | (n, d) :: fs, _, 0, _, _, ⟨u, r, h1, h2, h3⟩, e => by
    subst h1
    simp at e
    obtain ⟨rfl, rfl⟩ := e
    exact ⟨d, rfl, h2⟩
  | (n, d) :: fs, _, i + 1, _, _, ⟨u, r, h1, h2, h3⟩, e => by
    subst h1
    simpa using ksD_get h3 (by simpa using e)
theorem ksD_val {k : Key} : ∀ {kvs : List (Key × D)} {kws : List (Key × V)}, KsD K φ G kvs kws → (valD kvs k = none ∧ valV kws k = none) ∨ ∃ d v, valD kvs k = some d ∧ valV kws k = some v ∧ IsD K φ G d v
  | [], _, h => by subst h; exact .inl ⟨rfl, rfl⟩
  | (n, e) :: fs, _, ⟨u, r, h1, h2, h3⟩ => by
    subst h1
    by_cases q : n = k
    · exact .inr ⟨e, u, by simp [valD, q], by simp [valV, q], h2⟩
    · have a1 : valD ((n, e) :: fs) k = valD fs k := by simp [valD, q]
      have a2 : valV ((n, u) :: r) k = valV r k := by simp [valV, q]
      rw [a1, a2]
      exact ksD_val h3
theorem ksD_any {k : Key} : ∀ {kvs : List (Key × D)} {kws : List (Key × V)}, KsD K φ G kvs kws → (kvs.any fun kv => decide (kv.1 = k)) = kws.any fun kv => decide (kv.1 = k)
  | [], _, h => by subst h; rfl
  | (n, e) :: fs, _, ⟨u, r, h1, h2, h3⟩ => by
    subst h1
    simp only [List.any_cons]
    rw [ksD_any h3]
theorem ksD_map {k : Key} {d : D} {v : V} (hv : IsD K φ G d v) : ∀ {kvs : List (Key × D)} {kws : List (Key × V)}, KsD K φ G kvs kws → KsD K φ G (kvs.map (fun kv => if kv.1 = k then (kv.1, d) else kv)) (kws.map (fun kv => if kv.1 = k then (kv.1, v) else kv))
  | [], _, h => by subst h; rfl
  | (n, e) :: fs, _, ⟨u, r, h1, h2, h3⟩ => by
    subst h1
    by_cases q : n = k
    · simp only [List.map_cons, q, if_true]
      exact ⟨v, _, rfl, hv, by simpa using ksD_map hv h3⟩
    · simp only [List.map_cons, q, if_false]
      exact ⟨u, _, rfl, h2, by simpa using ksD_map hv h3⟩
theorem ksD_app {k : Key} {d : D} {v : V} (hv : IsD K φ G d v) : ∀ {kvs : List (Key × D)} {kws : List (Key × V)}, KsD K φ G kvs kws → KsD K φ G (kvs ++ [(k, d)]) (kws ++ [(k, v)])
  | [], _, h => by subst h; exact ⟨v, [], rfl, hv, rfl⟩
  | (n, e) :: fs, _, ⟨u, r, h1, h2, h3⟩ => by subst h1; exact ⟨u, _, rfl, h2, ksD_app hv h3⟩
theorem ksD_put {k : Key} {d : D} {v : V} (hv : IsD K φ G d v) {kvs : List (Key × D)} {kws : List (Key × V)} (h : KsD K φ G kvs kws) : KsD K φ G (putKD kvs k d) (putK kws k v) := by
  unfold putKD putK
  rw [ksD_any h]
  split
  · exact ksD_map hv h
  · exact ksD_app hv h
end

/-! ### k in d -/
noncomputable def fInG (tab : Nat → Option MF) : Store → D → D → Option D := fun S d e => match e with
  | .ref i => match dOf S i with
    | some kvs => (keyOf d).map fun k => .bl (valD kvs k).isSome
    | none => fInA tab S d e
  | _ => fInA tab S d e
noncomputable def fNotInG (tab : Nat → Option MF) : Store → D → D → Option D := fun S d e => match e with
  | .ref i => match dOf S i with
    | some kvs => (keyOf d).map fun k => .bl (!(valD kvs k).isSome)
    | none => fNotInA tab S d e
  | _ => fNotInA tab S d e
def rDIn (neg : Bool) : R2 := fun y x H Q => ∃ a kws k, x = .ref a ∧ Rd H a (.dK kws) ∧ y = kV k ∧ Q (.bl (if neg = true then !(valV kws k).isSome else (valV kws k).isSome)) H
section
variable {X : Cx} {cl : Cl}
theorem op_inD' {k : Nat} (hr : Room k X.A) : OpR X (compareOp .In) (rDIn false) := by
  intro pins s σ H x y v u Q I rx ry h
  obtain ⟨a, kws, k, rfl, h1, rfl, q⟩ := h
  have eu : u = Value.ref a := ry
  subst eu
  exact d_in (hu_of hr) I (.inl ⟨kws, k, h1, rfl, rfl⟩) rx fun s3 I3 => ⟨.bl (valV kws k).isSome, H, I3, rfl, q⟩
theorem op_notInD' {k : Nat} (hr : Room k X.A) : OpR X (compareOp .NotIn) (rDIn true) := by
  intro pins s σ H x y v u Q I rx ry h
  obtain ⟨a, kws, k, rfl, h1, rfl, q⟩ := h
  have eu : u = Value.ref a := ry
  subst eu
  exact d_notIn (hu_of hr) I (.inl ⟨kws, k, h1, rfl, rfl⟩) rx fun s3 I3 => ⟨.bl (!(valV kws k).isSome), H, I3, rfl, q⟩
theorem dIn_of {φ : List Addr} {S : Store} {G H : Hp} {x y : V} {d : D} {i : Nat} {kvs : List (Key × D)} {k : Key} {neg : Bool} {Q : VK} (w : Wd X.K cl φ S G H) (h1 : IsD X.K φ G d x) (h2 : IsD X.K φ G (.ref i) y) (hd : dOf S i = some kvs) (hk : keyOf d = some k)
    (q : Q (.bl (if neg = true then !(valD kvs k).isSome else (valD kvs k).isSome)) H) : rDIn neg x y H Q := by
  simp only [IsD] at h2
  obtain ⟨a, rfl, ha⟩ := h2
  obtain ⟨kws, h3, h4⟩ := dOf_ok w hd ha
  refine ⟨a, kws, k, rfl, h3, keyOf_ok h1 hk, ?_⟩
  rcases ksD_val (k := k) h4 with ⟨e1, e2⟩ | ⟨d', v, e1, e2, _⟩
  · rw [e1] at q; rw [e2]; exact q
  · rw [e1] at q; rw [e2]; exact q
theorem fInG_ok {tab : Nat → Option MF} : OpS X.K cl (fun x y H Q => rDIn false x y H Q ∨ rInO X cl tab false x y H Q ∨ rInA X.K x y H Q) (fInG tab) := fun φ S G H x y d e z Q w h1 h2 h3 k => by
  have other : fInA tab S d e = some z → rDIn false x y H Q ∨ rInO X cl tab false x y H Q ∨ rInA X.K x y H Q := fun q => .inr (fInA_ok φ S G H x y d e z Q w h1 h2 q k)
  unfold fInG at h3
  split at h3
  · rename_i i
    split at h3
    · rename_i kvs hd
      cases hk : keyOf d with
      | none => rw [hk] at h3; cases h3
      | some ky =>
        rw [hk] at h3; cases h3
        exact .inl (dIn_of (neg := false) w h1 h2 hd hk (k _ _ _ (Step.refl _ _ _) w _ (by simp only [IsD]; rfl)))
    · exact other h3
  · exact other h3
theorem fNotInG_ok {tab : Nat → Option MF} : OpS X.K cl (fun x y H Q => rDIn true x y H Q ∨ rInO X cl tab true x y H Q ∨ rNotInA X.K x y H Q) (fNotInG tab) := fun φ S G H x y d e z Q w h1 h2 h3 k => by
  have other : fNotInA tab S d e = some z → rDIn true x y H Q ∨ rInO X cl tab true x y H Q ∨ rNotInA X.K x y H Q := fun q => .inr (fNotInA_ok φ S G H x y d e z Q w h1 h2 q k)
  unfold fNotInG at h3
  split at h3
  · rename_i i
    split at h3
    · rename_i kvs hd
      cases hk : keyOf d with
      | none => rw [hk] at h3; cases h3
      | some ky =>
        rw [hk] at h3; cases h3
        exact .inl (dIn_of (neg := true) w h1 h2 hd hk (k _ _ _ (Step.refl _ _ _) w _ (by simp only [IsD]; rfl)))
    · exact other h3
  · exact other h3
theorem op_inG {k : Nat} {tab : Nat → Option MF} (hh : cl.hd = none) (ht : ∀ c mf, tab c = some mf → DunOk X cl k "__contains__" c mf) (hr : Room k X.A) : OpR X (compareOp .In) (fun x y H Q => rDIn false x y H Q ∨ rInO X cl tab false x y H Q ∨ rInA X.K x y H Q) :=
  (op_inD' hr).or ((op_inO hh ht hr).or (op_inA hr))
theorem op_notInG {k : Nat} {tab : Nat → Option MF} (hh : cl.hd = none) (ht : ∀ c mf, tab c = some mf → DunOk X cl k "__contains__" c mf) (hr : Room k X.A) : OpR X (compareOp .NotIn) (fun x y H Q => rDIn true x y H Q ∨ rInO X cl tab true x y H Q ∨ rNotInA X.K x y H Q) :=
  (op_notInD' hr).or ((op_notInO hh ht hr).or (op_notInA hr))

/-! ### len(d) -/
noncomputable def cLenG (tab : Nat → Option MF) : Store → List D → Option D := fun S ds => match ds with
  | [.ref i] => match dOf S i with
    | some kvs => some (.int kvs.length)
    | none => cLenA tab S ds
  | _ => cLenA tab S ds
def rDLen : List V → Hp → VK → Prop := fun xs H Q => ∃ a kws, xs = [.ref a] ∧ Rd H a (.dK kws) ∧ Q (.int kws.length) H
theorem call_lenD : CallR X (.builtin "len") rDLen := by
  intro pins s σ H xs us Q I r h
  obtain ⟨a, kws, rfl, h1, q⟩ := h
  cases r with
  | cons ru rn =>
    cases rn
    cases ru
    exact d_len I h1 fun t s' I' => ⟨.int kws.length, H, I', ⟨t, rfl⟩, q⟩
theorem cLenG_ok {tab : Nat → Option MF} : CallS X.K cl (fun xs H Q => rDLen xs H Q ∨ rLenO X cl tab xs H Q ∨ rLenA X.K xs H Q) (cLenG tab) := fun φ S G H xs ds z Q w h1 h3 k => by
  have other : cLenA tab S ds = some z → rDLen xs H Q ∨ rLenO X cl tab xs H Q ∨ rLenA X.K xs H Q := fun q => .inr (cLenA_ok φ S G H xs ds z Q w h1 q k)
  unfold cLenG at h3
  split at h3
  · rename_i i
    split at h3
    · rename_i kvs hd
      cases h3
      obtain ⟨y, rfl, hy⟩ := flat1 h1
      simp only [IsD] at hy
      obtain ⟨a, rfl, ha⟩ := hy
      obtain ⟨kws, h4, h5⟩ := dOf_ok w hd ha
      refine .inl ⟨a, kws, rfl, h4, ?_⟩
      rw [← ksD_len h5]
      exact k _ _ _ (Step.refl _ _ _) w _ (by simp only [IsD])
    · exact other h3
  · exact other h3
theorem call_lenG {k : Nat} {tab : Nat → Option MF} (hh : cl.hd = none) (ht : ∀ c mf, tab c = some mf → DunOk X cl k "__len__" c mf) (hr : Room (k + 1) X.A) : CallR X (.builtin "len") (fun xs H Q => rDLen xs H Q ∨ rLenO X cl tab xs H Q ∨ rLenA X.K xs H Q) :=
  call_lenD.or ((call_lenO hh ht hr).or call_lenA)
end

/-! ### d[k] -/
noncomputable def mIxG (tab : Nat → Option MF) (mo mk : M D) : M D := fun g S => match mo g S with
  | some (.ok (.ref i), S1) => match dOf S1 i with
    | some _ => match mk g S1 with
      | some (.ok d, S2) => match keyOf d, dOf S2 i with
        | some k, some kvs => (valD kvs k).map fun d => (.ok d, S2)
        | _, _ => none
      | some (.exc c fs, S2) => some (.exc c fs, S2)
      | none => none
    | none => mIxA tab mo mk g S
  | _ => mIxA tab mo mk g S
section
variable {X : Cx} {cl : Cl} {tk : WX → Prop} [T : Tk X tk]
theorem re_ixG {k : Nat} {tab : Nat → Option MF} {o b : Expr} {pos : Pos} {mo mk : M D} (ht : ∀ c mf, tab c = some mf → DunOk X cl k "__getitem__" c mf) (hr : Room (k + 1) X.A) (ho : RE X cl tk o mo) (hb : RE X cl tk b mk) (hs : PlainIx b := by exact fun _ _ => rfl)
    (hsl : ∀ x i, subscripted b true (.ref x) i = runValue (.builtin "lifetime.subscript" ⟨[.ref x, i], []⟩) := by intro _ _; with_unfolding_all rfl) (hn : NoSl b := by exact fun _ _ => rfl) : RE X cl tk (.Subscript o b pos) (mIxG tab mo mk) := by
  refine ⟨fun pins s σ H Q I ⟨φ, G, g, S, r, S', w, sl, e1, kq⟩ => ?_⟩
  have other : mIxA tab mo mk g S = some (r, S') → wpAny (model X.prog X.w) X.A (eval (.Subscript o b pos) X.env) (EP X pins σ Q) X.xe s := fun e => (re_ixA (T := T) ht hr ho hb hs hsl).run pins s σ H Q I ⟨φ, G, g, S, r, S', w, sl, e, kq⟩
  unfold mIxG at e1
  split at e1
  · rename_i i S1 q1
    split at e1
    · rename_i kvs0 q2
      refine (pe_dget (hu_of hr) ho hb hn).run pins s σ H Q I ⟨φ, G, g, S, _, _, w, sl, q1, fun φ1 G1 H1 st1 w1 v hv => ?_⟩
      have hv' := hv
      have k1 := kq.step T.ok st1
      have s1 := sl.step st1
      split at e1
      · rename_i d S2 q3
        refine ⟨φ1, G1, g, S1, _, _, w1, s1, q3, fun φ2 G2 H2 st2 w2 y hy => ?_⟩
        split at e1
        · rename_i ky kvs q4 q5
          simp only [IsD] at hv
          obtain ⟨a, rfl, ha⟩ := hv
          obtain ⟨kws, h3, h4⟩ := dOf_ok w2 q5 (pre_get st2.pre ha)
          rcases ksD_val (k := ky) h4 with ⟨e2, _⟩ | ⟨d', v, e2, e3, e4⟩
          · rw [e2] at e1; cases e1
          · rw [e2] at e1; cases e1
            exact ⟨a, v, rfl, .inl ⟨kws, ky, h3, keyOf_ok hy q4, e3.symm⟩, (k1.step T.ok st2).now w2 v e4⟩
        · cases e1
      · rename_i c fs S2 q3
        cases e1
        exact ⟨φ1, G1, g, S1, _, _, w1, s1, q3, k1⟩
      · cases e1
    · exact other e1
  · exact other e1

/-! ### o[k] = v -/
noncomputable def mSetG (tab : Nat → Option MF) (mo mk mv : M D) : MS := fun g S => match mv g S with
  | some (.ok d, S1) => match mo g S1 with
    | some (.ok (.ref i), S2) => match S2[i]? with
      | some (.dK _) => match mk g S2 with
        | some (.ok e, S3) => match keyOf e, S3[i]? with
          | some k, some (.dK kvs) => if szOk (kvs.length + 1) = true then some (.nx g, S3.set i (.dK (putKD kvs k d))) else none
          | _, _ => none
        | some (.exc c fs, S3) => some (.ex g c fs, S3)
        | none => none
      | some (.lst _) => match mk g S2 with
        | some (.ok (.int n), S3) => match S3[i]? with
          | some (.lst l) => (ixN l.length n).map fun j => (.nx g, S3.set i (.lst (l.set j d)))
          | _ => none
        | some (.exc c fs, S3) => some (.ex g c fs, S3)
        | _ => none
      | _ => mSetIx tab mo mk mv g S
    | _ => mSetIx tab mo mk mv g S
  | _ => mSetIx tab mo mk mv g S
theorem rs_setG {k : Nat} {tab : Nat → Option MF} {o i value : Expr} {pos pos' : Pos} {mo mk mv : M D} (ht : ∀ c mf, tab c = some mf → DunOk X cl k "__setitem__" c mf ∧ PySem.W.noSeq X.K (cl.at_ c) = true) (hr : Room k X.A) (ho : RE X cl tk o mo) (hi : RE X cl tk i mk) (hv : RE X cl tk value mv)
    (hs : swapsWith value (some (.Subscript o i pos')) pos.line X.env = pure false := by rfl)
    (ha : ∀ v, assign (.Subscript o i pos') X.env v = (do
      let ov ← holding [v] (eval o X.env)
      let iv ← holding [v, ov] (eval i X.env)
      standAt pos'
      holding [v, ov, iv] (setItem ov iv v)
      release [v, ov, iv] []) := by intro _; rfl)
    (hs2 : swapsWithSole [.Subscript o i pos'] value pos.line X.env = pure false := by rfl) (hw : swappedStores [.Subscript o i pos'] value X.env = pure none := by rfl)
    (h1 : (assignEach [.Subscript o i pos'] X.env).map (·.2) = [assign (.Subscript o i pos') X.env] := by rfl) : RS X cl tk (.Assign [.Subscript o i pos'] value pos) (mSetG tab mo mk mv) := by
  refine ⟨fun pins s σ H Dn I ⟨φ, G, g, S, out, S', w, sl, e, kq⟩ => ?_⟩
  have other : mSetIx tab mo mk mv g S = some (out, S') → wpAny (model X.prog X.w) X.A (exec (.Assign [.Subscript o i pos'] value pos) X.env) (SP X pins Dn) X.xe s := fun e => (rs_setIx (T := T) ht hr ho hi hv hs).run pins s σ H Dn I ⟨φ, G, g, S, out, S', w, sl, e, kq⟩
  unfold mSetG at e
  split at e
  · rename_i d S1 q1
    split at e
    · rename_i j S2 q2
      split at e
      · rename_i kvs0 q3
        refine (ps_dput (hu_of hr) ho hi hv hs).run pins s σ H Dn I ⟨φ, G, g, S, _, _, w, sl, q1, fun φ1 G1 H1 st1 w1 v hv => ?_⟩
        have s1 := sl.step st1
        have k1 := kq.step T.ok st1
        refine ⟨φ1, G1, g, S1, _, _, w1, s1, q2, fun φ2 G2 H2 st2 w2 x hx => ?_⟩
        have s2 := s1.step st2
        have k2 := k1.step T.ok st2
        simp only [IsD] at hx
        obtain ⟨a, rfl, ha⟩ := hx
        split at e
        · rename_i ke S3 q4
          refine ⟨φ2, G2, g, S2, _, _, w2, s2, q4, fun φ3 G3 H3 st3 w3 y hy => ?_⟩
          split at e
          · rename_i ky kvs q5 q6
            split at e
            · rename_i hz
              cases e
              have ha3 := pre_get st3.pre ha
              obtain ⟨kws, n1, n2⟩ := w3.ok _ _ _ q6 ha3
              refine ⟨a, _, rfl, .inl ⟨kws, ky, n1, keyOf_ok hy q5, by rw [← ksD_len n2]; have := szOk_le hz; omega, rfl⟩, ?_⟩
              have st4 := write_step w3 ha3 (.dK (putK kws ky v))
              have w4 := write_wd (c := .dK (putKD kvs ky d)) w3 q6 rfl ha3 ⟨_, upd_same, ksD_put (hv.mono (st2.trans st3).pre (st2.trans st3).ex) n2⟩
              exact k2 _ _ _ (st3.trans st4) w4 _ (s2.step (st3.trans st4))
            · cases e
          · cases e
        · rename_i c fs S3 q4
          cases e
          exact ⟨φ2, G2, g, S2, _, _, w2, s2, q4, k2⟩
        · cases e
      · rename_i l0 q3
        refine (ps_asg hv (pg_sub ho hi set_list ha) hs2 hw h1).run pins s σ H Dn I ⟨φ, G, g, S, _, _, w, sl, q1, fun φ1 G1 H1 st1 w1 v hv => ?_⟩
        have s1 := sl.step st1
        have k1 := kq.step T.ok st1
        refine ⟨φ1, G1, g, S1, _, _, w1, s1, q2, fun φ2 G2 H2 st2 w2 x hx => ?_⟩
        have s2 := s1.step st2
        have k2 := k1.step T.ok st2
        simp only [IsD] at hx
        obtain ⟨a, rfl, ha⟩ := hx
        split at e
        · rename_i n S3 q4
          refine ⟨φ2, G2, g, S2, _, _, w2, s2, q4, fun φ3 G3 H3 st3 w3 y hy => ?_⟩
          split at e
          · rename_i l q6
            cases hj : ixN l.length n with
            | none => rw [hj] at e; cases e
            | some jj =>
              rw [hj] at e
              cases e
              simp only [IsD] at hy
              subst hy
              have ha3 := pre_get st3.pre ha
              obtain ⟨vs, n1, n2⟩ := w3.ok _ _ _ q6 ha3
              refine ⟨a, vs, n, jj, rfl, rfl, n1, by rw [← n2.length]; exact hj, ?_⟩
              have st4 := write_step w3 ha3 (.lst (vs.set jj v))
              have w4 := write_wd (c := .lst (l.set jj d)) w3 q6 rfl ha3 ⟨_, upd_same, n2.set (hv.mono (st2.trans st3).pre (st2.trans st3).ex) jj⟩
              exact k2 _ _ _ (st3.trans st4) w4 _ (s2.step (st3.trans st4))
          · cases e
        · rename_i c fs S3 q4
          cases e
          exact ⟨φ2, G2, g, S2, _, _, w2, s2, q4, k2⟩
        · cases e
      · exact other e
    · exact other e
  · exact other e
end
end Mi
namespace Mi
open PySem L2
/-! ### a dict is locked while a statement runs -/
def mLock (lk : Gm → Store → Option Nat) (m : MS) : MS := fun g S => match lk g S with
  | none => m g S
  | some i => match S[i]? with
    | some (.dK kvs) => match m g (S.set i (.dF kvs)) with
      | some (.ex g1 c fs, S') => some (.ex g1 c fs, S')
      | some (o, S') => match S'[i]? with
        | some (.dF kvs') => some (o, S'.set i (.dK kvs'))
        | _ => none
      | none => none
    | _ => none
def mLockE (lk : Gm → Store → Option Nat) (m : M D) : M D := fun g S => match lk g S with
  | none => m g S
  | some i => match S[i]? with
    | some (.dK kvs) => match m g (S.set i (.dF kvs)) with
      | some (.exc c fs, S') => some (.exc c fs, S')
      | some (.ok d, S') => match S'[i]? with
        | some (.dF kvs') => some (.ok d, S'.set i (.dK kvs'))
        | _ => none
      | none => none
    | _ => none
section
variable {K : PySem.W.Frag} {cl : Cl} {φ : List Addr} {G H : Hp} {S : Store}
theorem lock_on (w : Wd K cl φ S G H) {i : Nat} {a : Addr} {kvs : List (Key × D)} (hS : S[i]? = some (.dK kvs)) (hi : φ[i]? = some a) : ∃ kws, H a = some (.dK kws) ∧ G a = none ∧
    ∀ od, Step φ G H φ (upd G a (.frz od (.dK kws))) (upd H a (.frz od (.dK kws))) ∧ Wd K cl φ (S.set i (.dF kvs)) (upd G a (.frz od (.dK kws))) (upd H a (.frz od (.dK kws))) := by
  obtain ⟨kws, h1, h2⟩ := w.ok _ _ _ hS hi
  have g0 : G a = none := w.ap i _ a hS hi rfl
  refine ⟨kws, h1, g0, fun od => ?_⟩
  have ex : Ex G (upd G a (.frz od (.dK kws))) := Ex.new g0
  refine ⟨⟨List.prefix_refl _, ex, fun x h => ?_, fun x o h hx => ?_, fun x h => .inl h⟩, ⟨by rw [List.length_set]; exact w.len, fun x o h => ?_, w.nd, fun x hx => ?_, fun j c x q1 q2 q3 => ?_, fun j c x q1 q2 => ?_, cl.mono _ _ ex w.iv⟩⟩
  · by_cases e : x = a
    · subst e; exact .inr (.inr (List.mem_of_getElem? hi))
    · rw [upd_ne e] at h; exact .inl h
  · have ne : x ≠ a := fun z => hx (by rw [z]; exact List.mem_of_getElem? hi)
    rw [upd_ne ne]; exact h
  · by_cases e : x = a
    · subst e; rw [upd_same] at h ⊢; exact h
    · rw [upd_ne e] at h ⊢; exact w.sub x o h
  · by_cases e : x = a
    · subst e; rw [upd_same]; simp
    · rw [upd_ne e]; exact w.tr x hx
  · rcases set_get q1 with ⟨rfl, rfl⟩ | ⟨ne, q1⟩
    · cases q3
    · have nx : x ≠ a := fun z => ne (nodup_at w.nd q2 (by rw [z]; exact hi))
      rw [upd_ne nx]; exact w.ap j c x q1 q2 q3
  · rcases set_get q1 with ⟨rfl, rfl⟩ | ⟨ne, q1⟩
    · rw [hi] at q2; cases q2
      exact ⟨od, kws, upd_same, h2.mono (List.prefix_refl _) ex⟩
    · have nx : x ≠ a := fun z => ne (nodup_at w.nd q2 (by rw [z]; exact hi))
      exact (w.ok j c x q1 q2).mono (List.prefix_refl _) ex fun o h => by rw [upd_ne nx]; exact h
theorem CellOk.unf {a x : Addr} {od : Obj} {kws : List (Key × V)} {c : Cell} (hG : G a = some (.frz od (.dK kws))) (ne : x ≠ a) (h : CellOk K cl φ G H x c) : CellOk K cl φ (del G a) (upd H a (.dK kws)) x c := by
  cases c with
  | lst ds => obtain ⟨vs, h1, h2⟩ := h; exact ⟨vs, by rw [upd_ne ne]; exact h1, h2.unf hG⟩
  | dK ds => obtain ⟨vs, h1, h2⟩ := h; exact ⟨vs, by rw [upd_ne ne]; exact h1, h2.unf hG⟩
  | dF ds => obtain ⟨o, vs, h1, h2⟩ := h; exact ⟨o, vs, by rw [del_ne ne]; exact h1, h2.unf hG⟩
  | ins c fs => obtain ⟨dx, vs, h1, h2⟩ := h; exact ⟨dx, vs, by rw [upd_ne ne]; exact h1, h2.unf hG⟩
  | dead => trivial
theorem lock_off {φ' : List Addr} {G' H' : Hp} {S' : Store} {i : Nat} {a : Addr} {od : Obj} {kws : List (Key × V)} {kvs' : List (Key × D)} (g0 : G a = none) (hi : φ[i]? = some a) (hH : H a ≠ none)
    (st : Step φ (upd G a (.frz od (.dK kws))) (upd H a (.frz od (.dK kws))) φ' G' H') (w : Wd K cl φ' S' G' H') (hS : S'[i]? = some (.dF kvs')) :
    H' a = some (.frz od (.dK kws)) ∧ G' a = some (.frz od (.dK kws)) ∧ Step φ G H φ' (del G' a) (upd H' a (.dK kws)) ∧ Wd K cl φ' (S'.set i (.dK kvs')) (del G' a) (upd H' a (.dK kws)) := by
  have hG : G' a = some (.frz od (.dK kws)) := st.ex _ _ upd_same
  have hi' := pre_get st.pre hi
  refine ⟨w.sub _ _ hG, hG, ⟨st.pre, fun x o h => ?_, fun x h => ?_, fun x o h hx => ?_, fun x h => ?_⟩, ⟨by rw [List.length_set]; exact w.len, fun x o h => ?_, w.nd, fun x hx => ?_, fun j c x q1 q2 q3 => ?_, fun j c x q1 q2 => ?_, cl.unf _ _ _ _ hG w.iv⟩⟩
  · have ne : x ≠ a := fun z => by rw [z, g0] at h; cases h
    rw [del_ne ne]; exact st.ex _ _ (by rw [upd_ne ne]; exact h)
  · have ne : x ≠ a := fun z => by subst z; exact h del_same
    rw [del_ne ne] at h
    rcases st.gn x h with h | h | h
    · rw [upd_ne ne] at h; exact .inl h
    · rw [upd_ne ne] at h; exact .inr (.inl h)
    · exact .inr (.inr h)
  · have ne : x ≠ a := fun z => hx (by rw [z]; exact List.mem_of_getElem? hi)
    rw [upd_ne ne]; exact st.keep x o (by rw [upd_ne ne]; exact h) hx
  · rcases st.new x h with h | h
    · exact .inl h
    · by_cases e : x = a
      · subst e; rw [upd_same] at h; cases h
      · rw [upd_ne e] at h; exact .inr h
  · have ne : x ≠ a := fun z => by subst z; rw [del_same] at h; cases h
    rw [del_ne ne] at h; rw [upd_ne ne]; exact w.sub x o h
  · by_cases e : x = a
    · subst e; rw [upd_same]; simp
    · rw [upd_ne e]; exact w.tr x hx
  · rcases set_get q1 with ⟨rfl, rfl⟩ | ⟨ne, q1⟩
    · rw [hi'] at q2; cases q2; exact del_same
    · have nx : x ≠ a := fun z => ne (nodup_at w.nd q2 (by rw [z]; exact hi'))
      rw [del_ne nx]; exact w.ap j c x q1 q2 q3
  · rcases set_get q1 with ⟨rfl, rfl⟩ | ⟨ne, q1⟩
    · rw [hi'] at q2; cases q2
      obtain ⟨o2, kws2, e1, e2⟩ := w.ok _ _ _ hS hi'
      rw [hG] at e1; cases e1
      exact ⟨kws, upd_same, e2.unf hG⟩
    · have nx : x ≠ a := fun z => ne (nodup_at w.nd q2 (by rw [z]; exact hi'))
      exact (w.ok j c x q1 q2).unf hG nx
theorem Sl.unf {g : Gm} {σ : St} {a : Addr} {od : Obj} {kws : List (Key × V)} (s : Sl K cl φ G g σ) (hG : G a = some (.frz od (.dK kws))) : Sl K cl φ (del G a) g σ := ⟨s.len, fun i d h =>
  let ⟨v, h1, h2⟩ := s.at_ i d h
  ⟨v, h1, h2.unf hG⟩, s.hd⟩
theorem cell_at (w : Wd K cl φ S G H) {i : Nat} {c : Cell} (hS : S[i]? = some c) : ∃ a, φ[i]? = some a := by
  have hl : i < φ.length := by rw [w.len]; exact (List.getElem?_eq_some_iff.mp hS).1
  exact ⟨φ[i], List.getElem?_eq_getElem hl⟩
end
section
variable {X : Cx} {cl : Cl} {tk : WX → Prop} [T : Tk X tk]
theorem rs_lock {st : Stmt} {m : MS} (lk : Gm → Store → Option Nat) (h : RS X cl tk st m) : RS X cl tk st (mLock lk m) := by
  refine ⟨fun pins s σ H D I ⟨φ, G, g, S, o, S', w, sl, e, k⟩ => ?_⟩
  unfold mLock at e
  split at e
  · exact h.run pins s σ H D I ⟨φ, G, g, S, o, S', w, sl, e, k⟩
  · rename_i i _
    split at e
    · rename_i kvs hS
      obtain ⟨a, hi⟩ := cell_at w hS
      obtain ⟨kws, hH, g0, hl⟩ := lock_on w hS hi
      have hne : H a ≠ none := by rw [hH]; simp
      refine (ps_lock h).run pins s σ H D I ⟨a, .dK kws, hH, trivial, fun od => ?_⟩
      obtain ⟨st1, w1⟩ := hl od
      split at e
      · rename_i g1 c fs S2 q
        cases e
        exact ⟨φ, _, g, _, _, _, w1, sl.step st1, q, (show Kos X.K cl tk φ G H (.ex g1 c fs) S' D from k).step T.ok st1⟩
      · rename_i o2 S2 hnx q
        split at e
        · rename_i kvs' hS2
          cases e
          refine ⟨φ, _, g, _, o, S2, w1, sl.step st1, q, ?_⟩
          cases o with
          | ex g2 c fs => exact absurd rfl (hnx g2 c fs)
          | nx g2 => exact fun φ2 G2 H2 st2 w2 σ2 s2 => let ⟨z1, z2, z3, z4⟩ := lock_off g0 hi hne st2 w2 hS2; ⟨z1, k _ _ _ z3 z4 _ (s2.unf z2)⟩
          | bk g2 => exact fun φ2 G2 H2 st2 w2 σ2 s2 => let ⟨z1, z2, z3, z4⟩ := lock_off g0 hi hne st2 w2 hS2; ⟨z1, k _ _ _ z3 z4 _ (s2.unf z2)⟩
          | ct g2 => exact fun φ2 G2 H2 st2 w2 σ2 s2 => let ⟨z1, z2, z3, z4⟩ := lock_off g0 hi hne st2 w2 hS2; ⟨z1, k _ _ _ z3 z4 _ (s2.unf z2)⟩
          | rt d2 => exact fun φ2 G2 H2 st2 w2 v hv => let ⟨z1, z2, z3, z4⟩ := lock_off g0 hi hne st2 w2 hS2; ⟨z1, k _ _ _ z3 z4 _ (hv.unf z2)⟩
        · cases e
      · cases e
    · cases e
theorem re_lock {x : Expr} {m : M D} (lk : Gm → Store → Option Nat) (h : RE X cl tk x m) : RE X cl tk x (mLockE lk m) := by
  refine ⟨fun pins s σ H Q I ⟨φ, G, g, S, o, S', w, sl, e, k⟩ => ?_⟩
  unfold mLockE at e
  split at e
  · exact h.run pins s σ H Q I ⟨φ, G, g, S, o, S', w, sl, e, k⟩
  · rename_i i _
    split at e
    · rename_i kvs hS
      obtain ⟨a, hi⟩ := cell_at w hS
      obtain ⟨kws, hH, g0, hl⟩ := lock_on w hS hi
      have hne : H a ≠ none := by rw [hH]; simp
      refine (pe_lock h).run pins s σ H Q I ⟨a, .dK kws, hH, trivial, fun od => ?_⟩
      obtain ⟨st1, w1⟩ := hl od
      split at e
      · rename_i c fs S2 q
        cases e
        exact ⟨φ, _, g, _, _, _, w1, sl.step st1, q, (show Ko X.K cl tk φ G H g (.exc c fs) S' _ from k).step T.ok st1⟩
      · rename_i d S2 q
        split at e
        · rename_i kvs' hS2
          cases e
          exact ⟨φ, _, g, _, _, S2, w1, sl.step st1, q, fun φ2 G2 H2 st2 w2 v hv => let ⟨z1, z2, z3, z4⟩ := lock_off g0 hi hne st2 w2 hS2; ⟨z1, k _ _ _ z3 z4 _ (hv.unf z2)⟩⟩
        · cases e
      · cases e
    · cases e
end
end Mi
namespace Mi
open PySem L2
/-! ### a dict comprehension: a new cell, filled turn by turn -/
open Classical in
noncomputable def dcGo (n : Nat) (src : Src) (b : Bind) (mt : M Bool) (mk mv : M D) (g0 : Gm) : List D → Store → Option Store
  | [], S => if srcOk S src then some S else none
  | d :: ds, S => if srcOk S src then
      match b d g0 with
      | none => none
      | some g1 => match mt g1 S with
        | some (.ok true, S1) => match mk g1 S1 with
          | some (.ok y, S2) => match mv g1 S2 with
            | some (.ok z, S3) => match keyOf y, S3[n]? with
              | some k, some (.dK kvs) => if szOk (kvs.length + 1) = true then dcGo n src b mt mk mv g0 ds (S3.set n (.dK (putKD kvs k z))) else none
              | _, _ => none
            | _ => none
          | _ => none
        | some (.ok false, S1) => dcGo n src b mt mk mv g0 ds S1
        | _ => none
    else none
noncomputable def mDc (vs : List Nat) (mi : M Src) (b : Bind) (mt : M Bool) (mk mv : M D) : M D := mB mi fun src => fun g S =>
  match dcGo S.length src b mt mk mv (wipeG g vs) src.1 (S ++ [.dK []]) with
  | some S1 => some (.ok (.ref S.length), S1)
  | none => none
section
variable {X : Cx} {cl : Cl} {tk : WX → Prop} [T : Tk X tk]
theorem tDc_of (hh : cl.hd = none) {K : PySem.W.Frag} {vs : List Nat} {mi : M Src} {b : Bind} {mt : M Bool} {mk mv : M D} (ht : TkOk tk) {σ : L2.St} {H : Hp} {Q : VK}
    (h : tM K cl tk (mDc vs mi b mt mk mv) σ H Q) : tDc (tI K cl tk mi) (tGw K cl vs b) (tMT K cl (fun _ => False) mt) (tM K cl (fun _ => False) mk) (tM K cl (fun _ => False) mv) vs σ H Q := by
  obtain ⟨φ, G, g, S, r, S', w, s, e, k⟩ := h
  rcases mB_ok e with ⟨src, S1, e1, e2⟩ | ⟨c, fs, e1, rfl⟩
  · refine ⟨φ, G, g, S, _, _, w, s, e1, fun φ1 G1 H1 st1 w1 J wj A hA => ?_⟩
    obtain ⟨Gd, Y, wk, hG, hY⟩ := wj.ex
    have k1 := k.step ht st1
    have st0 := cell_step w1 hA (.dK [])
    have w0 := cell_wd (o := .dK []) (c := .dK []) w1 hA fun φ' G' H' _ _ h => ⟨[], h, rfl⟩
    have hA0 : (φ1 ++ [A])[S1.length]? = some A := by rw [← w1.len, List.getElem?_append_right (Nat.le_refl _)]; simp
    split at e2
    · rename_i S2 q
      cases e2
      refine ⟨fun i m H' => m = src.1.length - i ∧ i ≤ src.1.length ∧ ∃ φ' G' S2, Step φ1 G1 H1 φ' G' H' ∧ (φ1 ++ [A]) <+: φ' ∧ Wd K cl φ' S2 G' H' ∧ dcGo S1.length src b mt mk mv (wipeG g vs) (src.1.drop i) S2 = some S', ⟨_, rfl, Nat.zero_le _, _, G1, _, st0, List.prefix_refl _, w0, q⟩, ?_⟩
      rintro i m H' ⟨rfl, hle, φ', G', S2, st2, pre2, w2, e3⟩
      have hA2 := pre_get pre2 hA0
      cases hd : src.1.drop i with
      | nil =>
        have hi : i = src.1.length := by
          have := congrArg List.length hd
          simp at this; omega
        subst hi
        rw [hd] at e3
        unfold dcGo at e3
        split at e3
        · rename_i hok
          cases e3
          exact .inl ⟨wk.stops _ (hG _ _ _ _ st2 w2 hok), k1 _ _ _ st2 w2 _ (by simp only [IsD]; exact ⟨A, rfl, hA2⟩)⟩
        · cases e3
      | cons d ds =>
        obtain ⟨hd1, hd2, hlt⟩ := drop_get hd
        rw [hd] at e3
        unfold dcGo at e3
        split at e3
        · rename_i hok
          split at e3
          · cases e3
          · rename_i g1 hb1
            refine .inr ⟨wk.goes _ _ hlt (hG _ _ _ _ st2 w2 hok), fun H3 => ∃ φ3 G3 S3, Step φ1 G1 H1 φ3 G3 H3 ∧ (φ1 ++ [A]) <+: φ3 ∧ Wd K cl φ3 S3 G3 H3 ∧ dcGo S1.length src b mt mk mv (wipeG g vs) ds S3 = some S', fun H3 ⟨φ3, G3, S3, a1, a2, a3, a4⟩ => ⟨src.1.length - (i + 1), by omega, rfl, hlt, φ3, G3, S3, a1, a2, a3, by rw [hd2]; exact a4⟩, fun x H3 hy => ?_⟩
            obtain ⟨G3, st3, w3, hx⟩ := hY _ _ _ _ i d x H3 st2 w2 hok hd1 (wk.yields _ _ _ _ hlt (hG _ _ _ _ st2 w2 hok) hy)
            refine ⟨φ', G3, wipeG g vs, S2, d, g1, w3, sl_wipe hh (s.step (st1.trans (st2.trans st3))) vs, hx, hb1, fun σ4 s4 hw4 => ?_⟩
            refine ⟨?_, ?_⟩
            · rw [hw4]
              exact wipe_twice σ vs
            split at e3
            · rename_i S3 q3
              refine ⟨φ', G3, g1, S2, _, _, w3, s4, q3, fun φ4 G4 H4 st4 w4 => ?_⟩
              show (if true = true then _ else _)
              rw [if_pos rfl]
              split at e3
              · rename_i y S4 q4
                refine ⟨φ4, G4, g1, S3, _, _, w4, s4.step st4, q4, fun φ5 G5 H5 st5 w5 ky hky => ?_⟩
                split at e3
                · rename_i z S5 q5
                  refine ⟨φ5, G5, g1, S4, _, _, w5, (s4.step st4).step st5, q5, fun φ6 G6 H6 st6 w6 vz hvz => ?_⟩
                  split at e3
                  · rename_i kk kvs q6 q7
                    split at e3
                    · rename_i hz
                      have hA6 := pre_get st6.pre (pre_get st5.pre (pre_get st4.pre (pre_get st3.pre hA2)))
                      obtain ⟨kws, n1, n2⟩ := w6.ok _ _ _ q7 hA6
                      have st7 := write_step w6 hA6 (.dK (putK kws kk vz))
                      have w7 := write_wd (c := .dK (putKD kvs kk z)) w6 q7 rfl hA6 ⟨_, upd_same, ksD_put hvz n2⟩
                      exact ⟨kws, kk, keyOf_ok hky q6, n1, by rw [← ksD_len n2]; have := szOk_le hz; omega, φ6, G6, _, (((st2.trans st3).trans st4).trans (st5.trans st6)).trans st7, pre2.trans (st3.pre.trans (st4.pre.trans (st5.pre.trans st6.pre))), w7, e3⟩
                    · cases e3
                  · cases e3
                · cases e3
              · cases e3
            · rename_i S3 q3
              refine ⟨φ', G3, g1, S2, _, _, w3, s4, q3, fun φ4 G4 H4 st4 w4 => ?_⟩
              show (if false = true then _ else _)
              rw [if_neg Bool.false_ne_true]
              exact ⟨φ4, G4, S3, (st2.trans st3).trans st4, pre2.trans (st3.pre.trans st4.pre), w4, e3⟩
            · cases e3
        · cases e3
    · cases e2
  · exact ⟨φ, G, g, S, _, _, w, s, e1, k⟩
theorem re_dc {kx vx tg iter : Expr} {ifs : List Expr} {scope : Scope} {own : List (Str × Nat)} {pos : Pos} {mi : M Src} {b : Bind} {mt : M Bool} {mk mv : M D} (hN : X.N.Nodup) (hi : RI X cl tk tg iter mi) (ok : BlkOk X.N X.env.scope scope own)
    (hg : ∀ (s : Shared) (H : Hp) (C : Addr) (cc : List (Str × Addr)) (fp : List Addr), RGw (X.blk s H scope (compEnvC scope cc C X.env) fp) cl (own.map (·.2)) tg b)
    (ht : ∀ (s : Shared) (H : Hp) (C : Addr) (cc : List (Str × Addr)) (fp : List Addr), PTs (X.blk s H scope (compEnvC scope cc C X.env) fp) ifs (tMT X.K cl (fun _ => False) mt))
    (hk : ∀ (s : Shared) (H : Hp) (C : Addr) (cc : List (Str × Addr)) (fp : List Addr), RE (X.blk s H scope (compEnvC scope cc C X.env) fp) cl (fun _ => False) kx mk)
    (he : ∀ (s : Shared) (H : Hp) (C : Addr) (cc : List (Str × Addr)) (fp : List Addr), RE (X.blk s H scope (compEnvC scope cc C X.env) fp) cl (fun _ => False) vx mv) (hc : X.calm = true := by rfl) (hs : ∀ x, foldedSetIterable iter X.env x = pure x := by intro _; rfl) (hh : cl.hd = none := by rfl) :
    RE X cl tk (.DictComp kx vx [⟨tg, iter, ifs, 0⟩] scope pos) (mDc (own.map (·.2)) mi b mt mk mv) :=
  pe_imp (pe_dc hc hN hi ok hg ht hk he hs) fun _ _ _ h => tDc_of hh T.ok h
end
end Mi
namespace Mi
open PySem L2
/-! ### a walk over an instance whose __iter__ returns iter(self.f) -/
/-- an iterator over the keys of the locked dict at d, at its start -/
def KtO (o : Obj) (d it : Addr) (n : Nat) : HO := .ext fun h => ∃ es ep, o.data = .dict es ep ∧ h.IsKeyIter it d 0 n ep
theorem ktO_ok {P : Program} {w : World} {H : Hp} {h : Heap} {o : Obj} {d it : Addr} {n : Nat} {es : Array DictEntry} {ep : Nat} (e0 : o.data = .dict es ep) (e : h.IsKeyIter it d 0 n ep) : ObjOk P w H h it (KtO o d it n) :=
  ⟨⟨es, ep, e0, e⟩, let ⟨oi, e1, _⟩ := e; ⟨oi, e1⟩, fun h1 h2 ⟨es, ep, q0, q⟩ k => ⟨es, ep, q0, q.at fun oi e => k oi e⟩⟩
/-- iter(xs): xs a list or a locked dict; the iterator is younger than n -/
def rIterG (K : PySem.W.Frag) (n : Nat) : List V → Hp → VK → Prop := fun xs H Q => ∃ l, xs = [.ref l] ∧ ((∃ zs, SqL K H l zs ∧ ∀ it, H it = none → n ≤ it → Q (.ref it) (upd H it (ItO l it 0))) ∨
  ∃ o kws, H l = some (.frz o (.dK kws)) ∧ ∀ it, H it = none → n ≤ it → Q (.ref it) (upd H it (KtO o l it kws.length)))
open Builtin Builtin.ObjectAttr in
theorem call_iterG {X : Cx} : CallR X (.builtin "iter") (rIterG X.K X.s_0.heap.objs.size) := by
  intro pins s σ H xs us Q I r h
  obtain ⟨l, rfl, h⟩ := h
  rcases h with ⟨zs, h1, h2⟩ | ⟨o, kws, h1, h2⟩
  · exact ItX.call_iterN pins s σ H _ us Q I r ⟨l, zs, rfl, h1, h2⟩
  · cases r with
    | cons ru rn =>
      cases rn
      cases ru
      obtain ⟨hs, hgd, hx, es, ep, vs, hdt, hsz, kv, hm⟩ := I.frzK h1
      refine Calls.call_function_entry (by decide +kernel) (by decide +kernel) PySem.W.kdk_entry_iter (PySem.W.kdk_args_iter _) ?_
      unfold Builtin.«iter»
      refine wpAny_bind (m := someArgs "iter" 1 2 _) (wpAny_of_eq (a := [Value.ref l]) (by first | rfl | kernel_rfl!) ?_)
      show wpAny _ _ (pyIter (.ref l) >>= _) _ _ _
      refine wpAny_bind (iter_keys hs hgd hx hdt ?_)
      refine wpAny_pure ⟨_, rfl, .ref s.heap.objs.size, _, I.laid (t' := s.toks) (fun b u e => Heap.get?_push_of_some _ e) (Nat.le_refl _) (ktO_ok hdt ⟨_, Heap.get?_push_size _ rfl, rfl, ?_⟩), rfl, h2 _ (I.hok.fresh (Nat.le_refl _)) I.sz⟩
      rw [hsz] <;> rfl
/-- the class at C walks its field f -/
structure IterOk (P : Program) (w : World) (K : PySem.W.Frag) (mg : Str → Option Value) (base : Heap) (C : Addr) (f : Str) : Prop where
  cls : L2.Cls K C
  no : NoAttr K C f
  ex : ∃ fi fd st qual sf, PySem.W.findIn K (.ref C) "__iter__" = some (some (.ref fi)) ∧ PySem.W.isFn K (.ref fi) = true ∧ Fun K "__iter__" qual st fi fd ∧ FnScope [sf] [sf] (defScope st) ∧ L2.Binds K fd [sf] [] ∧
    ∀ cdv A outer s H E, PSs (cxOf (L2.CX P w) P w K mg base [sf] qual (defScope st) fi cdv A outer s H E) (defBody st) (tRet (tCB (rIterG K s.heap.objs.size) (tCons (tFld K (tVar 0) f) tNil)))
section
variable {X : Cx} {cl : Cl} {tk : WX → Prop} [T : Tk X tk]
/-- a call of a def, its body read for this entry -/
theorem run_at {x qual : Str} {st : Stmt} {f : Addr} {fd : FuncData} {N ps : List Str} {us : List Value} {vs : List V} {pins : List (Addr × Obj)} {σ : L2.St} {H : Hp} {s : Shared} {Q : VK} {k : Nat}
    (F : Fun X.K x qual st f fd) (S : FnScope N ps (defScope st)) (hb : L2.Binds X.K fd ps []) (hr : Room (k + 1) X.A) (I : Inv X pins σ H s) (r : Vals vs us) (hl : vs.length = ps.length)
    (hbody : ∀ cdv, ∃ t, PSs (cxOf (L2.CX X.prog X.w) X.prog X.w X.K X.mg X.base N qual (defScope st) f cdv X.A X.stack s H (fun _ _ _ => False)) (defBody st) t ∧ t { nx := fun _ H' => Q .non H', rt := Q } (start N vs) H) :
    wpAny (model X.prog X.w) X.A (call (.ref f) us) (EP X pins σ Q) X.xe s := by
  obtain ⟨z1, z2, z3, z4, z5, z6, cv, z7, z8, rfl, found, isC⟩ := F.ex
  have env := I.env0
  have stays : ∀ c u, X.base.get? c = some u → s.heap.get? c = some u := fun c u q => (env.bs c u q).1
  have kin : X.K.In s.heap := env.mod.kin.keeps stays
  have free := env.mod.nolimit.keeps stays
  have bound := hb s us I.kIn (by rw [List.append_nil, ← r.length]; exact hl)
  rw [List.append_nil] at bound
  have kinds : ∀ z ∈ ps.zip us, (defScope st).names.lookup z.1 = some .local ∨ ((defScope st).names.lookup z.1 = some .cell ∧ ((cellsFrom (s.heap.objs.size + 1) (defScope st).names []).lookup z.1).isSome = true) := fun z hz =>
    (S.par z.1 (List.of_mem_zip (a := z.1) (b := z.2) hz).1).imp id fun q => ⟨q, PySem.W.cellsFrom_some _ _ _ (.inl q)⟩
  refine wpAny_call (codeAny_call_function hr.depth (kin _ _ found) rfl S.co S.gen rfl (PySem.W.codeRec_of kin isC) (bound _ _ _ _ ?_))
  refine wpAny_newFunctionEnv_cells S.kind kinds fun frame hf s1 inCall => ?_
  subst hf
  obtain ⟨t, body, want⟩ := hbody cv
  have J := inv_start (CX := L2.CX X.prog X.w) (E := fun _ _ _ => False) S hr.hd env (vs := vs) hl r inCall
  refine ⟨free.keeps inCall.toInCall.keep, codeAny_func (wpAny_mono (body.run [] s1 (start N vs) H _ J want) (fun way t2 w => ?_) fun e t2 w => wpAny_mono w (fun _ _ z => (cx_never z).elim) fun _ _ z => (cx_never z).elim)⟩
  cases way with
  | ret u =>
    obtain ⟨v, σ2, H2, J2, rv, q⟩ := w
    exact I.after ⟨v, H2, J2.os, J2.bare, J2.base, J2.hok, rv, q⟩
  | next =>
    obtain ⟨σ2, H2, J2, q⟩ := w
    exact I.after ⟨.non, H2, J2.os, J2.bare, J2.base, J2.hok, rfl, q⟩
  | brk => obtain ⟨_, _, _, q⟩ := w; exact q.elim
  | cont => obtain ⟨_, _, _, q⟩ := w; exact q.elim
theorem owit_ty {M : Model} {A : Around} {E : Value → Shared → Prop} {s : Shared} {Q : Value → Shared → Prop} {it v : Value} {ty : String} (hT : s.TypeIs it ty) (hl : typeLookup (.type ty) "__next__" = pure (some v)) (h : Q it s) : PySem.W.OwitIt M A Q E it s := by
  unfold PySem.W.OwitIt
  exact wpAny_specialOf (name := Str.ofString "__next__") hT hl h
def keysD (kvs : List (Key × D)) : List D := kvs.map fun kv => keyD kv.1
/-- what is walked: an instance of the table, a locked dict, or as before -/
def mIO (tab : Nat → Option Str) (m : M D) : M Src := fun g S => match m g S with
  | some (.ok (.ref i), S1) => match S1[i]? with
    | some (.dF kvs) => some (.ok (keysD kvs, none), S1)
    | some (.ins c fs) => match tab c with
      | some f => match fs.lookup f with
        | some (.lst l) => some (.ok (l, none), S1)
        | some (.ref j) => match S1[j]? with
          | some (.lst l) => some (.ok (l, some j), S1)
          | some (.dF kvs) => some (.ok (keysD kvs, none), S1)
          | _ => none
        | _ => none
      | none => none
    | _ => mI m g S
  | _ => mI m g S
theorem walk_lstD {K : PySem.W.Frag} {φ : List Addr} {G H : Hp} {a' : Addr} {xs : List V} {l : List D} (h1 : G a' = some (.lst xs)) (h2 : IsDs K φ G l xs) : WalkD K cl (Itl K a') φ G H (l, none) :=
  walk_at (Gd := fun H => SqL K H a' xs) (Y := YAt xs) (by show Walk _ l.length _ _; rw [h2.length]; exact walk_list) (fun φ' S' G' H' st w' _ => SqL.of (w'.sub _ _ (st.ex _ _ h1))) fun φ' S' G' H' i d x H2 st w' _ hd ⟨y1, y2⟩ => ⟨y1, by
    obtain ⟨v, h3, h4⟩ := h2.get hd
    rw [y2] at h3; cases h3
    exact h4.mono st.pre st.ex⟩
theorem walk_cellD {K : PySem.W.Frag} {φ : List Addr} {S : Store} {G H : Hp} {a' : Addr} {j : Nat} {l : List D} (w : Wd K cl φ S G H) (hi : S[j]? = some (.lst l)) (h1 : φ[j]? = some a') : (∃ xs, SqL K H a' xs) ∧ WalkD K cl (Itl K a') φ G H (l, some j) := by
  obtain ⟨vs, h3, h4⟩ := w.ok _ _ _ hi h1
  refine ⟨⟨vs, SqL.of h3⟩, fun H => ∃ ws, SqL K H a' ws ∧ ws.length = l.length, fun n H x H' => H' = H ∧ ∀ ws, SqL K H a' ws → ws[n]? = some x, ⟨fun n H hn ⟨ws, q1, q2⟩ => ⟨ws, ws[n], q1, by simp [q2, hn]⟩, fun H ⟨ws, q1, q2⟩ => ⟨ws, q1, by show ws.length ≤ l.length; omega⟩, fun n H x H' hn ⟨ws, q1, q2⟩ y => y⟩, fun φ' S' G' H' st w' ok => ?_, fun φ' S' G' H' n d x H2 st w' ok hd ⟨y1, y2⟩ => ?_⟩
  · obtain ⟨us, q1, q2⟩ := w'.ok _ _ _ ok (pre_get st.pre h1)
    exact ⟨us, SqL.of q1, by rw [← q2.length]⟩
  · subst y1
    obtain ⟨us, q1, q2⟩ := w'.ok _ _ _ ok (pre_get st.pre h1)
    obtain ⟨v, h5, h6⟩ := q2.get hd
    rw [y2 us (SqL.of q1)] at h5; cases h5
    exact ⟨G', Step.refl _ _ _, w', h6⟩
theorem keysD_get {K : PySem.W.Frag} {φ : List Addr} {G : Hp} {kvs : List (Key × D)} {kws : List (Key × V)} (h : KsD K φ G kvs kws) {i : Nat} {d : D} {k : Key} {v : V} (hd : (keysD kvs)[i]? = some d) (hk : kws[i]? = some (k, v)) : d = keyD k := by
  obtain ⟨z, e, _⟩ := ksD_get h hk
  unfold keysD at hd
  rw [List.getElem?_map, e] at hd
  cases hd
  rfl
theorem walk_frzD {K : PySem.W.Frag} {φ : List Addr} {G H : Hp} {a' : Addr} {o : Obj} {kws : List (Key × V)} {kvs : List (Key × D)} (h1 : G a' = some (.frz o (.dK kws))) (h2 : KsD K φ G kvs kws) : WalkD K cl (Itk a' o kws) φ G H (keysD kvs, none) := by
  have hl : (keysD kvs).length = kws.length := by unfold keysD; rw [List.length_map, ksD_len h2]
  refine ⟨fun H => H a' = some (.frz o (.dK kws)), fun i H x H' => H' = H ∧ ∃ k v, kws[i]? = some (k, v) ∧ x = kV k, ⟨fun n H hn q => ⟨q, by rw [← hl]; exact hn⟩, fun H q => ⟨q, by rw [← hl]; exact Nat.le_refl _⟩, fun n H x H' hn q y => y⟩, fun φ' S' G' H' st w' _ => w'.sub _ _ (st.ex _ _ h1), fun φ' S' G' H' i d x H2 st w' _ hd ⟨y1, k, v, y2, y3⟩ => ?_⟩
  subst y1 y3
  have := keysD_get h2 hd y2
  subst this
  exact ⟨G', Step.refl _ _ _, w', keyD_ok⟩
theorem ri_own {tab : Nat → Option Str} {tg a : Expr} {m : M D} (ht : ∀ c f, tab c = some f → IterOk X.prog X.w X.K X.mg X.base (cl.at_ c) f) {k : Nat} (hr : Room (k + 1) X.A) (h : RE X cl tk a m) : RI X cl tk tg a (mIO tab m) := by
  refine ⟨fun pins s σ H R I q => ?_⟩
  obtain ⟨φ, G, g, S, r, S', w, sl, e, kk⟩ := q
  have other : mI m g S = some (r, S') → wpAny (model X.prog X.w) X.A (eval a X.env) (fun v s1 => wpAny (model X.prog X.w) X.A (pyIter v) (PIE X pins σ tg R) X.xe s1) X.xe s := fun e' =>
    (ri_any h).run pins s σ H R I ⟨φ, G, g, S, r, S', w, sl, e', kk⟩
  unfold mIO at e
  split at e
  · rename_i i S1 q1
    split at e
    · rename_i kvs q2
      cases e
      refine (pi_keys h).run pins s σ H R I ⟨φ, G, g, S, _, _, w, sl, q1, fun φ1 G1 H1 st1 w1 v hv => ?_⟩
      simp only [IsD] at hv
      obtain ⟨a', rfl, ha⟩ := hv
      obtain ⟨o, kws, h1, h2⟩ := w1.ok _ _ _ q2 ha
      exact ⟨a', o, rfl, .inl ⟨kws, w1.sub _ _ h1, kk φ1 G1 H1 st1 w1 _ (walk_frzD h1 h2)⟩⟩
    · rename_i c fs q2
      split at e
      · rename_i f q3
        have OK := ht c f q3
        obtain ⟨fi, fd, st, qual, sf, n1, n2, F, SC, hb, body⟩ := OK.ex
        refine thn (h.run pins s σ H (fun x H1 => ∃ φ1 G1 a', x = .ref a' ∧ φ1[i]? = some a' ∧ Step φ G H φ1 G1 H1 ∧ Wd X.K cl φ1 S1 G1 H1) I ⟨φ, G, g, S, _, _, w, sl, q1, fun φ1 G1 H1 st w1 v hv => ?_⟩) fun u s1 ⟨x, H1, I1, rx, φ1, G1, a', ex, ea, st1, w1⟩ => ?_
        · simp only [IsD] at hv
          obtain ⟨a', rfl, ha⟩ := hv
          exact ⟨φ1, G1, a', rfl, ha, st, w1⟩
        subst ex
        have eu : u = Value.ref a' := rx
        subst eu
        obtain ⟨dx, fv, p1, p2⟩ := w1.ok _ _ _ q2 ea
        obtain ⟨mA, O, _⟩ := ins_get I1.hok p1
        obtain ⟨od, ho', _⟩ := lookIn_ns O.ns
        obtain ⟨m', Fm⟩ := I1.fr
        have J : PySem.W.InstAt s1.heap a' (PySem.W.instObj (cl.at_ c) dx) (cl.at_ c) (some od) := ⟨O.obj, rfl, rfl, ho'⟩
        have k1 := kk.step T.ok st1
        -- over a list
        have onList : ∀ (l : Addr) (src : Src), fv.lookup f = some (.ref l) → (∃ xs, SqL X.K H1 l xs) → WalkD X.K cl (Itl X.K l) φ1 G1 H1 src → R (Itl X.K l) H1 → wpAny (model X.prog X.w) X.A (pyIter (.ref a')) (PIE X pins σ tg R) X.xe s1 := fun l src e1 ⟨xs, e2⟩ wk hR => by
          refine PySem.W.owit_iter Fm I1.ok.mod.kin J n1 n2 (thn (run_at (k := k) (Q := fun v H' => ∃ it, v = .ref it ∧ H1 it = none ∧ s1.heap.objs.size ≤ it ∧ H' = upd H1 it (ItO l it 0)) F SC hb hr I1 (vs := [V.ref a']) (.cons rfl .nil) rfl fun cdv => ⟨_, body _ _ _ _ _ _, ?_⟩) fun v s2 ⟨x, H2, I2, rx, it, ex, hn, hy, eH⟩ => ?_)
          · exact ⟨.ref a', rfl, a', _, dx, fv, _, rfl, p1, OK.cls, OK.no, e1, l, rfl, .inl ⟨xs, e2, fun it h1 h2 => ⟨it, rfl, h1, h2, rfl⟩⟩⟩
          · subst ex eH
            have eu : v = Value.ref it := rx
            subst eu
            have hi : upd H1 it (ItO l it 0) it = some (ItO l it 0) := upd_same
            have eo := itO_get I2 hi
            have hd : ItX.dropH (upd H1 it (ItO l it 0)) it = H1 := ItX.dropH_upd hn
            have hi' := hi
            unfold ItO at hi'
            refine owit_ty (ty := "list_iterator") ⟨_, eo, rfl⟩ PySem.slot_listiter_next.lookup ⟨it, [it], _, _, H1, rfl, by rw [← hd]; exact ItX.inv_drop I2 hi', turn_list l it, ⟨_, eo, rfl, rfl⟩, fun b hb => ?_, hR⟩
            have e : b = it := by simpa using hb
            have z := ItX.inv_fp I2 hi (Nat.le_trans I1.sz hy)
            rw [hd] at z
            rw [e]
            exact z
        -- over a locked dict
        have onDict : ∀ (l : Addr) (o : Obj) (kws : List (Key × V)), fv.lookup f = some (.ref l) → H1 l = some (.frz o (.dK kws)) → R (Itk l o kws) H1 → wpAny (model X.prog X.w) X.A (pyIter (.ref a')) (PIE X pins σ tg R) X.xe s1 := fun l o kws e1 e2 hR => by
          refine PySem.W.owit_iter Fm I1.ok.mod.kin J n1 n2 (thn (run_at (k := k) (Q := fun v H' => ∃ it, v = .ref it ∧ H1 it = none ∧ s1.heap.objs.size ≤ it ∧ H' = upd H1 it (KtO o l it kws.length)) F SC hb hr I1 (vs := [V.ref a']) (.cons rfl .nil) rfl fun cdv => ⟨_, body _ _ _ _ _ _, ?_⟩) fun v s2 ⟨x, H2, I2, rx, it, ex, hn, hy, eH⟩ => ?_)
          · exact ⟨.ref a', rfl, a', _, dx, fv, _, rfl, p1, OK.cls, OK.no, e1, l, rfl, .inr ⟨o, kws, e2, fun it h1 h2 => ⟨it, rfl, h1, h2, rfl⟩⟩⟩
          · subst ex eH
            have eu : v = Value.ref it := rx
            subst eu
            have hi : upd H1 it (KtO o l it kws.length) it = some (KtO o l it kws.length) := upd_same
            obtain ⟨es, ep, e5, e6⟩ := (I2.hok it _ hi).1
            have hd : ItX.dropH (upd H1 it (KtO o l it kws.length)) it = H1 := ItX.dropH_upd hn
            have hi' := hi
            unfold KtO at hi'
            refine owit_ty (ty := "dict_keyiterator") e6.typeIs PySem.F.slot_dict_keyiterator_next.lookup ⟨it, [it], _, _, H1, rfl, by rw [← hd]; exact ItX.inv_drop I2 hi', turn_keys it e5, e6, fun b hb => ?_, hR⟩
            have e : b = it := by simpa using hb
            have z := ItX.inv_fp I2 hi (Nat.le_trans I1.sz hy)
            rw [hd] at z
            rw [e]
            exact z
        split at e
        · rename_i l q4
          cases e
          obtain ⟨v, e1, e2⟩ := fsD_get p2 q4
          simp only [IsD] at e2
          obtain ⟨b, xs, rfl, h1, h2⟩ := e2
          have wk := walk_lstD (cl := cl) (H := H1) h1 h2
          exact onList b _ e1 ⟨xs, SqL.of (w1.sub _ _ h1)⟩ wk (k1.now w1 _ wk)
        · rename_i j q4
          obtain ⟨v, e1, e2⟩ := fsD_get p2 q4
          simp only [IsD] at e2
          obtain ⟨b, rfl, hb'⟩ := e2
          split at e
          · rename_i l q5
            cases e
            obtain ⟨z1, wk⟩ := walk_cellD w1 q5 hb'
            exact onList b _ e1 z1 wk (k1.now w1 _ wk)
          · rename_i kvs q5
            cases e
            obtain ⟨o, kws, h1, h2⟩ := w1.ok _ _ _ q5 hb'
            exact onDict b o kws e1 (w1.sub _ _ h1) (k1.now w1 _ (walk_frzD h1 h2))
          · cases e
        · cases e
      · cases e
    · exact other e
  · exact other e
end
/-- which dict a walk over m locks -/
def lkO (tab : Nat → Option Str) (m : M D) : Gm → Store → Option Nat := fun g S => match m g S with
  | some (.ok (.ref i), _) => match S[i]? with
    | some (.dK _) => some i
    | some (.ins c fs) => match tab c with
      | some f => match fs.lookup f with
        | some (.ref j) => match S[j]? with
          | some (.dK _) => some j
          | _ => none
        | _ => none
      | none => none
    | _ => none
  | _ => none
end Mi
namespace Mi
open PySem L2 PySem.Spec PyProof.Rows
/-! ### a try with any number of clauses, each with or without a name -/
/-- an error that has come down into the frame of X: the state without it is one of X's -/
structure Cau (X : Cx) (pins : List (Addr × Obj)) (σ : L2.St) (H : Hp) (cls : Value) (d : Option Addr) (a : Addr) (B : Heap) (z t : Shared) : Prop where
  inv : Inv X pins σ H z
  old : ∀ b o, z.heap.get? b = some o → b ∉ frs X.stack → B.get? b = some o
  up : z.heap.UpToSlots t.heap
  fly : HandSPX.FlyingZ B (X.env :: X.outer) a (Zc cls d) t.heap
  new : H a = none
  os : t.os = z.os
  bare : AllBare t.gens
section
variable {X : Cx} {pins : List (Addr × Obj)} {σ : L2.St} {H : Hp} {cls : Value} {d : Option Addr} {a : Addr} {B : Heap} {z t : Shared}
theorem Cau.here (c : Cau X pins σ H cls d a B z t) : Inv X pins σ H t := c.inv.landed c.old c.fly.1 c.up c.os c.bare
theorem Cau.move (c : Cau X pins σ H cls d a B z t) {h : Heap} (f : HandSPX.FlyingZ B (X.env :: X.outer) a (Zc cls d) h) (u : t.heap.UpToSlots h) : Cau X pins σ H cls d a B z { t with heap := h } := ⟨c.inv, c.old, c.up.trans u, f, c.new, c.os, c.bare⟩
theorem Cau.in_suite (hf : X.env.frame = some X.env.locals) (c : Cau X pins σ H cls d a B z t) : ∃ oe, t.heap.get? a = some oe ∧ Zc cls d oe ∧ (∃ vs, oe.data = .fields vs) ∧ Inv (X.suite a ((a, oe) :: (X.pn ++ pins))) [] σ H t := by
  obtain ⟨oe, vs, h1, h2, h3⟩ := c.fly.there
  have away : a ∉ frs (X.env :: X.outer) := fun m => by
    obtain ⟨_, o2, h4, h5⟩ := c.fly.2.2.1.mem m
    rw [h1] at h4
    cases h4
    exact h5 _ h3
  refine ⟨oe, h1, h2, ⟨vs, h3⟩, c.here.suite h1 h3 c.new (fun q => away ?_) fun m => away ?_⟩
  · exact List.mem_filterMap.mpr ⟨X.env, List.mem_cons_self, hf.trans (by rw [q])⟩
  · obtain ⟨e, h4, h5⟩ := List.mem_filterMap.mp m
    exact List.mem_filterMap.mpr ⟨e, List.mem_cons_of_mem _ h4, h5⟩
/-- no clause takes it -/
theorem Cau.pass (hs : X.stack = X.env :: X.outer) (hf : X.env.frame = some X.env.locals) (c : Cau X pins σ H cls d a B z t) {W : WX} {Q : Flow → Shared → Prop} (tk : Takes X W) (q : W cls d σ H) : wpAny (model X.prog X.w) X.A (handleBy (.ref a) X.env []) Q X.xe t := by
  obtain ⟨p1, p2, p3, oe, vs, T, oT, _, g1, g2, g3, g4, _⟩ := id c.fly
  have last : wpAny (model X.prog X.w) X.A (setFlight (.ref a) X.env.frame) (fun _ t' => wpAny (model X.prog X.w) X.A (throw (.ref a) : Sem Flow) Q X.xe t') X.xe t := by
    rw [hf]
    exact HandSPX.setFlight_upZ c.fly fun h hh u => wpAny_throw (tk _ _ ⟨a, B, z, pins, σ, H, cls, d, rfl, c.inv, c.old, c.up.trans u, .inr (.inr (by rw [hs]; exact hh)), c.new, c.os, c.bare, q⟩)
  refine wpAny_handleBy_nil ?_
  unfold PySem.passOn
  refine wpAny_bind (wpAny_field g1 g3 g4 ?_)
  rw [if_neg (by simp : ¬ ((Value.ref T == Value.none) = true))]
  first
    | exact wpAny_bind (wpAny_pure (wpAny_bind last))
    | exact wpAny_bind last
/-- one clause's class is asked -/
theorem Cau.ask (hf : X.env.frame = some X.env.locals) (c : Cau X pins σ H cls d a B z t) {x : Str} {cv : Value} {b : Bool} {name : Option Str} {b₀ : Stmt} {suite : List Stmt} {np pos : Pos} {rest : List ExceptHandler} {Q : Flow → Shared → Prop} (hc : Names X x cv) (hb : PySem.W.exmOne X.K cls cv = some b)
    (yes : b = true → codeAny (model X.prog X.w) (X.A.mark (some (.ref a))) (.handlers (.ref a) [.ExceptHandler none name (b₀ :: suite) pos] X.env) (fun r t2 => match r with
      | .ok f => (match name with
        | none => Q f t2
        | some n => wpAny (model X.prog X.w) X.A (do bindName X.env n .none; unbindBehindTheSuite X.env n pos) (fun _ t3 => Q f t3) X.xe t2)
      | .error e => cameBackBy (model X.prog X.w) X.A X.env X.xe e t2) t)
    (no : b = false → wpAny (model X.prog X.w) X.A (handleBy (.ref a) X.env rest) Q X.xe t) :
    wpAny (model X.prog X.w) X.A (handleBy (.ref a) X.env (.ExceptHandler (some (.Name x np)) name (b₀ :: suite) pos :: rest)) Q X.xe t := by
  obtain ⟨oe, g1, g2, _, S⟩ := c.in_suite hf
  have ty : PySem.W.Looks (model X.prog X.w) t.heap (typeOf (.ref a)) cls := fun A' Q' E' s' k q => wpAny_typeOf_ref (k _ _ g1) (by rw [g2.1]; exact q)
  have hit := PySem.W.exm_one (M := model X.prog X.w) c.here.kIn ty hb
  refine wpAny_handleBy_cons (codeAny_handlers_test ?_) (by intro q; cases q)
  have ev : ∀ {Q' : Value → Shared → Prop} {E' : Value → Shared → Prop}, Q' cv t → wpAny (model X.prog X.w) (X.A.mark (some (.ref a))) (eval (.Name x np) X.env) Q' E' t := fun {Q' E'} q => by
    obtain ⟨n1, n2, n3 | ⟨n3, n4, n5⟩⟩ := hc
    · exact ld_glob (X := X.suite a ((a, oe) :: (X.pn ++ pins))) S n1 n3 q n2
    · exact ld_blt (X := X.suite a ((a, oe) :: (X.pn ++ pins))) S n1 n3 n4 q n5 n2
  refine ev (hit.here ?_)
  cases b with
  | true => exact yes rfl
  | false => exact no rfl
end
/-- a clause: its class, its name's slot, its suite's reading -/
structure ClR where
  c : Value
  i : Option Nat
  ts : Addr → Value → Option Addr → TS
def endsI (i : Option Nat) (D : Ends) : Ends := match i with
  | none => D
  | some i => { nx := fun σ H => D.nx (σ.set i none) H, rt := D.rt, bk := fun σ H => D.bk (σ.set i none) H, ct := fun σ H => D.ct (σ.set i none) H }
def setI (i : Option Nat) (a : Addr) (σ : L2.St) : L2.St := match i with
  | none => σ
  | some i => σ.set i (some (.ref a))
def wCls (K : PySem.W.Frag) (Wout : WX) (D : Ends) : List ClR → WX
  | [] => Wout
  | z :: r => fun cls d σ H => ∃ b, PySem.W.exmOne K cls z.c = some b ∧ (b = true → ∀ a, H a = none → z.ts a cls d (endsI z.i D) (setI z.i a σ) H) ∧ (b = false → wCls K Wout D r cls d σ H)
inductive ClsOk (X : Cx) : List ExceptHandler → List ClR → Prop
  | nil : ClsOk X [] []
  | plain {x : Str} {z : ClR} {b₀ : Stmt} {suite : List Stmt} {np pos : Pos} {hds : List ExceptHandler} {l : List ClR} (hc : Names X x z.c) (hi : z.i = none)
      (hsu : ∀ (a : Addr) (oe : Obj) (cls : Value) (d : Option Addr) (pn : List (Addr × Obj)), Zc cls d oe → (∃ vs, oe.data = .fields vs) → PSs (X.suite a ((a, oe) :: pn)) (b₀ :: suite) (z.ts a cls d)) (r : ClsOk X hds l) :
      ClsOk X (.ExceptHandler (some (.Name x np)) none (b₀ :: suite) pos :: hds) (z :: l)
  | named {x n : Str} {z : ClR} {i : Nat} {b₀ : Stmt} {suite : List Stmt} {np pos : Pos} {hds : List ExceptHandler} {l : List ClR} (hc : Names X x z.c) (hi : z.i = some i) (hN : X.N[i]? = some n) (hl : X.env.kindOf n = some .local)
      (hsu : ∀ (a : Addr) (oe : Obj) (cls : Value) (d : Option Addr) (pn : List (Addr × Obj)), Zc cls d oe → (∃ vs, oe.data = .fields vs) → PSs (X.suite a ((a, oe) :: pn)) (b₀ :: suite) (z.ts a cls d)) (r : ClsOk X hds l) :
      ClsOk X (.ExceptHandler (some (.Name x np)) (some n) (b₀ :: suite) pos :: hds) (z :: l)
theorem run_cls {X : Cx} (hs : X.stack = X.env :: X.outer) (hf : X.env.frame = some X.env.locals) (hN : X.N.Nodup) {pins : List (Addr × Obj)} {σ : L2.St} {H : Hp} {cls : Value} {d : Option Addr} {a : Addr} {B : Heap} {z t : Shared} {Wout : WX} {D : Ends} (c : Cau X pins σ H cls d a B z t) (tk : Takes X Wout) :
    ∀ {hds : List ExceptHandler} {l : List ClR}, ClsOk X hds l → wCls X.K Wout D l cls d σ H → wpAny (model X.prog X.w) X.A (handleBy (.ref a) X.env hds) (SP X pins D) X.xe t := by
  intro hds l hk
  have ok := c.inv.ok
  induction hk with
  | nil => exact fun q => c.pass hs hf tk q
  | @plain x z b₀ suite np pos hds l hc hi hsu r ih =>
    rintro ⟨b, q1, q2, q3⟩
    refine c.ask hf hc q1 (fun hb => codeAny_handlers_suite (HandSPX.lands_againZ c.fly fun h f u => ?_)) fun hb => ih (q3 hb)
    have c2 := c.move f u
    obtain ⟨oe, g1, g2, g3, S⟩ := c2.in_suite hf
    have q := q2 hb a c.new
    rw [hi] at q
    refine wpAny_mono ((hsu a oe cls d (X.pn ++ pins) g2 g3).run [] _ _ H _ S q) (fun fl t2 w => ?_) (fun _ _ w => w.elim)
    cases fl with
    | next => obtain ⟨σ2, H2, S2, w⟩ := w; exact ⟨σ2, H2, S2.unsuite ok, w⟩
    | brk => obtain ⟨σ2, H2, S2, w⟩ := w; exact ⟨σ2, H2, S2.unsuite ok, w⟩
    | cont => obtain ⟨σ2, H2, S2, w⟩ := w; exact ⟨σ2, H2, S2.unsuite ok, w⟩
    | ret u => obtain ⟨v2, σ2, H2, S2, r2, w⟩ := w; exact ⟨v2, σ2, H2, S2.unsuite ok, r2, w⟩
  | @named x n z i b₀ suite np pos hds l hc hi hNi hl hsu r ih =>
    rintro ⟨b, q1, q2, q3⟩
    refine c.ask hf hc q1 (fun hb => codeAny_handlers_suite_as (HandSPX.lands_againZ c.fly fun h f u => ?_)) fun hb => ih (q3 hb)
    have c2 := c.move f u
    obtain ⟨oe, g1, g2, g3, S⟩ := c2.in_suite hf
    have q := q2 hb a c.new
    rw [hi] at q
    refine store_ok (X := X.suite a ((a, oe) :: (X.pn ++ pins))) (v := .ref a) S hN hNi (.inl hl) rfl (fun t1 S1 => ?_) (.inr hl)
    refine wpAny_mono ((hsu a oe cls d (X.pn ++ pins) g2 g3).run [] t1 _ H _ S1 q) (fun fl t2 w => ?_) (fun _ _ w => w.elim)
    have clear : ∀ {σ2 : L2.St} {H2 : Hp} {R : Shared → Prop}, Inv (X.suite a ((a, oe) :: (X.pn ++ pins))) [] σ2 H2 t2 → (∀ t3, Inv X pins (σ2.set i none) H2 t3 → R t3) →
        wpAny (model X.prog X.w) X.A (do bindName X.env n .none; unbindBehindTheSuite X.env n pos) (fun _ t3 => R t3) X.xe t2 := fun {σ2 H2 R} S2 k => gone_ok (S2.unsuite ok) hN hNi hl k
    cases fl with
    | next => obtain ⟨σ2, H2, S2, w⟩ := w; exact clear S2 fun t3 J => ⟨_, _, J, w⟩
    | brk => obtain ⟨σ2, H2, S2, w⟩ := w; exact clear S2 fun t3 J => ⟨_, _, J, w⟩
    | cont => obtain ⟨σ2, H2, S2, w⟩ := w; exact clear S2 fun t3 J => ⟨_, _, J, w⟩
    | ret u => obtain ⟨v2, σ2, H2, S2, r2, w⟩ := w; exact clear S2 fun t3 J => ⟨_, _, _, J, r2, w⟩
theorem ps_try_cls {X : Cx} {body : List Stmt} {h₀ : ExceptHandler} {hds : List ExceptHandler} {l : List ClR} {pos : Pos} {tb : WX → TS} {Wout : WX} (hs : X.stack = X.env :: X.outer) (hf : X.env.frame = some X.env.locals) (hN : X.N.Nodup) (tk : Takes X Wout)
    (hb : ∀ (W : WX) (pn : List (Addr × Obj)) (xe : Value → Shared → Prop), Takes (X.tr pn xe) W → PassesOwn (model X.prog X.w) X.A X.env xe → PSs (X.tr pn xe) body (tb W)) (hh : ClsOk X (h₀ :: hds) l) : PS X (.Try body (h₀ :: hds) [] [] pos) (fun D σ H => tb (wCls X.K Wout D l) D σ H) := by
  refine ⟨fun pins s σ H D I h => wpAny_Try_except ?_⟩
  have ok := I.ok
  have hfr : X.A.frames = some (X.env :: X.outer) := ok.frames.trans (by rw [hs])
  let xe : Value → Shared → Prop := fun e t1 => wpAny (model X.prog X.w) X.A (noteFrame e X.env) (fun _ t2 => wpAny (model X.prog X.w) X.A (setFlight e none) (fun _ t3 => wpAny (model X.prog X.w) X.A (handleBy e X.env (h₀ :: hds)) (SP X pins D) X.xe t3) X.xe t2) X.xe t1
  refine wpAny_mono ((hb (wCls X.K Wout D l) (X.pn ++ pins) xe (fun u t1 w => ?_) PassesOwn.looking).run [] s σ H D (I.toTry xe) h) (fun fl t1 w => ?_) fun e t1 w => w
  · obtain ⟨a, B, z, pins', σ', H', cls, d, rfl, J, old, up, sky, na, os, ag, w⟩ := w
    rw [show (X.tr (X.pn ++ pins) xe).stack = X.env :: X.outer from hs] at sky
    exact Sky.land Zc.steady hfr hf sky fun h fl u2 => run_cls hs hf hN (z := z) (t := { t1 with heap := h }) ⟨J.ofTry ok, old, up.trans u2, fl, na, os, ag⟩ tk hh w
  · cases fl with
    | next => obtain ⟨σ', H', J, q⟩ := w; exact wpAny_execs_nil ⟨σ', H', J.ofTry ok, q⟩
    | brk => obtain ⟨σ', H', J, q⟩ := w; exact ⟨σ', H', J.ofTry ok, q⟩
    | cont => obtain ⟨σ', H', J, q⟩ := w; exact ⟨σ', H', J.ofTry ok, q⟩
    | ret u => obtain ⟨v, σ', H', J, r, q⟩ := w; exact ⟨v, σ', H', J.ofTry ok, r, q⟩

/-! ### by data -/
structure ClM where
  tab : Nat → Option Bool
  i : Option Nat
  mh : Nat → List (Str × D) → MS
def gI (i : Option Nat) (g : Gm) : Gm := match i with
  | none => g
  | some i => g.set i none
def outI (i : Option Nat) : Out → Option Out
  | .nx g => some (.nx (gI i g))
  | .bk g => some (.bk (gI i g))
  | .ct g => some (.ct (gI i g))
  | .rt d => some (.rt d)
  | .ex _ _ _ => none
def mCls : List ClM → Nat → List (Str × D) → MS
  | [], c, fs => fun g S => some (.ex g c fs, S)
  | z :: r, c, fs => fun g S => match z.tab c with
    | some true => match z.mh c fs (gI z.i g) S with
      | some (o, S2) => (outI z.i o).map fun o' => (o', S2)
      | none => none
    | some false => mCls r c fs g S
    | none => none
def mTryN (mb : MS) (l : List ClM) : MS := fun g S => match mb g S with
  | some (.ex g1 c fs, S1) => mCls l c fs g1 S1
  | r => r
/-- a clause's mirror stands for its reading -/
def hdI (i : Option Nat) (a : Addr) : Option (Nat × Addr) := i.map fun i => (i, a)
def clR (X : Cx) (cl : Cl) (cv : Value) (z : ClM) : ClR := ⟨cv, z.i, fun a cls d D σ H => ∃ c fs, cls = .ref (cl.at_ c) ∧ z.tab c = some true ∧ tMS X.K (clE X.K cl fs d (hdI z.i a)) (fun _ => False) (z.mh c fs) D σ H⟩
inductive ClsMk (X : Cx) (cl : Cl) : List ExceptHandler → List ClM → List ClR → Prop
  | nil : ClsMk X cl [] [] []
  | plain {x : Str} {cv : Value} {tab : Nat → Option Bool} {mh : Nat → List (Str × D) → MS} {b₀ : Stmt} {suite : List Stmt} {np pos : Pos} {hds : List ExceptHandler} {l : List ClM} {lr : List ClR} (hc : Names X x cv) (hx : ∀ c b, tab c = some b → PySem.W.exmOne X.K (.ref (cl.at_ c)) cv = some b)
      (hS : ∀ (a : Addr) (oe : Obj) (c : Nat) (fs : List (Str × D)) (d : Option Addr) (pn : List (Addr × Obj)), tab c = some true → Zc (.ref (cl.at_ c)) d oe → (∃ vs, oe.data = .fields vs) → RSs (X.suite a ((a, oe) :: pn)) (clE X.K cl fs d none) (fun _ => False) (b₀ :: suite) (mh c fs)) (r : ClsMk X cl hds l lr) :
      ClsMk X cl (.ExceptHandler (some (.Name x np)) none (b₀ :: suite) pos :: hds) (⟨tab, none, mh⟩ :: l) (clR X cl cv ⟨tab, none, mh⟩ :: lr)
  | named {i : Nat} {x n : Str} {cv : Value} {tab : Nat → Option Bool} {mh : Nat → List (Str × D) → MS} {b₀ : Stmt} {suite : List Stmt} {np pos : Pos} {hds : List ExceptHandler} {l : List ClM} {lr : List ClR} (hc : Names X x cv) (hx : ∀ c b, tab c = some b → PySem.W.exmOne X.K (.ref (cl.at_ c)) cv = some b) (hN : X.N[i]? = some n) (hl : X.env.kindOf n = some .local)
      (hS : ∀ (a : Addr) (oe : Obj) (c : Nat) (fs : List (Str × D)) (d : Option Addr) (pn : List (Addr × Obj)), tab c = some true → Zc (.ref (cl.at_ c)) d oe → (∃ vs, oe.data = .fields vs) → RSs (X.suite a ((a, oe) :: pn)) (clE X.K cl fs d (some (i, a))) (fun _ => False) (b₀ :: suite) (mh c fs)) (r : ClsMk X cl hds l lr) :
      ClsMk X cl (.ExceptHandler (some (.Name x np)) (some n) (b₀ :: suite) pos :: hds) (⟨tab, some i, mh⟩ :: l) (clR X cl cv ⟨tab, some i, mh⟩ :: lr)
section
variable {X : Cx} {cl : Cl} {tk : WX → Prop} [T : Tk X tk]
theorem ClsMk.ok : ∀ {hds : List ExceptHandler} {l : List ClM} {lr : List ClR}, ClsMk X cl hds l lr → ClsOk X hds lr := by
  intro hds l lr h
  induction h with
  | nil => exact .nil
  | plain hc hx hS r ih => exact .plain hc rfl (fun a oe cls d pn hz hf => ⟨fun pins s σ H D I ⟨c, fs, ec, et, q⟩ => by subst ec; exact (hS a oe c fs d pn et hz hf).run pins s σ H D I q⟩) ih
  | named hc hx hN hl hS r ih => exact .named hc rfl hN hl (fun a oe cls d pn hz hf => ⟨fun pins s σ H D I ⟨c, fs, ec, et, q⟩ => by subst ec; exact (hS a oe c fs d pn et hz hf).run pins s σ H D I q⟩) ih
/-- one clause takes it: nothing is wished of what goes on -/
theorem cls_take (hh : cl.hd = none) : ∀ {hds : List ExceptHandler} {l : List ClM} {lr : List ClR}, ClsMk X cl hds l lr → ∀ {c : Nat} {fs : List (Str × D)} {g : Gm} {S S' : Store} {o : Out} {φ : List Addr} {G H : Hp} {D : Ends}, mCls l c fs g S = some (o, S') → (∀ g c fs, o ≠ .ex g c fs) → Kos X.K cl tk φ G H o S' D →
    ∀ d σ' H', wOf X.K cl φ G H g S c fs (.ref (cl.at_ c)) d σ' H' → wCls X.K (fun _ _ _ _ => False) D lr (.ref (cl.at_ c)) d σ' H' := by
  intro hds l lr h
  have go : ∀ (tab : Nat → Option Bool) (i : Option Nat) (mh : Nat → List (Str × D) → MS) (l : List ClM) (lr : List ClR) (cv : Value), (∀ c b, tab c = some b → PySem.W.exmOne X.K (.ref (cl.at_ c)) cv = some b) →
      (∀ {c : Nat} {fs : List (Str × D)} {g : Gm} {S S' : Store} {o : Out} {φ : List Addr} {G H : Hp} {D : Ends}, mCls l c fs g S = some (o, S') → (∀ g c fs, o ≠ .ex g c fs) → Kos X.K cl tk φ G H o S' D → ∀ d σ' H', wOf X.K cl φ G H g S c fs (.ref (cl.at_ c)) d σ' H' → wCls X.K (fun _ _ _ _ => False) D lr (.ref (cl.at_ c)) d σ' H') →
      ∀ {c : Nat} {fs : List (Str × D)} {g : Gm} {S S' : Store} {o : Out} {φ : List Addr} {G H : Hp} {D : Ends}, mCls (⟨tab, i, mh⟩ :: l) c fs g S = some (o, S') → (∀ g c fs, o ≠ .ex g c fs) → Kos X.K cl tk φ G H o S' D → ∀ d σ' H', wOf X.K cl φ G H g S c fs (.ref (cl.at_ c)) d σ' H' → wCls X.K (fun _ _ _ _ => False) D (clR X cl cv ⟨tab, i, mh⟩ :: lr) (.ref (cl.at_ c)) d σ' H' := by
    intro tab i mh l lr cv hx ih c fs g S S' o φ G H D e ho k d σ' H' hw
    simp only [mCls] at e
    split at e
    · rename_i et
      split at e
      · rename_i o2 S2 q2
        cases e2 : outI i o2 with
        | none => rw [e2] at e; cases e
        | some o' =>
          rw [e2] at e
          cases e
          obtain ⟨φ', G', ⟨st, w', ec, hfo⟩, sl'⟩ := hw
          refine ⟨true, hx c true et, fun _ a ha => ⟨c, fs, rfl, et, φ', G', gI i g, S, o2, S', w'.toE hfo, ?_, q2, ?_⟩, fun z => by cases z⟩
          · cases i with
            | none => exact sl'.toO
            | some i => exact sl'.toE
          · cases o2 with
            | nx g2 =>
              cases e2
              intro φ2 G2 H2 st2 w2 σ2 s2
              cases i with
              | none => exact k φ2 G2 H2 (st.trans st2) w2.ofE _ (s2.ofE hh)
              | some i => exact k φ2 G2 H2 (st.trans st2) w2.ofE _ ((s2.ofE hh).wipe hh)
            | bk g2 =>
              cases e2
              intro φ2 G2 H2 st2 w2 σ2 s2
              cases i with
              | none => exact k φ2 G2 H2 (st.trans st2) w2.ofE _ (s2.ofE hh)
              | some i => exact k φ2 G2 H2 (st.trans st2) w2.ofE _ ((s2.ofE hh).wipe hh)
            | ct g2 =>
              cases e2
              intro φ2 G2 H2 st2 w2 σ2 s2
              cases i with
              | none => exact k φ2 G2 H2 (st.trans st2) w2.ofE _ (s2.ofE hh)
              | some i => exact k φ2 G2 H2 (st.trans st2) w2.ofE _ ((s2.ofE hh).wipe hh)
            | rt d2 =>
              cases e2
              intro φ2 G2 H2 st2 w2 v hv
              cases i with
              | none => exact k φ2 G2 H2 (st.trans st2) w2.ofE v hv
              | some i => exact k φ2 G2 H2 (st.trans st2) w2.ofE v hv
            | ex g2 c2 fs2 => cases e2
      · cases e
    · rename_i et
      exact ⟨false, hx c false et, fun z => (by cases z), fun _ => ih e ho k d σ' H' hw⟩
    · cases e
  induction h with
  | nil => intro c fs g S S' o φ G H D e ho k; cases e; exact absurd rfl (ho g c fs)
  | plain hc hx hS r ih => exact go _ _ _ _ _ _ hx ih
  | named hc hx hN hl hS r ih => exact go _ _ _ _ _ _ hx ih
/-- no clause takes it -/
theorem cls_pass : ∀ {hds : List ExceptHandler} {l : List ClM} {lr : List ClR}, ClsMk X cl hds l lr → ∀ {c c2 : Nat} {fs fs2 : List (Str × D)} {g g2 : Gm} {S S' : Store} {D : Ends} {W : WX} {d : Option Addr} {σ' : L2.St} {H' : Hp}, mCls l c fs g S = some (.ex g2 c2 fs2, S') →
    (g2 = g ∧ c2 = c ∧ fs2 = fs ∧ S' = S) ∧ (W (.ref (cl.at_ c)) d σ' H' → wCls X.K W D lr (.ref (cl.at_ c)) d σ' H') := by
  intro hds l lr h
  have noEx : ∀ {i : Option Nat} {o : Out} {g : Gm} {c : Nat} {fs : List (Str × D)}, outI i o ≠ some (.ex g c fs) := fun {i o g c fs} z => by cases o <;> cases z
  have go : ∀ (tab : Nat → Option Bool) (i : Option Nat) (mh : Nat → List (Str × D) → MS) (l : List ClM) (lr : List ClR) (cv : Value), (∀ c b, tab c = some b → PySem.W.exmOne X.K (.ref (cl.at_ c)) cv = some b) →
      (∀ {c c2 : Nat} {fs fs2 : List (Str × D)} {g g2 : Gm} {S S' : Store} {D : Ends} {W : WX} {d : Option Addr} {σ' : L2.St} {H' : Hp}, mCls l c fs g S = some (.ex g2 c2 fs2, S') → (g2 = g ∧ c2 = c ∧ fs2 = fs ∧ S' = S) ∧ (W (.ref (cl.at_ c)) d σ' H' → wCls X.K W D lr (.ref (cl.at_ c)) d σ' H')) →
      ∀ {c c2 : Nat} {fs fs2 : List (Str × D)} {g g2 : Gm} {S S' : Store} {D : Ends} {W : WX} {d : Option Addr} {σ' : L2.St} {H' : Hp}, mCls (⟨tab, i, mh⟩ :: l) c fs g S = some (.ex g2 c2 fs2, S') → (g2 = g ∧ c2 = c ∧ fs2 = fs ∧ S' = S) ∧ (W (.ref (cl.at_ c)) d σ' H' → wCls X.K W D (clR X cl cv ⟨tab, i, mh⟩ :: lr) (.ref (cl.at_ c)) d σ' H') := by
    intro tab i mh l lr cv hx ih c c2 fs fs2 g g2 S S' D W d σ' H' e
    simp only [mCls] at e
    split at e
    · split at e
      · rename_i o2 S2 q2
        cases e2 : outI i o2 with
        | none => rw [e2] at e; cases e
        | some o' => rw [e2] at e; cases e; exact absurd e2 noEx
      · cases e
    · rename_i et
      obtain ⟨h1, h2⟩ := ih (D := D) (W := W) (d := d) (σ' := σ') (H' := H') e
      exact ⟨h1, fun w => ⟨false, hx c false et, fun z => (by cases z), fun _ => h2 w⟩⟩
    · cases e
  induction h with
  | nil => intro c c2 fs fs2 g g2 S S' D W d σ' H' e; cases e; exact ⟨⟨rfl, rfl, rfl, rfl⟩, fun w => w⟩
  | plain hc hx hS r ih => exact go _ _ _ _ _ _ hx ih
  | named hc hx hN hl hS r ih => exact go _ _ _ _ _ _ hx ih
theorem rs_tryN {body : List Stmt} {h₀ : ExceptHandler} {hds : List ExceptHandler} {pos : Pos} {mb : MS} {l : List ClM} {lr : List ClR} (hN : X.N.Nodup) (hk : ClsMk X cl (h₀ :: hds) l lr)
    (hb : ∀ (W : WX) (pn : List (Addr × Obj)) (xe : Value → Shared → Prop), Tk (X.tr pn xe) (leW W) → PassesOwn (model X.prog X.w) X.A X.env xe → RSs (X.tr pn xe) cl (leW W) body mb)
    (hs : X.stack = X.env :: X.outer := by rfl) (hf : X.env.frame = some X.env.locals := by rfl) (hh : cl.hd = none := by rfl) : RS X cl tk (.Try body (h₀ :: hds) [] [] pos) (mTryN mb l) := by
  refine ⟨fun pins s σ H D I ⟨φ, G, g, S, o, S', w, sl, e, k⟩ => ?_⟩
  have main : ∀ Wout : WX, Takes X Wout → tMS X.K cl (leW (wCls X.K Wout D lr)) mb D σ H → wpAny (model X.prog X.w) X.A (exec (.Try body (h₀ :: hds) [] [] pos) X.env) (SP X pins D) X.xe s := fun Wout tkW h =>
    (ps_try_cls (tb := fun W => tMS X.K cl (leW W) mb) (Wout := Wout) hs hf hN tkW (fun W pn xe t hp => hb W pn xe (tk_le t) hp) hk.ok).run pins s σ H D I h
  unfold mTryN at e
  split at e
  · rename_i g1 c fs S1 q
    by_cases ho : ∃ g2 c2 fs2, o = .ex g2 c2 fs2
    · obtain ⟨g2, c2, fs2, rfl⟩ := ho
      obtain ⟨⟨rfl, rfl, rfl, rfl⟩, _⟩ := cls_pass hk (D := D) (W := fun _ _ _ _ => False) (d := none) (σ' := σ) (H' := H) e
      refine main _ (T.tk _ k) ⟨φ, G, g, S, _, _, w, sl, q, ?_⟩
      intro cls dd σ' H' hw
      obtain ⟨φ', G', ⟨st, w', ec, hfo⟩, sl'⟩ := id hw
      subst ec
      exact (cls_pass hk e).2 hw
    · refine main (fun _ _ _ _ => False) takes0 ⟨φ, G, g, S, _, _, w, sl, q, ?_⟩
      intro cls dd σ' H' hw
      obtain ⟨φ', G', ⟨st, w', ec, hfo⟩, sl'⟩ := id hw
      subst ec
      exact cls_take hh hk e (fun g c fs z => ho ⟨g, c, fs, z⟩) k dd σ' H' hw
  · rename_i hn
    exact main (fun _ _ _ _ => False) takes0 ⟨φ, G, g, S, o, S', w, sl, e, kos_le k fun g c fs z => by subst z; exact hn g c fs S' e⟩
end
end Mi
namespace Mi
open PySem L2
/-! ### is True, is False -/
def fIsB : Store → D → D → Option D := fun _ d e => match d, e with
  | .bl a, .bl b => some (.bl (decide (a = b)))
  | _, _ => none
def fNotB : Store → D → D → Option D := fun _ d e => match d, e with
  | .bl a, .bl b => some (.bl (!decide (a = b)))
  | _, _ => none
section
variable {K : PySem.W.Frag} {cl : Cl}
theorem fIsB_rel : RelS K cl rIsB fIsB := fun φ S G H x y d e z Q w h1 h2 h3 => by
  unfold fIsB at h3
  split at h3
  · cases h3
    simp only [IsD] at h1 h2
    exact ⟨_, rfl, fun k => ⟨_, _, h1, h2, k⟩⟩
  · cases h3
theorem fNotB_rel : RelS K cl rNotB fNotB := fun φ S G H x y d e z Q w h1 h2 h3 => by
  unfold fNotB at h3
  split at h3
  · cases h3
    simp only [IsD] at h1 h2
    exact ⟨_, rfl, fun k => ⟨_, _, h1, h2, k⟩⟩
  · cases h3
end
section
variable {X : Cx} {cl : Cl} {tk : WX → Prop} [T : Tk X tk]
/-! ### a constant read off its class -/
structure ConC (K : PySem.W.Frag) (C : Addr) (f : Str) (v : V) : Prop where
  ex : ∃ mc u, PySem.W.readsIn K C mc = true ∧ PySem.W.findCls K (.ref C) mc f = some (.val u) ∧ PySem.W.handedIn u = true ∧ RelV v u
theorem re_clsC {x f : Str} {C : Addr} {v : V} {d : D} {p pos : Pos} (hm : X.mg x = some (.ref C)) (hc : ConC X.K C f v) (hd : ∀ φ G, IsD X.K φ G d v) (hg : Gl X x := by rfl) (hdb : (x == ("__debug__" : Str)) = false := by decide)
    (hb : attributeBase (.Name x p) f X.env (eval (.Name x p) X.env) = eval (.Name x p) X.env := by rfl) : RE X cl tk (.Attribute (.Name x p) f pos) (mP d) := by
  refine ⟨fun pins s σ H Q I ⟨φ, G, g, S, r, S', w, sl, e, k⟩ => ?_⟩
  cases e
  obtain ⟨mc, u, h1, h2, h3, h4⟩ := hc.ex
  exact attr_of hb (ld_glob I hg hm (PySem.W.cls_value I.kIn h1 h2 h3 ⟨v, H, I.tok _, h4, k.now w v (hd _ _)⟩) hdb)

/-! ### list(x) as a cell -/
noncomputable def mListC (m : M (List D)) : M D := mB m fun ds => fun _ S => match ds with
  | [d] => match asL S d with
    | some l => some (.ok (.ref S.length), S ++ [.lst l])
    | none => none
  | _ => none
theorem re_listC {p pos : Pos} {e : Expr} {m : M (List D)} (hm : X.mg "list" = none) (ha : RA X cl tk [e] m) (hg : Gl X "list" := by rfl)
    (he : starEach [e] X.env = (false, eval e X.env) :: starEach [] X.env := by rfl) (hpl : (backTo pos (starEach [] X.env)).any (·.1) = false := by rfl) : RE X cl tk (.Call (.Name "list" p) [e] [] pos) (mListC m) := by
  refine pe_imp (pe_callTy call_list_of hg hm PyProof.Rows.boot_list ha (by decide) (by decide) he hpl) fun σ H Q ⟨φ, G, g, S, r, S', w, s, e, k⟩ => ?_
  refine tMA_bind T.ok w s e k fun ds φ1 G1 H1 S1 xs st1 w1 s1 hxs e1 k1 => ?_
  split at e1
  · rename_i d
    split at e1
    · rename_i l q
      cases e1
      obtain ⟨v, r, rfl, hv, hr⟩ := hxs.cons_inv
      rw [hr.nil_inv]
      obtain ⟨a, ys, rfl, h1, h2⟩ := asL_sq w1 hv q
      exact ⟨a, ys, rfl, h1, fun p hp => k1 _ _ _ (cell_step w1 hp _) (cell_wd w1 hp fun φ' G' H' p1 p2 h3 => ⟨_, h3, h2.mono p1 p2⟩) _ (cell_ref w1.len)⟩
    · cases e1
  · cases e1

/-! ### a comprehension as a cell -/
noncomputable def mLcC (vs : List Nat) (mi : M Src) (b : Bind) (mt : M Bool) (me : M D) : M D := mB mi fun src => fun g S =>
  match lcGo src b mt me (wipeG g vs) src.1 [] S with
  | some (l, S1) => some (.ok (.ref S1.length), S1 ++ [.lst l])
  | none => none
theorem LcSt.cell {K : PySem.W.Frag} {φ1 : List Addr} {G1 H1 : Hp} {S : Store} {acc : List D} {L : Addr} {H : Hp} {φ : List Addr} {G : Hp} (hL : H1 L = none) (a : LcSt K cl φ1 G1 H1 S acc L H φ G) :
    Step φ1 G1 H1 (φ ++ [L]) G H ∧ Wd K cl (φ ++ [L]) (S ++ [.lst acc]) G H ∧ IsD K (φ ++ [L]) G (.ref S.length) (.ref L) := by
  obtain ⟨vs, h1, h2⟩ := a.at_
  have low : ∀ {i : Nat} {x : Addr}, (φ ++ [L])[i]? = some x → φ[i]? = some x ∨ (i = S.length ∧ x = L) := fun {i x} h => by
    by_cases hi : i < φ.length
    · rw [List.getElem?_append_left hi] at h; exact .inl h
    · rw [List.getElem?_append_right (by omega)] at h
      have hj := (List.getElem?_eq_some_iff.mp h).1
      simp at hj
      have e0 : i - φ.length = 0 := by omega
      rw [e0] at h
      simp at h
      exact .inr ⟨by rw [← a.w.len]; omega, h.symm⟩
  have cellAt : ∀ {i : Nat} {c : Cell}, (S ++ [Cell.lst acc])[i]? = some c → (S[i]? = some c) ∨ (i = S.length ∧ c = .lst acc) := fun {i c} h => by
    by_cases hi : i < S.length
    · rw [List.getElem?_append_left hi] at h; exact .inl h
    · rw [List.getElem?_append_right (by omega)] at h
      have hj := (List.getElem?_eq_some_iff.mp h).1
      simp at hj
      have e0 : i - S.length = 0 := by omega
      rw [e0] at h
      simp at h
      exact .inr ⟨by omega, h.symm⟩
  refine ⟨⟨a.st.pre.trans (List.prefix_append _ _), a.st.ex, a.st.gn, a.st.keep, fun x h => ?_⟩, ⟨by simp [a.w.len], a.w.sub, ?_, fun x h => ?_, fun i c x q1 q2 q3 => ?_, fun i c x q1 q2 => ?_, a.w.iv⟩, ?_⟩
  · rcases List.mem_append.mp h with h | h
    · exact a.st.new x h
    · rw [List.mem_singleton.mp h]; exact .inr hL
  · refine List.nodup_append.mpr ⟨a.w.nd, by simp, fun x hx y hy e => ?_⟩
    rw [List.mem_singleton.mp hy] at e
    exact a.nφ (by rw [← e]; exact hx)
  · rcases List.mem_append.mp h with h | h
    · exact a.w.tr x h
    · rw [List.mem_singleton.mp h, h1]; simp
  · rcases low q2 with h | ⟨rfl, rfl⟩
    · rcases cellAt q1 with h' | ⟨rfl, rfl⟩
      · exact a.w.ap i c x h' h q3
      · exact absurd (List.getElem?_eq_some_iff.mp h).1 (by rw [a.w.len]; omega)
    · exact a.g
  · rcases low q2 with h | ⟨rfl, rfl⟩
    · rcases cellAt q1 with h' | ⟨rfl, rfl⟩
      · exact (a.w.ok i c x h' h).mono (List.prefix_append _ _) (Ex.refl _) fun o z => z
      · exact absurd (List.getElem?_eq_some_iff.mp h).1 (by rw [a.w.len]; omega)
    · rcases cellAt q1 with h' | ⟨_, rfl⟩
      · exact absurd (List.getElem?_eq_some_iff.mp h').1 (by omega)
      · exact ⟨vs, h1, h2.mono (List.prefix_append _ _) (Ex.refl _)⟩
  · simp only [IsD]
    exact ⟨L, rfl, by rw [← a.w.len, List.getElem?_append_right (Nat.le_refl _)]; simp⟩
theorem tLcC_of (hh : cl.hd = none) {K : PySem.W.Frag} {vs : List Nat} {mi : M Src} {b : Bind} {mt : M Bool} {me : M D} (ht : TkOk tk) {σ : L2.St} {H : Hp} {Q : VK}
    (h : tM K cl tk (mLcC vs mi b mt me) σ H Q) : tLc (tI K cl tk mi) (tGw K cl vs b) (tMT K cl (fun _ => False) mt) (tM K cl (fun _ => False) me) vs σ H Q := by
  obtain ⟨φ, G, g, S, r, S', w, s, e, k⟩ := h
  rcases mB_ok e with ⟨src, S1, e1, e2⟩ | ⟨c, fs, e1, rfl⟩
  · split at e2
    · rename_i l S2 q
      cases e2
      refine tLc_core hh w s e1 q fun φ1 G1 H1 L φ' G' H' st1 hL a => ?_
      obtain ⟨h2, h3, h4⟩ := a.cell hL
      exact k _ _ _ (st1.trans h2) h3 _ h4
    · cases e2
  · exact ⟨φ, G, g, S, _, _, w, s, e1, k⟩
theorem re_lcC {elt tg iter : Expr} {ifs : List Expr} {scope : Scope} {own : List (Str × Nat)} {pos : Pos} {mi : M Src} {b : Bind} {mt : M Bool} {me : M D} (hN : X.N.Nodup) (hi : RI X cl tk tg iter mi) (ok : BlkOk X.N X.env.scope scope own)
    (hg : ∀ (s : Shared) (H : Hp) (C : Addr) (cc : List (Str × Addr)) (fp : List Addr), RGw (X.blk s H scope (compEnvC scope cc C X.env) fp) cl (own.map (·.2)) tg b)
    (ht : ∀ (s : Shared) (H : Hp) (C : Addr) (cc : List (Str × Addr)) (fp : List Addr), PTs (X.blk s H scope (compEnvC scope cc C X.env) fp) ifs (tMT X.K cl (fun _ => False) mt))
    (he : ∀ (s : Shared) (H : Hp) (C : Addr) (cc : List (Str × Addr)) (fp : List Addr), RE (X.blk s H scope (compEnvC scope cc C X.env) fp) cl (fun _ => False) elt me) (hc : X.calm = true := by rfl) (hs : ∀ x, foldedSetIterable iter X.env x = pure x := by intro _; rfl) (hh : cl.hd = none := by rfl) :
    RE X cl tk (.ListComp elt [⟨tg, iter, ifs, 0⟩] scope pos) (mLcC (own.map (·.2)) mi b mt me) :=
  pe_imp (pe_lc hc hN hi ok hg ht he hs) fun _ _ _ h => tLcC_of hh T.ok h
theorem rs_setLcC {i : Nat} {y : Str} {py : Pos} {elt tg iter : Expr} {ifs : List Expr} {scope : Scope} {own : List (Str × Nat)} {pos spos : Pos} {mi : M Src} {b : Bind} {mt : M Bool} {me : M D} (hN : X.N.Nodup) (hi : RI X cl tk tg iter mi) (ok : BlkOk X.N X.env.scope scope own)
    (hg : ∀ (s : Shared) (H : Hp) (C : Addr) (cc : List (Str × Addr)) (fp : List Addr), RGw (X.blk s H scope (compEnvC scope cc C X.env) fp) cl (own.map (·.2)) tg b)
    (ht : ∀ (s : Shared) (H : Hp) (C : Addr) (cc : List (Str × Addr)) (fp : List Addr), PTs (X.blk s H scope (compEnvC scope cc C X.env) fp) ifs (tMT X.K cl (fun _ => False) mt))
    (he : ∀ (s : Shared) (H : Hp) (C : Addr) (cc : List (Str × Addr)) (fp : List Addr), RE (X.blk s H scope (compEnvC scope cc C X.env) fp) cl (fun _ => False) elt me) (hsw : swapsWith (.ListComp elt [⟨tg, iter, ifs, 0⟩] scope pos) (some (.Name y py)) spos.line X.env = pure true)
    (hy : X.N[i]? = some y := by rfl) (hyl : X.env.scope.names.lookup y = some .local := by rfl) (hc : X.calm = true := by rfl) (hs : ∀ x, foldedSetIterable iter X.env x = pure x := by intro _; rfl) (hh : cl.hd = none := by rfl) :
    RS X cl tk (.Assign [.Name y py] (.ListComp elt [⟨tg, iter, ifs, 0⟩] scope pos) spos) (mSet i (mLcC (own.map (·.2)) mi b mt me)) := by
  refine ps_imp (ps_setLc (g := tGw X.K cl (own.map (·.2)) b) (te := tM X.K cl (fun _ => False) me) hc hN hy hyl hsw hi ok hg ht he hs) fun Dn σ H ⟨φ, G, g, S, o, S', w, s, e, k⟩ => ?_
  show tLc _ _ _ _ _ _ _ _
  refine tLcC_of hh T.ok ?_
  refine tM_stmt (f := fun d g S1 => some (.nx (g.set i (some d)), S1)) w s e k T.ok fun d φ1 G1 H1 S1 v st1 w1 s1 hv e1 k1 => ?_
  cases e1
  exact k1 φ1 G1 H1 (Step.refl _ _ _) w1 _ (s1.set hv)
end
end Mi
/-! printed by gen2.py -/
namespace Lw
open PySem L2 Mi
def top (i : Nat) : Stmt := PySem.Challenge.pw_elderreads_k07_memory_items.main.body.getD i (.Pass ⟨0, 0, 0, 0⟩)
abbrev s_law_pool : Stmt := top 8
def N_law_pool : List Str := ["_law_script", "_law_draws", "_law_cell", "_law_rest", "_law_k", "_law_one"]
theorem sc_law_pool : FnScope N_law_pool ["_law_script"] (defScope s_law_pool) := ⟨rfl, rfl, rfl, by decide +kernel, rfl, by decide +kernel, by decide +kernel⟩
abbrev s_law_draw : Stmt := top 9
def N_law_draw : List Str := ["_law_draws", "_law_k", "_law_many"]
theorem sc_law_draw : FnScope N_law_draw ["_law_draws", "_law_k", "_law_many"] (defScope s_law_draw) := ⟨rfl, rfl, rfl, by decide +kernel, rfl, by decide +kernel, by decide +kernel⟩
abbrev s_law_cells : Stmt := top 10
def N_law_cells : List Str := ["_law_draws", "_law_at", "_law_menu", "_law_names"]
theorem sc_law_cells : FnScope N_law_cells ["_law_draws", "_law_at"] (defScope s_law_cells) := ⟨rfl, rfl, rfl, by decide +kernel, rfl, by decide +kernel, by decide +kernel⟩
abbrev s_Memory__init_ : Stmt := inClass (top 6) 1
def N_Memory__init_ : List Str := ["self", "cells", "cell"]
theorem sc_Memory__init_ : FnScope N_Memory__init_ ["self", "cells"] (defScope s_Memory__init_) := ⟨rfl, rfl, rfl, by decide +kernel, rfl, by decide +kernel, by decide +kernel⟩
abbrev s_law_same : Stmt := top 11
def N_law_same : List Str := ["_law_actual", "_law_due", "_law_k"]
theorem sc_law_same : FnScope N_law_same ["_law_actual", "_law_due"] (defScope s_law_same) := ⟨rfl, rfl, rfl, by decide +kernel, rfl, by decide +kernel, by decide +kernel⟩
abbrev s_Memory__setitem_ : Stmt := inClass (top 6) 4
def N_Memory__setitem_ : List Str := ["self", "cell", "value"]
theorem sc_Memory__setitem_ : FnScope N_Memory__setitem_ ["self", "cell", "value"] (defScope s_Memory__setitem_) := ⟨rfl, rfl, rfl, by decide +kernel, rfl, by decide +kernel, by decide +kernel⟩
abbrev s_Memory__getitem_ : Stmt := inClass (top 6) 3
def N_Memory__getitem_ : List Str := ["self", "cell"]
theorem sc_Memory__getitem_ : FnScope N_Memory__getitem_ ["self", "cell"] (defScope s_Memory__getitem_) := ⟨rfl, rfl, rfl, by decide +kernel, rfl, by decide +kernel, by decide +kernel⟩
abbrev s_law_read : Stmt := top 13
def N_law_read : List Str := ["_law_memory", "_law_cell", "e"]
theorem sc_law_read : FnScope N_law_read ["_law_memory", "_law_cell"] (defScope s_law_read) := ⟨rfl, rfl, rfl, by decide +kernel, rfl, by decide +kernel, by decide +kernel⟩
abbrev s_Memory__len_ : Stmt := inClass (top 6) 7
def N_Memory__len_ : List Str := ["self"]
theorem sc_Memory__len_ : FnScope N_Memory__len_ ["self"] (defScope s_Memory__len_) := ⟨rfl, rfl, rfl, by decide +kernel, rfl, by decide +kernel, by decide +kernel⟩
abbrev s_Memory__contains_ : Stmt := inClass (top 6) 5
def N_Memory__contains_ : List Str := ["self", "cell"]
theorem sc_Memory__contains_ : FnScope N_Memory__contains_ ["self", "cell"] (defScope s_Memory__contains_) := ⟨rfl, rfl, rfl, by decide +kernel, rfl, by decide +kernel, by decide +kernel⟩
abbrev s_law_wide : Stmt := top 15
def N_law_wide : List Str := ["_law_draws", "_law_names", "_law_turn", "_law_memory", "_law_values", "_law_k", "_law_name"]
theorem sc_law_wide : FnScope N_law_wide ["_law_draws"] (defScope s_law_wide) := ⟨rfl, rfl, rfl, by decide +kernel, rfl, by decide +kernel, by decide +kernel⟩
abbrev s_law_agrees : Stmt := top 14
def N_law_agrees : List Str := ["_law_memory", "_law_cells_here", "_law_values", "_law_pairs", "_law_one", "_law_two", "_law_k", "_law_other", "_law_name"]
theorem sc_law_agrees : FnScope N_law_agrees ["_law_memory", "_law_cells_here", "_law_values"] (defScope s_law_agrees) := ⟨rfl, rfl, rfl, by decide +kernel, rfl, by decide +kernel, by decide +kernel⟩
abbrev s_law_stored : Stmt := top 12
def N_law_stored : List Str := ["_law_memory", "_law_cell", "_law_value", "e"]
theorem sc_law_stored : FnScope N_law_stored ["_law_memory", "_law_cell", "_law_value"] (defScope s_law_stored) := ⟨rfl, rfl, rfl, by decide +kernel, rfl, by decide +kernel, by decide +kernel⟩
abbrev s_law : Stmt := top 16
def N_law : List Str := ["_law_script", "_law_draws", "_law_cells_here", "_law_handed", "_law_memory", "_law_twin", "_law_values", "_law_k", "_law_value", "_law_names", "_law_which", "_law_due", "_law_name"]
theorem sc_law : FnScope N_law ["_law_script"] (defScope s_law) := ⟨rfl, rfl, rfl, by decide +kernel, rfl, by decide +kernel, by decide +kernel⟩
abbrev s_Memory__iter_ : Stmt := inClass (top 6) 6
def N_Memory__iter_ : List Str := ["self"]
theorem sc_Memory__iter_ : FnScope N_Memory__iter_ ["self"] (defScope s_Memory__iter_) := ⟨rfl, rfl, rfl, by decide +kernel, rfl, by decide +kernel, by decide +kernel⟩
abbrev s_OutOfRange__init_ : Stmt := inClass (top 4) 0
theorem sc_OutOfRange__init_ : SScope ["self", "value"] ["self", "value"] (defScope s_OutOfRange__init_) := ⟨rfl, rfl, rfl, by decide +kernel, rfl, by decide +kernel, by decide +kernel, by decide +kernel⟩
abbrev s_UnknownCell__init_ : Stmt := inClass (top 3) 0
theorem sc_UnknownCell__init_ : SScope ["self", "cell"] ["self", "cell"] (defScope s_UnknownCell__init_) := ⟨rfl, rfl, rfl, by decide +kernel, rfl, by decide +kernel, by decide +kernel, by decide +kernel⟩
abbrev cx_OutOfRange : Nat := 0
abbrev cx_UnknownCell : Nat := 1
abbrev cx_ElderError : Nat := 2
abbrev cx_Memory : Nat := 3
def tb_UnknownCell : Nat → Option Bool
  | 0 => some false
  | 1 => some true
  | _ => none
theorem tb_UnknownCell_lt {c : Nat} {b : Bool} (h : tb_UnknownCell c = some b) : c < 2 := by
  unfold tb_UnknownCell at h; split at h <;> first | decide | cases h
def tb_OutOfRange : Nat → Option Bool
  | 0 => some true
  | 1 => some false
  | _ => none
theorem tb_OutOfRange_lt {c : Nat} {b : Bool} (h : tb_OutOfRange c = some b) : c < 2 := by
  unfold tb_OutOfRange at h; split at h <;> first | decide | cases h
def tb_ElderError : Nat → Option Bool
  | 0 => some true
  | 1 => some true
  | _ => none
theorem tb_ElderError_lt {c : Nat} {b : Bool} (h : tb_ElderError c = some b) : c < 2 := by
  unfold tb_ElderError at h; split at h <;> first | decide | cases h
structure Txt (P : Program) (K : PySem.W.Frag) (mg : Str → Option Value) (a : Nat → Addr) (fd : Nat → FuncData) (e : Nat → Addr) : Prop where
  n_abs : mg "abs" = none
  n_all : mg "all" = none
  n_bool : mg "bool" = none
  n_int : mg "int" = none
  n_isinstance : mg "isinstance" = none
  n_iter : mg "iter" = none
  n_len : mg "len" = none
  n_list : mg "list" = none
  n_range : mg "range" = none
  n_str : mg "str" = none
  n_sum : mg "sum" = none
  n_tuple : mg "tuple" = none
  F_law_pool : Fun K "_law_pool" "_law_pool" s_law_pool (a 0) (fd 0)
  g_law_pool : mg "_law_pool" = some (.ref (a 0))
  b_law_pool : L2.Binds K (fd 0) ["_law_script"] []
  F_law_draw : Fun K "_law_draw" "_law_draw" s_law_draw (a 1) (fd 1)
  g_law_draw : mg "_law_draw" = some (.ref (a 1))
  b_law_draw : L2.Binds K (fd 1) ["_law_draws", "_law_k", "_law_many"] []
  F_law_cells : Fun K "_law_cells" "_law_cells" s_law_cells (a 2) (fd 2)
  g_law_cells : mg "_law_cells" = some (.ref (a 2))
  b_law_cells : L2.Binds K (fd 2) ["_law_draws", "_law_at"] []
  F_Memory__init_ : Fun K "__init__" "Memory.__init__" s_Memory__init_ (a 3) (fd 3)
  b_Memory__init_ : L2.Binds K (fd 3) ["self", "cells"] []
  F_law_same : Fun K "_law_same" "_law_same" s_law_same (a 4) (fd 4)
  g_law_same : mg "_law_same" = some (.ref (a 4))
  b_law_same : L2.Binds K (fd 4) ["_law_actual", "_law_due"] []
  F_Memory__setitem_ : Fun K "__setitem__" "Memory.__setitem__" s_Memory__setitem_ (a 5) (fd 5)
  b_Memory__setitem_ : L2.Binds K (fd 5) ["self", "cell", "value"] []
  F_Memory__getitem_ : Fun K "__getitem__" "Memory.__getitem__" s_Memory__getitem_ (a 6) (fd 6)
  b_Memory__getitem_ : L2.Binds K (fd 6) ["self", "cell"] []
  F_law_read : Fun K "_law_read" "_law_read" s_law_read (a 7) (fd 7)
  g_law_read : mg "_law_read" = some (.ref (a 7))
  b_law_read : L2.Binds K (fd 7) ["_law_memory", "_law_cell"] []
  F_Memory__len_ : Fun K "__len__" "Memory.__len__" s_Memory__len_ (a 8) (fd 8)
  b_Memory__len_ : L2.Binds K (fd 8) ["self"] []
  F_Memory__contains_ : Fun K "__contains__" "Memory.__contains__" s_Memory__contains_ (a 9) (fd 9)
  b_Memory__contains_ : L2.Binds K (fd 9) ["self", "cell"] []
  F_law_wide : Fun K "_law_wide" "_law_wide" s_law_wide (a 10) (fd 10)
  g_law_wide : mg "_law_wide" = some (.ref (a 10))
  b_law_wide : L2.Binds K (fd 10) ["_law_draws"] []
  F_law_agrees : Fun K "_law_agrees" "_law_agrees" s_law_agrees (a 11) (fd 11)
  g_law_agrees : mg "_law_agrees" = some (.ref (a 11))
  b_law_agrees : L2.Binds K (fd 11) ["_law_memory", "_law_cells_here", "_law_values"] []
  F_law_stored : Fun K "_law_stored" "_law_stored" s_law_stored (a 12) (fd 12)
  g_law_stored : mg "_law_stored" = some (.ref (a 12))
  b_law_stored : L2.Binds K (fd 12) ["_law_memory", "_law_cell", "_law_value"] []
  F_law : Fun K "law" "law" s_law (a 13) (fd 13)
  g_law : mg "law" = some (.ref (a 13))
  b_law : L2.Binds K (fd 13) ["_law_script"] []
  F_Memory__iter_ : Fun K "__iter__" "Memory.__iter__" s_Memory__iter_ (a 14) (fd 14)
  b_Memory__iter_ : L2.Binds K (fd 14) ["self"] []
  I_OutOfRange : IniF K P mg "OutOfRange" "OutOfRange.__init__" s_OutOfRange__init_ (e cx_OutOfRange) (a 15) (fd 15)
  eb_OutOfRange : L2.Binds K (fd 15) ["self", "value"] []
  I_UnknownCell : IniF K P mg "UnknownCell" "UnknownCell.__init__" s_UnknownCell__init_ (e cx_UnknownCell) (a 16) (fd 16)
  eb_UnknownCell : L2.Binds K (fd 16) ["self", "cell"] []
  nf_cell : ∀ c, c < 2 → PySem.W.findIn K (.ref (e c)) "cell" = some none
  nf_value : ∀ c, c < 2 → PySem.W.findIn K (.ref (e c)) "value" = some none
  X_all : ∀ c, c < 2 → ExF K (e c)
  gx_UnknownCell : mg "UnknownCell" = some (.ref (e cx_UnknownCell))
  x_UnknownCell : ∀ c b, tb_UnknownCell c = some b → PySem.W.exmOne K (.ref (e c)) (.ref (e cx_UnknownCell)) = some b
  i_UnknownCell : ∀ c b, tb_UnknownCell c = some b → PySem.W.kitOne K (.ref (e c)) (.ref (e cx_UnknownCell)) = some b
  gx_OutOfRange : mg "OutOfRange" = some (.ref (e cx_OutOfRange))
  x_OutOfRange : ∀ c b, tb_OutOfRange c = some b → PySem.W.exmOne K (.ref (e c)) (.ref (e cx_OutOfRange)) = some b
  i_OutOfRange : ∀ c b, tb_OutOfRange c = some b → PySem.W.kitOne K (.ref (e c)) (.ref (e cx_OutOfRange)) = some b
  gx_ElderError : mg "ElderError" = some (.ref (e cx_ElderError))
  x_ElderError : ∀ c b, tb_ElderError c = some b → PySem.W.exmOne K (.ref (e c)) (.ref (e cx_ElderError)) = some b
  i_ElderError : ∀ c b, tb_ElderError c = some b → PySem.W.kitOne K (.ref (e c)) (.ref (e cx_ElderError)) = some b
  g_Memory : mg "Memory" = some (.ref (e cx_Memory))
  cl_Memory : L2.Cls K (e cx_Memory)
  ns_Memory : PySem.W.noSeq K (e cx_Memory) = true
  mk_Memory : L2.Mk K (e cx_Memory) (a 3)
  d_Memory___getitem__ : PySem.W.findIn K (.ref (e cx_Memory)) "__getitem__" = some (some (.ref (a 6)))
  d_Memory___contains__ : PySem.W.findIn K (.ref (e cx_Memory)) "__contains__" = some (some (.ref (a 9)))
  d_Memory___len__ : PySem.W.findIn K (.ref (e cx_Memory)) "__len__" = some (some (.ref (a 8)))
  d_Memory___setitem__ : PySem.W.findIn K (.ref (e cx_Memory)) "__setitem__" = some (some (.ref (a 5)))
  d_Memory___iter__ : PySem.W.findIn K (.ref (e cx_Memory)) "__iter__" = some (some (.ref (a 14)))
  d_Memory___init__ : PySem.W.findIn K (.ref (e cx_Memory)) "__init__" = some (some (.ref (a 3)))
  if_Memory__getitem_ : PySem.W.isFn K (.ref (a 6)) = true
  fi_Memory__getitem_ : PySem.W.fnIn K (a 6) = true
  if_Memory__contains_ : PySem.W.isFn K (.ref (a 9)) = true
  fi_Memory__contains_ : PySem.W.fnIn K (a 9) = true
  if_Memory__len_ : PySem.W.isFn K (.ref (a 8)) = true
  fi_Memory__len_ : PySem.W.fnIn K (a 8) = true
  if_Memory__setitem_ : PySem.W.isFn K (.ref (a 5)) = true
  fi_Memory__setitem_ : PySem.W.fnIn K (a 5) = true
  if_Memory__iter_ : PySem.W.isFn K (.ref (a 14)) = true
  fi_Memory__iter_ : PySem.W.fnIn K (a 14) = true
  if_Memory__init_ : PySem.W.isFn K (.ref (a 3)) = true
  fi_Memory__init_ : PySem.W.fnIn K (a 3) = true
  no_Memory_locked : NoAttr K (e cx_Memory) "locked"
  no_Memory_stored : NoAttr K (e cx_Memory) "stored"
  co_Memory_GREATEST : ∃ u, L2.Con K (e cx_Memory) "GREATEST" (.int 9) u
  cc_Memory_GREATEST : ConC K (e cx_Memory) "GREATEST" (.int 9)
def of_locked_0 : Nat → Bool
  | 3 => true
  | _ => false
theorem of_locked_0_ok {P : Program} {K : PySem.W.Frag} {mg : Str → Option Value} {a : Nat → Addr} {fd : Nat → FuncData} {e : Nat → Addr} (T : Txt P K mg a fd e) : ∀ c, of_locked_0 c = true → L2.Cls K ((clT e).at_ c) ∧ NoAttr K ((clT e).at_ c) "locked" := by
  intro c h; unfold of_locked_0 at h; split at h
  · exact ⟨T.cl_Memory, T.no_Memory_locked⟩
  · cases h
def of_stored_0 : Nat → Bool
  | 3 => true
  | _ => false
theorem of_stored_0_ok {P : Program} {K : PySem.W.Frag} {mg : Str → Option Value} {a : Nat → Addr} {fd : Nat → FuncData} {e : Nat → Addr} (T : Txt P K mg a fd e) : ∀ c, of_stored_0 c = true → L2.Cls K ((clT e).at_ c) ∧ NoAttr K ((clT e).at_ c) "stored" := by
  intro c h; unfold of_stored_0 at h; split at h
  · exact ⟨T.cl_Memory, T.no_Memory_stored⟩
  · cases h
def oc_GREATEST_0 : Nat → Option D
  | 3 => some (.int 9)
  | _ => none
theorem oc_GREATEST_0_ok {P : Program} {K : PySem.W.Frag} {mg : Str → Option Value} {a : Nat → Addr} {fd : Nat → FuncData} {e : Nat → Addr} (T : Txt P K mg a fd e) : ∀ c d, oc_GREATEST_0 c = some d → L2.Cls K ((clT e).at_ c) ∧ ∃ v u, L2.Con K ((clT e).at_ c) "GREATEST" v u ∧ ∀ φ G, IsD K φ G d v := by
  intro c d h; unfold oc_GREATEST_0 at h; split at h
  · cases h; obtain ⟨u, hu⟩ := T.co_Memory_GREATEST; exact ⟨T.cl_Memory, _, u, hu, fun _ _ => by simp only [Mi.IsD]⟩
  · cases h
def ti_0 : Nat → Option Str
  | 3 => some "stored"
  | _ => none
/-! ### mirrors -/
noncomputable def bd_law_pool_0 : MS := mIfS (mT (mOp2 fGt (mVar 3) (mP (.int 0)))) (mSeq (mEx (mApp (mVar 1) (mOp2 fMod (mOpA cInt (mCons (mVar 3) (mNil))) (mP (.int 840))))) (mSet 3 (mOp2 fDiv (mVar 3) (mP (.int 840))))) (mSkip)
noncomputable def bd_law_pool_1 : MS := mSeq (mSet 5 (mOp2 fMod (mOpA cInt (mCons (mOp2 fAdd (mOp2 fAdd (mOp2 fMul (mVar 2) (mP (.int 48271))) (mOp2 fMul (mVar 4) (mP (.int 69621)))) (mP (.int 17))) (mNil))) (mP (.int 2147483647)))) (mEx (mApp (mVar 1) (mOp2 fMod (mOp2 fMod (mOpA cInt (mCons (mOp2 fAdd (mOp2 fAdd (mOp2 fMul (mVar 5) (mVar 5)) (mOp2 fMul (mVar 5) (mP (.int 31)))) (mVar 4)) (mNil))) (mP (.int 1000003))) (mP (.int 840)))))
noncomputable def bd_law_pool_2 : MS := mSeq (mSet 3 (mOpA cAbs (mCons (mOpA cInt (mCons (mVar 2) (mNil))) (mNil)))) (mIfS (mT (mOp2 fGe (mVar 3) (mOp2 fPow (mP (.int 10)) (mP (.int 18))))) (mFor (mRng (mCons (mP (.int 60)) (mNil))) (bN 4) (bd_law_pool_0)) (mFor (mRng (mCons (mP (.int 6)) (mNil))) (bN 4) (bd_law_pool_1)))
noncomputable def b_law_pool : MS := mSeq (mSet 1 (mNewL (mNil))) (mSeq (mFor (mI (mVar 0)) (bN 2) (bd_law_pool_2)) (mRet (mVarF 1)))
noncomputable def m_law_pool : MF := mTrim (mFn 6 1 b_law_pool)
noncomputable def b_law_draw : MS := mSeq (mIfS (mT (mOp2 fLt (mVar 1) (mOpA cLen (mCons (mVar 0) (mNil))))) (mRet (mOp2 fMod (mOpA cInt (mCons (mOp2 fIx (mVar 0) (mVar 1)) (mNil))) (mVar 2))) (mSkip)) (mRet (mOp2 fMod (mOp2 fMod (mOpA cInt (mCons (mOp2 fAdd (mOp2 fAdd (mOp2 fMul (mVar 1) (mP (.int 7919))) (mOp2 fMul (mOpA cSum (mCons (mSl (mVar 0) (mP none) (mPart (mP (.int 40)))) (mNil))) (mP (.int 31)))) (mP (.int 3))) (mNil))) (mP (.int 1009))) (mVar 2)))
noncomputable def m_law_draw : MF := mFn 3 3 b_law_draw
noncomputable def b_law_cells : MS := mSeq (mSet 2 (mOpA fLst (mCons (mOpA fLst (mCons (mP (.str "x")) (mCons (mP (.str "y")) (mCons (mP (.str "z")) (mNil))))) (mCons (mOpA fLst (mCons (mP (.str "a")) (mCons (mP (.str "ab")) (mCons (mP (.str "abc")) (mNil))))) (mCons (mOpA fLst (mCons (mP (.str "zz")) (mCons (mP (.str "r")) (mCons (mP (.str "thread")) (mNil))))) (mCons (mOpA fLst (mCons (mP (.str "b")) (mCons (mP (.str "a")) (mCons (mP (.str "c")) (mNil))))) (mCons (mOpA fLst (mCons (mP (.str "load")) (mCons (mP (.str "cells")) (mCons (mP (.str "jump")) (mNil))))) (mNil)))))))) (mSeq (mSet 3 (mOp2 fIx (mOp2 fAdd (mVar 2) (mOpA fLst (mCons (mOpA fLst (mCons (mP (.str "abcdef")) (mCons (mP (.str "abcdeg")) (mCons (mP (.str "abcdfe")) (mNil))))) (mNil)))) (mCall (m_law_draw) (mCons (mVar 0) (mCons (mVar 1) (mCons (mP (.int 6)) (mNil))))))) (mRet (mSl (mVar 3) (mP none) (mPart (mOp2 fIx (mOpA fLst (mCons (mP (.int 2)) (mCons (mP (.int 2)) (mCons (mP (.int 3)) (mCons (mP (.int 2)) (mCons (mP (.int 1)) (mCons (mP (.int 2)) (mCons (mP (.int 3)) (mCons (mP (.int 2)) (mNil)))))))))) (mCall (m_law_draw) (mCons (mVar 0) (mCons (mOp2 fAdd (mVar 1) (mP (.int 1))) (mCons (mP (.int 8)) (mNil))))))))))
noncomputable def m_law_cells : MF := mFn 4 2 b_law_cells
noncomputable def b_Memory__init_ : MS := mSeq (mSetF of_stored_0 "stored" (mVar 0) (mDc [2] (mI (mVar 1)) (bN 2) (mP true) (mVar 2) (mP (.int 0)))) (mSetF of_locked_0 "locked" (mVar 0) (mP (.bl false)))
noncomputable def m_Memory__init_ : MF := mFn 3 2 b_Memory__init_
noncomputable def b_law_same (mf : MF) : MS := mSeq (mIfS (mOrT (mT (mOp1 (fIsi .tup) (mVar 1))) (mT (mOp1 (fIsi .lst) (mVar 1)))) (mSeq (mIfS (mOrT (mT (mOp2 fNe (mOp1 (fIsi .tup) (mVar 0)) (mOp1 (fIsi .tup) (mVar 1)))) (mT (mOp2 fNe (mOp1 (fIsi .lst) (mVar 0)) (mOp1 (fIsi .lst) (mVar 1))))) (mRet (mP (.bl false))) (mSkip)) (mSeq (mIfS (mT (mOp2 fNe (mOpA cLen (mCons (mVar 0) (mNil))) (mOpA cLen (mCons (mVar 1) (mNil))))) (mRet (mP (.bl false))) (mSkip)) (mRet (mOpA cAll (mCons (mLc [2] (mRng (mCons (mOpA cLen (mCons (mVar 1) (mNil))) (mNil))) (bN 2) (mP true) (mCall (mf) (mCons (mOp2 fIx (mVar 0) (mVar 2)) (mCons (mOp2 fIx (mVar 1) (mVar 2)) (mNil))))) (mNil)))))) (mSkip)) (mSeq (mIfS (mT (mOp2 fIsN (mVar 1) (mP .non))) (mRet (mOp2 fIsN (mVar 0) (mP .non))) (mSkip)) (mSeq (mIfS (mT (mOp1 (fIsi .bl) (mVar 1))) (mRet (mAndV (mOp1 (fIsi .bl) (mVar 0)) (mOp2 fEq (mVar 0) (mVar 1)))) (mSkip)) (mSeq (mIfS (mT (mOp1 (fIsi .int) (mVar 1))) (mRet (mAndV (mOp1 (fIsi .int) (mVar 0)) (mAndV (mNotV (mOp1 (fIsi .bl) (mVar 0))) (mOp2 fEq (mVar 0) (mVar 1))))) (mSkip)) (mRet (mAndV (mOp1 (fIsi .str) (mVar 0)) (mOp2 fEq (mVar 0) (mVar 1)))))))
noncomputable def m_law_same : Nat → MF
  | 0 => fun _ _ => none
  | n + 1 => mFn 3 2 (b_law_same (m_law_same n))
noncomputable def tm_setitem_0 : Nat → Option MF
  | _ => none
noncomputable def tm_contains_0 : Nat → Option MF
  | _ => none
noncomputable def b_Memory__setitem_ : MS := mSeq (mIfS (mT (mOp2 (fNotInG tm_contains_0) (mVar 1) (mOp1 (fun S d => fldOf of_stored_0 "stored" S d) (mVar 0)))) (mRaiseF cx_UnknownCell ["cell"] (mCons (mVar 1) (mNil))) (mSkip)) (mSeq (mIfS (mNotT (mT (mCh fLe fLe (mP (.int 0)) (mVar 2) (mOp1 (fun S d => conOf oc_GREATEST_0 "GREATEST" S d) (mVar 0))))) (mRaiseF cx_OutOfRange ["value"] (mCons (mVar 2) (mNil))) (mSkip)) (mSetG tm_setitem_0 (mOp1 (fun S d => fldOf of_stored_0 "stored" S d) (mVar 0)) (mVar 1) (mVar 2)))
noncomputable def m_Memory__setitem_ : MF := mFn 3 3 b_Memory__setitem_
noncomputable def tm_getitem_0 : Nat → Option MF
  | _ => none
noncomputable def b_Memory__getitem_ : MS := mSeq (mIfS (mT (mOp2 (fNotInG tm_contains_0) (mVar 1) (mOp1 (fun S d => fldOf of_stored_0 "stored" S d) (mVar 0)))) (mRaiseF cx_UnknownCell ["cell"] (mCons (mVar 1) (mNil))) (mSkip)) (mRet (mIxG tm_getitem_0 (mOp1 (fun S d => fldOf of_stored_0 "stored" S d) (mVar 0)) (mVar 1)))
noncomputable def m_Memory__getitem_ : MF := mFn 2 2 b_Memory__getitem_
noncomputable def tm_getitem_1 : Nat → Option MF
  | 3 => some (m_Memory__getitem_)
  | _ => none
noncomputable def b_law_read : MS := mTryAs (mRet (mIxG tm_getitem_1 (mVar 0) (mVar 1))) tb_UnknownCell 2 (fun ec fs => mRet (mOpA fTup (mCons (mP (.str "cell")) (mCons (mEf 2 (fs.lookup ("cell" : Str))) (mNil)))))
noncomputable def m_law_read : MF := mFn 3 2 b_law_read
noncomputable def tm_len_0 : Nat → Option MF
  | _ => none
noncomputable def b_Memory__len_ : MS := mRet (mOpA (cLenG tm_len_0) (mCons (mOp1 (fun S d => fldOf of_stored_0 "stored" S d) (mVar 0)) (mNil)))
noncomputable def m_Memory__len_ : MF := mFn 1 1 b_Memory__len_
noncomputable def b_Memory__contains_ : MS := mRet (mOp2 (fInG tm_contains_0) (mVar 1) (mOp1 (fun S d => fldOf of_stored_0 "stored" S d) (mVar 0)))
noncomputable def m_Memory__contains_ : MF := mFn 2 2 b_Memory__contains_
noncomputable def tm_contains_1 : Nat → Option MF
  | 3 => some (m_Memory__contains_)
  | _ => none
noncomputable def tm_len_1 : Nat → Option MF
  | 3 => some (m_Memory__len_)
  | _ => none
noncomputable def tm_setitem_1 : Nat → Option MF
  | 3 => some (m_Memory__setitem_)
  | _ => none
noncomputable def bd_law_wide_0 : MS := mSetG tm_setitem_1 (mVar 3) (mOp2 fIx (mVar 1) (mVar 5)) (mOp2 fIx (mVar 4) (mVar 5))
noncomputable def b_law_wide : MS := mSeq (mSet 1 (mSl (mOpA fLst (mCons (mP (.str "")) (mCons (mP (.str "A b")) (mCons (mP (.str "counter1")) (mCons (mP (.str "x")) (mCons (mP (.str "y")) (mCons (mP (.str "9")) (mNil)))))))) (mP none) (mPart (mCall (m_law_draw) (mCons (mVar 0) (mCons (mP (.int 34)) (mCons (mP (.int 7)) (mNil)))))))) (mSeq (mSet 2 (mCall (m_law_draw) (mCons (mVar 0) (mCons (mP (.int 35)) (mCons (mP (.int 6)) (mNil)))))) (mSeq (mSet 1 (mOp2 fAdd (mSl (mVar 1) (mPart (mVar 2)) (mP none)) (mSl (mVar 1) (mP none) (mPart (mVar 2))))) (mSeq (mSet 3 (mMake cx_Memory (m_Memory__init_) (mCons (mOpA cList (mCons (mVar 1) (mNil))) (mNil)))) (mSeq (mSet 4 (mLc [5] (mRng (mCons (mOpA cLen (mCons (mVar 1) (mNil))) (mNil))) (bN 5) (mP true) (mCall (m_law_draw) (mCons (mVar 0) (mCons (mOp2 fAdd (mP (.int 36)) (mVar 5)) (mCons (mP (.int 10)) (mNil))))))) (mSeq (mFor (mRng (mCons (mOpA cLen (mCons (mVar 1) (mNil))) (mNil))) (bN 5) (bd_law_wide_0)) (mSeq (mIfS (mOrT (mNotT (mT (mCall (m_law_same 8) (mCons (mLockE (lkO ti_0 (mVar 3)) (mLc [6] (mIO ti_0 (mVar 3)) (bN 6) (mP true) (mVar 6))) (mCons (mVar 1) (mNil)))))) (mNotT (mT (mCall (m_law_same 8) (mCons (mOpA (cLenG tm_len_1) (mCons (mVar 3) (mNil))) (mCons (mOpA cLen (mCons (mVar 1) (mNil))) (mNil))))))) (mRet (mP (.bl false))) (mSkip)) (mSeq (mIfS (mOrT (mNotT (mT (mCall (m_law_same 8) (mCons (mCall (m_law_read) (mCons (mVar 3) (mCons (mP (.str "z")) (mNil)))) (mCons (mOpA fTup (mCons (mP (.str "cell")) (mCons (mP (.str "z")) (mNil)))) (mNil)))))) (mNotT (mT (mCall (m_law_same 8) (mCons (mOp2 (fInG tm_contains_1) (mP (.str "z")) (mVar 3)) (mCons (mP (.bl false)) (mNil))))))) (mRet (mP (.bl false))) (mSkip)) (mRet (mCall (m_law_same 8) (mCons (mLc [6] (mI (mVar 1)) (bN 6) (mP true) (mCall (m_law_read) (mCons (mVar 3) (mCons (mVar 6) (mNil))))) (mCons (mVar 4) (mNil))))))))))))
noncomputable def m_law_wide : MF := mTrim (mFn 7 1 b_law_wide)
noncomputable def bd_law_agrees_0 : MS := mIfS (mOrT (mNotT (mT (mCall (m_law_same 8) (mCons (mCall (m_law_read) (mCons (mVar 0) (mCons (mVar 7) (mNil)))) (mCons (mOpA fTup (mCons (mP (.str "cell")) (mCons (mVar 7) (mNil)))) (mNil)))))) (mNotT (mT (mCall (m_law_same 8) (mCons (mOp2 (fInG tm_contains_1) (mVar 7) (mVar 0)) (mCons (mP (.bl false)) (mNil))))))) (mRet (mP (.bl false))) (mSkip)
noncomputable def bd_law_agrees_1 : MS := mIfS (mOrT (mNotT (mT (mCall (m_law_same 8) (mCons (mCall (m_law_read) (mCons (mVar 0) (mCons (mOp2 fIx (mVar 1) (mVar 6)) (mNil)))) (mCons (mOp2 fIx (mVar 2) (mVar 6)) (mNil)))))) (mNotT (mT (mCall (m_law_same 8) (mCons (mOp2 (fInG tm_contains_1) (mOp2 fIx (mVar 1) (mVar 6)) (mVar 0)) (mCons (mP (.bl true)) (mNil))))))) (mRet (mP (.bl false))) (mSkip)
noncomputable def bd_law_agrees_2 : MS := mSet 3 (mOp2 fAdd (mVar 3) (mP (.int 1)))
noncomputable def bd_law_agrees_3 : MS := mLock (lkO ti_0 (mVar 0)) (mFor (mIO ti_0 (mVar 0)) (bN 5) (bd_law_agrees_2))
noncomputable def b_law_agrees : MS := mSeq (mIfS (mOrT (mNotT (mT (mCall (m_law_same 8) (mCons (mLockE (lkO ti_0 (mVar 0)) (mLc [8] (mIO ti_0 (mVar 0)) (bN 8) (mP true) (mVar 8))) (mCons (mVar 1) (mNil)))))) (mNotT (mT (mCall (m_law_same 8) (mCons (mOpA (cLenG tm_len_1) (mCons (mVar 0) (mNil))) (mCons (mOpA cLen (mCons (mVar 1) (mNil))) (mNil))))))) (mRet (mP (.bl false))) (mSkip)) (mSeq (mSet 3 (mP (.int 0))) (mSeq (mLock (lkO ti_0 (mVar 0)) (mFor (mIO ti_0 (mVar 0)) (bN 4) (bd_law_agrees_3))) (mSeq (mIfS (mT (mOp2 fNe (mVar 3) (mOp2 fMul (mOpA cLen (mCons (mVar 1) (mNil))) (mOpA cLen (mCons (mVar 1) (mNil)))))) (mRet (mP (.bl false))) (mSkip)) (mSeq (mFor (mRng (mCons (mOpA cLen (mCons (mVar 1) (mNil))) (mNil))) (bN 6) (bd_law_agrees_1)) (mSeq (mFor (mI (mOpA fLst (mCons (mP (.str "")) (mCons (mP (.str "nosuch")) (mCons (mP (.str "x ")) (mCons (mOp2 fAdd (mOp2 fIx (mVar 1) (mP (.int 0))) (mOp2 fMulS (mP (.str "x")) (mP (.int 6)))) (mNil))))))) (bN 7) (bd_law_agrees_0)) (mRet (mP (.bl true))))))))
noncomputable def m_law_agrees : MF := mFn 9 3 b_law_agrees
noncomputable def b_law_stored : MS := mSeq (mTryN (mSetG tm_setitem_1 (mVar 0) (mVar 1) (mVar 2)) [⟨tb_UnknownCell, some 3, fun ec fs => mSeq (mIfS (mOrT (mT (mIsE 3 (tb_OutOfRange ec))) (mNotT (mT (mIsE 3 (tb_ElderError ec))))) (mRet (mP .non)) (mSkip)) (mRet (mOpA fTup (mCons (mP (.str "cell")) (mCons (mEf 3 (fs.lookup ("cell" : Str))) (mNil)))))⟩, ⟨tb_OutOfRange, some 3, fun ec fs => mSeq (mIfS (mNotT (mT (mIsE 3 (tb_ElderError ec)))) (mRet (mP .non)) (mSkip)) (mRet (mOpA fTup (mCons (mP (.str "value")) (mCons (mEf 3 (fs.lookup ("value" : Str))) (mNil)))))⟩]) (mRet (mOpA fTup (mCons (mP (.str "done")) (mNil))))
noncomputable def m_law_stored : MF := mFn 4 3 b_law_stored
noncomputable def bd_law_0 : MS := mSeq (mSet 8 (mOp2 fSub (mCall (m_law_draw) (mCons (mVar 1) (mCons (mOp2 fAdd (mP (.int 3)) (mOp2 fMul (mP (.int 2)) (mVar 7))) (mCons (mP (.int 16)) (mNil))))) (mP (.int 3)))) (mSeq (mSet 8 (mOp2 fMul (mVar 8) (mOp2 fIx (mOpA fLst (mCons (mP (.int 1)) (mCons (mP (.int 1)) (mCons (mP (.int 1)) (mCons (mP (.int 7)) (mCons (mOp2 fPow (mP (.int 10)) (mP (.int 12))) (mNil))))))) (mCall (m_law_draw) (mCons (mVar 1) (mCons (mOp2 fAdd (mP (.int 24)) (mVar 7)) (mCons (mP (.int 5)) (mNil)))))))) (mSeq (mSet 9 (mOp2 fAdd (mVar 2) (mOpA fLst (mCons (mP (.str "nosuch")) (mNil))))) (mSeq (mSet 10 (mCall (m_law_draw) (mCons (mVar 1) (mCons (mOp2 fAdd (mP (.int 4)) (mOp2 fMul (mP (.int 2)) (mVar 7))) (mCons (mOpA cLen (mCons (mVar 9) (mNil))) (mNil)))))) (mSeq (mSet 11 (mOpA fTup (mCons (mP (.str "done")) (mNil)))) (mSeq (mIfS (mT (mOp2 fEq (mVar 10) (mOpA cLen (mCons (mVar 2) (mNil))))) (mSet 11 (mOpA fTup (mCons (mP (.str "cell")) (mCons (mP (.str "nosuch")) (mNil))))) (mIfS (mOrT (mT (mOp2 fLt (mVar 8) (mP (.int 0)))) (mT (mOp2 fGt (mVar 8) (mP (.int 9))))) (mSet 11 (mOpA fTup (mCons (mP (.str "value")) (mCons (mVar 8) (mNil))))) (mSetG tm_setitem_0 (mVar 6) (mVar 10) (mVar 8)))) (mSeq (mIfS (mNotT (mT (mCall (m_law_same 8) (mCons (mCall (m_law_stored) (mCons (mVar 4) (mCons (mOp2 fIx (mVar 9) (mVar 10)) (mCons (mVar 8) (mNil))))) (mCons (mVar 11) (mNil)))))) (mRet (mP (.bl false))) (mSkip)) (mIfS (mNotT (mT (mCall (m_law_agrees) (mCons (mVar 4) (mCons (mVar 2) (mCons (mVar 6) (mNil))))))) (mRet (mP (.bl false))) (mSkip))))))))
noncomputable def b_law : MS := mSeq (mSet 1 (mCall (m_law_pool) (mCons (mVar 0) (mNil)))) (mSeq (mSet 2 (mCall (m_law_cells) (mCons (mVar 1) (mCons (mP (.int 0)) (mNil))))) (mSeq (mSet 3 (mListC (mCons (mVar 2) (mNil)))) (mSeq (mSet 4 (mMake cx_Memory (m_Memory__init_) (mCons (mVar 3) (mNil)))) (mSeq (mIfS (mT (mOp2 fNe (mVar 3) (mVar 2))) (mRet (mP (.bl false))) (mSkip)) (mSeq (mSet 5 (mMake cx_Memory (m_Memory__init_) (mCons (mOpA cTuple (mCons (mVar 2) (mNil))) (mNil)))) (mSeq (mEx (mApp (mVar 3) (mP (.str "nosuch")))) (mSeq (mSet 6 (mLcC [12] (mI (mVar 2)) (bN 12) (mP true) (mP (.int 0)))) (mSeq (mFor (mRng (mCons (mCall (m_law_draw) (mCons (mVar 1) (mCons (mP (.int 2)) (mCons (mP (.int 11)) (mNil))))) (mNil))) (bN 7) (bd_law_0)) (mSeq (mIfS (mOrT (mNotT (mT (mCall (m_law_agrees) (mCons (mVar 5) (mCons (mVar 2) (mCons (mLc [12] (mI (mVar 2)) (bN 12) (mP true) (mP (.int 0))) (mNil))))))) (mNotT (mT (mCall (m_law_agrees) (mCons (mVar 4) (mCons (mVar 2) (mCons (mVar 6) (mNil)))))))) (mRet (mP (.bl false))) (mSkip)) (mSeq (mIfS (mNotT (mT (mCall (m_law_wide) (mCons (mVar 1) (mNil))))) (mRet (mP (.bl false))) (mSkip)) (mRet (mAndV (mCall (m_law_same 8) (mCons (mP (.int 9)) (mCons (mP (.int 9)) (mNil)))) (mOp2 fIsB (mOp1 (fun S d => fldOf of_locked_0 "locked" S d) (mVar 4)) (mP (.bl false)))))))))))))))
noncomputable def m_law : MF := mFn 13 1 b_law
/-! ### derivations -/
section
variable {P : Program} {w : World} {K : PySem.W.Frag} {mg : Str → Option Value} {base : Heap} {e : Nat → Addr} {a : Nat → Addr} {fd : Nat → FuncData}
theorem F_OutOfRange (T : Txt P K mg a fd e) : FnOk P w K mg base (L2.CX P w) 1 (a 15) (fd 15) ["self", "value"] (sp1 (e cx_OutOfRange) "value") :=
  ini1 (k := 0) T.I_OutOfRange ⟨sc_OutOfRange__init_, rfl, ⟨_, rfl, rfl⟩, by decide +kernel, by decide +kernel, fun _ _ _ _ => ⟨_, rfl⟩, fun _ _ _ _ => rfl, fun _ _ _ _ => rfl, fun _ _ _ _ => rfl⟩ (T.nf_value cx_OutOfRange (by decide)) (hb := rfl) (fun _ _ _ _ => rfl) (by decide) (by decide) (by decide) (by decide)
theorem F_UnknownCell (T : Txt P K mg a fd e) : FnOk P w K mg base (L2.CX P w) 1 (a 16) (fd 16) ["self", "cell"] (sp1 (e cx_UnknownCell) "cell") :=
  ini1 (k := 0) T.I_UnknownCell ⟨sc_UnknownCell__init_, rfl, ⟨_, rfl, rfl⟩, by decide +kernel, by decide +kernel, fun _ _ _ _ => ⟨_, rfl⟩, fun _ _ _ _ => rfl, fun _ _ _ _ => rfl, fun _ _ _ _ => rfl⟩ (T.nf_cell cx_UnknownCell (by decide)) (hb := rfl) (fun _ _ _ _ => rfl) (by decide) (by decide) (by decide) (by decide)
theorem io_Memory (T : Txt P K mg a fd e) : IterOk P w K mg base (e cx_Memory) "stored" :=
  ⟨T.cl_Memory, T.no_Memory_stored, ⟨a 14, fd 14, s_Memory__iter_, "Memory.__iter__", "self", T.d_Memory___iter__, T.if_Memory__iter_, T.F_Memory__iter_, sc_Memory__iter_, T.b_Memory__iter_, fun cdv A outer s H E => pss_one (ps_ret (pe_callB (call_iterG (X := cxOf (L2.CX P w) P w K mg base ["self"] "Memory.__iter__" (defScope s_Memory__iter_) (a 14) cdv A outer s H E)) rfl T.n_iter (by decide +kernel) (pa_cons (pe_fld (pe_var (i := 0) rfl (.inl rfl)) rfl) pa_nil)))⟩⟩
theorem ti_0_ok (T : Txt P K mg a fd e) : ∀ c f, ti_0 c = some f → IterOk P w K mg base ((clT e).at_ c) f := by
  intro c f h; unfold ti_0 at h; split at h
  · cases h; exact io_Memory T
  · cases h
/-- DunOk, said of the text -/
def DunW (P : Program) (w : World) (K : PySem.W.Frag) (mg : Str → Option Value) (base : Heap) (cl : Cl) (k : Nat) (m : Str) (c : Nat) (mf : MF) : Prop := ∃ f fd ps, PySem.W.findIn K (.ref (cl.at_ c)) m = some (some (.ref f)) ∧ PySem.W.isFn K (.ref f) = true ∧ PySem.W.fnIn K f = true ∧ L2.Binds K fd ps [] ∧ FnOk P w K mg base (L2.CX P w) k f fd ps (spM K cl mf)
def MethW (P : Program) (w : World) (K : PySem.W.Frag) (mg : Str → Option Value) (base : Heap) (cl : Cl) (k : Nat) (m : Str) (c : Nat) (mf : MF) : Prop := ∃ f fd ps, L2.Cls K (cl.at_ c) ∧ L2.Meth K (cl.at_ c) m f ∧ L2.Binds K fd ps [] ∧ FnOk P w K mg base (L2.CX P w) k f fd ps (spM K cl mf)
theorem ok_law_pool (T : Txt P K mg a fd e) : FnOk P w K mg base (L2.CX P w) 1 (a 0) (fd 0) ["_law_script"] (spM K (clT e) m_law_pool) :=
  fn_trim (fn_ok (k := 0) rfl T.F_law_pool sc_law_pool (fun cdv A outer s H E hr => by exact rss_cons (rs_set (i := 1) sc_law_pool.nd (re_lstM (ra_nil))) (rss_cons (rs_for (passes_of rfl) (ri_any (re_var (i := 0))) (rg_name (i := 2) sc_law_pool.nd) (rss_cons (rs_set (i := 3) sc_law_pool.nd (re_callB call_abs cAbs_ok T.n_abs PyProof.Rows.boot_abs (ra_cons (re_callTy call_intA cInt_ok T.n_int PyProof.Rows.boot_int (ra_cons (re_var (i := 2)) (ra_nil))) (ra_nil)))) (rss_one (rs_if (rt_cmp op_ge fGe_rel.op (re_var (i := 3)) (re_op2 op_pow fPow_ok (re_int) (re_int))) (rss_one (rs_for (passes_of rfl) (ri_range1 T.n_range (ra_cons (re_int) (ra_nil)) (len_cons len_nil)) (rg_name (i := 4) sc_law_pool.nd) (rss_one (rs_if (rt_cmp op_gt fGt_rel.op (re_var (i := 3)) (re_int)) (rss_cons (rs_expr (re_app (re_var (i := 1)) (re_op2 op_mod fMod_ok (re_callTy call_intA cInt_ok T.n_int PyProof.Rows.boot_int (ra_cons (re_var (i := 3)) (ra_nil))) (re_int)))) (rss_one (rs_set (i := 3) sc_law_pool.nd (re_op2 op_fdiv fDiv_ok (re_var (i := 3)) (re_int))))) (rss_nil))))) (rss_one (rs_for (passes_of rfl) (ri_range1 T.n_range (ra_cons (re_int) (ra_nil)) (len_cons len_nil)) (rg_name (i := 4) sc_law_pool.nd) (rss_cons (rs_set (i := 5) sc_law_pool.nd (re_op2 op_mod fMod_ok (re_callTy call_intA cInt_ok T.n_int PyProof.Rows.boot_int (ra_cons (re_op2 op_addA fAdd_ok (re_op2 op_addA fAdd_ok (re_op2 op_mul fMul_ok (re_var (i := 2)) (re_int)) (re_op2 op_mul fMul_ok (re_var (i := 4)) (re_int))) (re_int)) (ra_nil))) (re_int))) (rss_one (rs_expr (re_app (re_var (i := 1)) (re_op2 op_mod fMod_ok (re_op2 op_mod fMod_ok (re_callTy call_intA cInt_ok T.n_int PyProof.Rows.boot_int (ra_cons (re_op2 op_addA fAdd_ok (re_op2 op_addA fAdd_ok (re_op2 op_mul fMul_ok (re_var (i := 5)) (re_var (i := 5))) (re_op2 op_mul fMul_ok (re_var (i := 5)) (re_int))) (re_var (i := 4))) (ra_nil))) (re_int)) (re_int)))))))))))) (rss_one (rs_ret (re_varF (i := 1)))))))
theorem ok_law_draw (T : Txt P K mg a fd e) : FnOk P w K mg base (L2.CX P w) 1 (a 1) (fd 1) ["_law_draws", "_law_k", "_law_many"] (spM K (clT e) m_law_draw) :=
  fn_ok (k := 0) rfl T.F_law_draw sc_law_draw (fun cdv A outer s H E hr => by exact rss_cons (rs_if (rt_cmp op_lt fLt_rel.op (re_var (i := 1)) (re_callB call_lenA cLen_ok T.n_len PySem.boot_len (ra_cons (re_var (i := 0)) (ra_nil)))) (rss_one (rs_ret (re_op2 op_mod fMod_ok (re_callTy call_intA cInt_ok T.n_int PyProof.Rows.boot_int (ra_cons (re_ix (re_var (i := 0)) (re_var (i := 1))) (ra_nil))) (re_var (i := 2))))) (rss_nil)) (rss_one (rs_ret (re_op2 op_mod fMod_ok (re_op2 op_mod fMod_ok (re_callTy call_intA cInt_ok T.n_int PyProof.Rows.boot_int (ra_cons (re_op2 op_addA fAdd_ok (re_op2 op_addA fAdd_ok (re_op2 op_mul fMul_ok (re_var (i := 1)) (re_int)) (re_op2 op_mul fMul_ok (re_callB (cr_sum rfl) cSum_ok T.n_sum PyProof.Rows.boot_sum (ra_cons (re_sl (re_var (i := 0)) (ro_none) (ro_some (re_int))) (ra_nil))) (re_int))) (re_int)) (ra_nil))) (re_int)) (re_var (i := 2))))))
theorem ok_law_cells (T : Txt P K mg a fd e) : FnOk P w K mg base (L2.CX P w) 2 (a 2) (fd 2) ["_law_draws", "_law_at"] (spM K (clT e) m_law_cells) :=
  fn_ok (k := 1) rfl T.F_law_cells sc_law_cells (fun cdv A outer s H E hr => by exact rss_cons (rs_set (i := 2) sc_law_cells.nd (re_lst (ra_cons (re_lst (ra_cons (re_str) (ra_cons (re_str) (ra_cons (re_str) (ra_nil))))) (ra_cons (re_lst (ra_cons (re_str) (ra_cons (re_str) (ra_cons (re_str) (ra_nil))))) (ra_cons (re_lst (ra_cons (re_str) (ra_cons (re_str) (ra_cons (re_str) (ra_nil))))) (ra_cons (re_lst (ra_cons (re_str) (ra_cons (re_str) (ra_cons (re_str) (ra_nil))))) (ra_cons (re_lst (ra_cons (re_str) (ra_cons (re_str) (ra_cons (re_str) (ra_nil))))) (ra_nil)))))))) (rss_cons (rs_set (i := 3) sc_law_cells.nd (re_ix (re_op2 op_addA fAdd_ok (re_var (i := 2)) (re_lst (ra_cons (re_lst (ra_cons (re_str) (ra_cons (re_str) (ra_cons (re_str) (ra_nil))))) (ra_nil)))) (re_callN (ok_law_draw T) (hr.mono (by decide)) T.g_law_draw T.F_law_draw.kp T.b_law_draw (ra_cons (re_var (i := 0)) (ra_cons (re_var (i := 1)) (ra_cons (re_int) (ra_nil))))))) (rss_one (rs_ret (re_sl (re_var (i := 3)) (ro_none) (ro_some (re_ix (re_lst (ra_cons (re_int) (ra_cons (re_int) (ra_cons (re_int) (ra_cons (re_int) (ra_cons (re_int) (ra_cons (re_int) (ra_cons (re_int) (ra_cons (re_int) (ra_nil)))))))))) (re_callN (ok_law_draw T) (hr.mono (by decide)) T.g_law_draw T.F_law_draw.kp T.b_law_draw (ra_cons (re_var (i := 0)) (ra_cons (re_op2 op_addA fAdd_ok (re_var (i := 1)) (re_int)) (ra_cons (re_int) (ra_nil))))))))))))
theorem ok_Memory__init_ (T : Txt P K mg a fd e) : FnOk P w K mg base (L2.CX P w) 1 (a 3) (fd 3) ["self", "cells"] (spM K (clT e) m_Memory__init_) :=
  fn_ok (k := 0) rfl T.F_Memory__init_ sc_Memory__init_ (fun cdv A outer s H E hr => by exact rss_cons (rs_fld (ok := of_stored_0) (of_stored_0_ok T) (re_var (i := 0)) (re_dc (own := [("cell", 2)]) sc_Memory__init_.nd (ri_any (re_var (i := 1))) (blkOk_by (N := N_Memory__init_) (sc := defScope s_Memory__init_) (by decide +kernel)) (fun _ _ _ _ _ => rgw_name (i := 2) sc_Memory__init_.nd) (fun _ _ _ _ _ => rts_nil) (fun _ _ _ _ _ => re_var (i := 2)) (fun _ _ _ _ _ => re_int))) (rss_one (rs_fld (ok := of_locked_0) (of_locked_0_ok T) (re_var (i := 0)) (re_bl))))
theorem ok_law_same (T : Txt P K mg a fd e) : ∀ n : Nat, FnOk P w K mg base (L2.CX P w) (n + 1) (a 4) (fd 4) ["_law_actual", "_law_due"] (spM K (clT e) (m_law_same n))
  | 0 => fn_none
  | n + 1 => fn_ok (k := n + 1) rfl T.F_law_same sc_law_same (fun cdv A outer s H E hr => by
    have ih : FnOk P w K mg base (L2.CX P w) (n + 1) (a 4) (fd 4) ["_law_actual", "_law_due"] (spM K (clT e) (m_law_same n)) := ok_law_same T n
    exact rss_cons (rs_if (rt_w (rw_or (rt_val (re_isi T.n_isinstance T.n_tuple PyProof.Rows.boot_tuple (by decide +kernel) (re_var (i := 1)))) (rw_or1 (rt_val (re_isi T.n_isinstance T.n_list PyProof.Rows.boot_list (by decide +kernel) (re_var (i := 1))))))) (rss_cons (rs_if (rt_w (rw_or (rt_cmp (op_neA hr) fNe_rel.op (re_isi T.n_isinstance T.n_tuple PyProof.Rows.boot_tuple (by decide +kernel) (re_var (i := 0))) (re_isi T.n_isinstance T.n_tuple PyProof.Rows.boot_tuple (by decide +kernel) (re_var (i := 1)))) (rw_or1 (rt_cmp (op_neA hr) fNe_rel.op (re_isi T.n_isinstance T.n_list PyProof.Rows.boot_list (by decide +kernel) (re_var (i := 0))) (re_isi T.n_isinstance T.n_list PyProof.Rows.boot_list (by decide +kernel) (re_var (i := 1))))))) (rss_one (rs_ret (re_bl))) (rss_nil)) (rss_cons (rs_if (rt_cmp (op_neA hr) fNe_rel.op (re_callB call_lenA cLen_ok T.n_len PySem.boot_len (ra_cons (re_var (i := 0)) (ra_nil))) (re_callB call_lenA cLen_ok T.n_len PySem.boot_len (ra_cons (re_var (i := 1)) (ra_nil)))) (rss_one (rs_ret (re_bl))) (rss_nil)) (rss_one (rs_ret (re_callB (cr_all rfl) cAll_ok T.n_all PyProof.Rows.boot_all (ra_cons (re_lc (own := [("_law_k", 2)]) sc_law_same.nd (ri_range1 T.n_range (ra_cons (re_callB call_lenA cLen_ok T.n_len PySem.boot_len (ra_cons (re_var (i := 1)) (ra_nil))) (ra_nil)) (len_cons len_nil)) (blkOk_by (N := N_law_same) (sc := defScope s_law_same) (by decide +kernel)) (fun _ _ _ _ _ => rgw_name (i := 2) sc_law_same.nd) (fun _ _ _ _ _ => rts_nil) (fun _ _ _ _ _ => re_callN ih hr T.g_law_same T.F_law_same.kp T.b_law_same (ra_cons (re_ix (re_var (i := 0)) (re_var (i := 2))) (ra_cons (re_ix (re_var (i := 1)) (re_var (i := 2))) (ra_nil))))) (ra_nil))))))) (rss_nil)) (rss_cons (rs_if (rt_cmp op_isN fIsN_rel.op (re_var (i := 1)) (re_non)) (rss_one (rs_ret (re_cmp op_isN fIsN_rel.op (re_var (i := 0)) (re_non)))) (rss_nil)) (rss_cons (rs_if (rt_val (re_isi T.n_isinstance T.n_bool PyProof.Rows.boot_bool (by decide +kernel) (re_var (i := 1)))) (rss_one (rs_ret (re_and (re_isi T.n_isinstance T.n_bool PyProof.Rows.boot_bool (by decide +kernel) (re_var (i := 0))) (re_one (re_cmp (op_eqA hr) fEq_rel.op (re_var (i := 0)) (re_var (i := 1))))))) (rss_nil)) (rss_cons (rs_if (rt_val (re_isi T.n_isinstance T.n_int PyProof.Rows.boot_int (by decide +kernel) (re_var (i := 1)))) (rss_one (rs_ret (re_and (re_isi T.n_isinstance T.n_int PyProof.Rows.boot_int (by decide +kernel) (re_var (i := 0))) (re_and (re_not (re_isi T.n_isinstance T.n_bool PyProof.Rows.boot_bool (by decide +kernel) (re_var (i := 0)))) (re_one (re_cmp (op_eqA hr) fEq_rel.op (re_var (i := 0)) (re_var (i := 1)))))))) (rss_nil)) (rss_one (rs_ret (re_and (re_isi T.n_isinstance T.n_str PyProof.Rows.boot_str (by decide +kernel) (re_var (i := 0))) (re_one (re_cmp (op_eqA hr) fEq_rel.op (re_var (i := 0)) (re_var (i := 1)))))))))))
theorem tm_setitem_0_sok (T : Txt P K mg a fd e) : ∀ c mf, tm_setitem_0 c = some mf → DunW P w K mg base (clT e) 0 "__setitem__" c mf ∧ PySem.W.noSeq K ((clT e).at_ c) = true := by
  intro c mf h; cases h
theorem tm_contains_0_ok (T : Txt P K mg a fd e) : ∀ c mf, tm_contains_0 c = some mf → DunW P w K mg base (clT e) 0 "__contains__" c mf := by
  intro c mf h; cases h
theorem ok_Memory__setitem_ (T : Txt P K mg a fd e) : FnOk P w K mg base (L2.CX P w) 3 (a 5) (fd 5) ["self", "cell", "value"] (spM K (clT e) m_Memory__setitem_) :=
  fn_ok (k := 2) rfl T.F_Memory__setitem_ sc_Memory__setitem_ (fun cdv A outer s H E hr => by exact rss_cons (rs_if (rt_cmp (op_notInG rfl (tm_contains_0_ok T) (hr.mono (by decide))) fNotInG_ok (re_var (i := 1)) (re_fld (ok := of_stored_0) (of_stored_0_ok T) (re_var (i := 0))) (by with_unfolding_all rfl)) (rss_one (rs_raiseF1 (c := cx_UnknownCell) T.I_UnknownCell (F_UnknownCell T) (hr.mono (by decide)) T.eb_UnknownCell (ra_cons (re_var (i := 1)) (ra_nil)))) (rss_nil)) (rss_cons (rs_if (rt_not (rt_chain op_le op_le fLe_rel fLe_rel (re_int) (re_var (i := 2)) (re_con (tab := oc_GREATEST_0) (oc_GREATEST_0_ok T) (re_var (i := 0))))) (rss_one (rs_raiseF1 (c := cx_OutOfRange) T.I_OutOfRange (F_OutOfRange T) (hr.mono (by decide)) T.eb_OutOfRange (ra_cons (re_var (i := 2)) (ra_nil)))) (rss_nil)) (rss_one (rs_setG (tm_setitem_0_sok T) (hr.mono (by decide)) (re_fld (ok := of_stored_0) (of_stored_0_ok T) (re_var (i := 0))) (re_var (i := 1)) (re_var (i := 2))))))
theorem tm_getitem_0_ok (T : Txt P K mg a fd e) : ∀ c mf, tm_getitem_0 c = some mf → DunW P w K mg base (clT e) 0 "__getitem__" c mf := by
  intro c mf h; cases h
theorem ok_Memory__getitem_ (T : Txt P K mg a fd e) : FnOk P w K mg base (L2.CX P w) 3 (a 6) (fd 6) ["self", "cell"] (spM K (clT e) m_Memory__getitem_) :=
  fn_ok (k := 2) rfl T.F_Memory__getitem_ sc_Memory__getitem_ (fun cdv A outer s H E hr => by exact rss_cons (rs_if (rt_cmp (op_notInG rfl (tm_contains_0_ok T) (hr.mono (by decide))) fNotInG_ok (re_var (i := 1)) (re_fld (ok := of_stored_0) (of_stored_0_ok T) (re_var (i := 0))) (by with_unfolding_all rfl)) (rss_one (rs_raiseF1 (c := cx_UnknownCell) T.I_UnknownCell (F_UnknownCell T) (hr.mono (by decide)) T.eb_UnknownCell (ra_cons (re_var (i := 1)) (ra_nil)))) (rss_nil)) (rss_one (rs_ret (re_ixG (tm_getitem_0_ok T) (hr.mono (by decide)) (re_fld (ok := of_stored_0) (of_stored_0_ok T) (re_var (i := 0))) (re_var (i := 1))))))
theorem tm_getitem_1_ok (T : Txt P K mg a fd e) : ∀ c mf, tm_getitem_1 c = some mf → DunW P w K mg base (clT e) 3 "__getitem__" c mf := by
  intro c mf h; unfold tm_getitem_1 at h; split at h
  · cases h; exact ⟨a 6, fd 6, ["self", "cell"], T.d_Memory___getitem__, T.if_Memory__getitem_, T.fi_Memory__getitem_, T.b_Memory__getitem_, (ok_Memory__getitem_ T).mono (by decide)⟩
  · cases h
theorem ok_law_read (T : Txt P K mg a fd e) : FnOk P w K mg base (L2.CX P w) 5 (a 7) (fd 7) ["_law_memory", "_law_cell"] (spM K (clT e) m_law_read) :=
  fn_ok (k := 4) rfl T.F_law_read sc_law_read (fun cdv A outer s H E hr => by exact rss_one (rs_tryAs (i := 2) sc_law_read.nd ⟨rfl, by decide, .inl T.gx_UnknownCell⟩ T.x_UnknownCell (fun W pn xe itk hp => by exact rss_one (rs_ret (re_ixG (tm_getitem_1_ok T) (hr.mono (by decide)) (re_var (i := 0)) (re_var (i := 1))))) (fun ea oe ec fs ed pn et hz hf => by exact rss_one (rs_ret (re_tup (ra_cons (re_str) (ra_cons (re_ef (i := 2) (T.X_all ec (tb_UnknownCell_lt et)) (T.nf_cell ec (tb_UnknownCell_lt et)) hz hf) (ra_nil))))))))
theorem tm_len_0_ok (T : Txt P K mg a fd e) : ∀ c mf, tm_len_0 c = some mf → DunW P w K mg base (clT e) 0 "__len__" c mf := by
  intro c mf h; cases h
theorem ok_Memory__len_ (T : Txt P K mg a fd e) : FnOk P w K mg base (L2.CX P w) 2 (a 8) (fd 8) ["self"] (spM K (clT e) m_Memory__len_) :=
  fn_ok (k := 1) rfl T.F_Memory__len_ sc_Memory__len_ (fun cdv A outer s H E hr => by exact rss_one (rs_ret (re_callB (call_lenG rfl (tm_len_0_ok T) (hr.mono (by decide))) cLenG_ok T.n_len PySem.boot_len (ra_cons (re_fld (ok := of_stored_0) (of_stored_0_ok T) (re_var (i := 0))) (ra_nil)))))
theorem ok_Memory__contains_ (T : Txt P K mg a fd e) : FnOk P w K mg base (L2.CX P w) 1 (a 9) (fd 9) ["self", "cell"] (spM K (clT e) m_Memory__contains_) :=
  fn_ok (k := 0) rfl T.F_Memory__contains_ sc_Memory__contains_ (fun cdv A outer s H E hr => by exact rss_one (rs_ret (re_cmp (op_inG rfl (tm_contains_0_ok T) (hr.mono (by decide))) fInG_ok (re_var (i := 1)) (re_fld (ok := of_stored_0) (of_stored_0_ok T) (re_var (i := 0))) (by with_unfolding_all rfl))))
theorem tm_contains_1_ok (T : Txt P K mg a fd e) : ∀ c mf, tm_contains_1 c = some mf → DunW P w K mg base (clT e) 1 "__contains__" c mf := by
  intro c mf h; unfold tm_contains_1 at h; split at h
  · cases h; exact ⟨a 9, fd 9, ["self", "cell"], T.d_Memory___contains__, T.if_Memory__contains_, T.fi_Memory__contains_, T.b_Memory__contains_, (ok_Memory__contains_ T).mono (by decide)⟩
  · cases h
theorem tm_len_1_ok (T : Txt P K mg a fd e) : ∀ c mf, tm_len_1 c = some mf → DunW P w K mg base (clT e) 2 "__len__" c mf := by
  intro c mf h; unfold tm_len_1 at h; split at h
  · cases h; exact ⟨a 8, fd 8, ["self"], T.d_Memory___len__, T.if_Memory__len_, T.fi_Memory__len_, T.b_Memory__len_, (ok_Memory__len_ T).mono (by decide)⟩
  · cases h
theorem tm_setitem_1_sok (T : Txt P K mg a fd e) : ∀ c mf, tm_setitem_1 c = some mf → DunW P w K mg base (clT e) 3 "__setitem__" c mf ∧ PySem.W.noSeq K ((clT e).at_ c) = true := by
  intro c mf h; unfold tm_setitem_1 at h; split at h
  · cases h; exact ⟨⟨a 5, fd 5, ["self", "cell", "value"], T.d_Memory___setitem__, T.if_Memory__setitem_, T.fi_Memory__setitem_, T.b_Memory__setitem_, (ok_Memory__setitem_ T).mono (by decide)⟩, T.ns_Memory⟩
  · cases h
theorem ok_law_wide (T : Txt P K mg a fd e) : FnOk P w K mg base (L2.CX P w) 10 (a 10) (fd 10) ["_law_draws"] (spM K (clT e) m_law_wide) :=
  fn_trim (fn_ok (k := 9) rfl T.F_law_wide sc_law_wide (fun cdv A outer s H E hr => by exact rss_cons (rs_set (i := 1) sc_law_wide.nd (re_sl (re_lst (ra_cons (re_str) (ra_cons (re_str) (ra_cons (re_str) (ra_cons (re_str) (ra_cons (re_str) (ra_cons (re_str) (ra_nil)))))))) (ro_none) (ro_some (re_callN (ok_law_draw T) (hr.mono (by decide)) T.g_law_draw T.F_law_draw.kp T.b_law_draw (ra_cons (re_var (i := 0)) (ra_cons (re_int) (ra_cons (re_int) (ra_nil)))))))) (rss_cons (rs_set (i := 2) sc_law_wide.nd (re_callN (ok_law_draw T) (hr.mono (by decide)) T.g_law_draw T.F_law_draw.kp T.b_law_draw (ra_cons (re_var (i := 0)) (ra_cons (re_int) (ra_cons (re_int) (ra_nil)))))) (rss_cons (rs_set (i := 1) sc_law_wide.nd (re_op2 op_addA fAdd_ok (re_sl (re_var (i := 1)) (ro_some (re_var (i := 2))) (ro_none)) (re_sl (re_var (i := 1)) (ro_none) (ro_some (re_var (i := 2)))))) (rss_cons (rs_set (i := 3) sc_law_wide.nd (re_make T.mk_Memory T.g_Memory (ok_Memory__init_ T) (hr.mono (by decide)) T.b_Memory__init_ (ra_cons (re_callTy call_list_of cList_ok T.n_list PyProof.Rows.boot_list (ra_cons (re_var (i := 1)) (ra_nil))) (ra_nil)))) (rss_cons (rs_setLc (i := 4) (own := [("_law_k", 5)]) sc_law_wide.nd (ri_range1 T.n_range (ra_cons (re_callB call_lenA cLen_ok T.n_len PySem.boot_len (ra_cons (re_var (i := 1)) (ra_nil))) (ra_nil)) (len_cons len_nil)) (blkOk_by (N := N_law_wide) (sc := defScope s_law_wide) (by decide +kernel)) (fun _ _ _ _ _ => rgw_name (i := 5) sc_law_wide.nd) (fun _ _ _ _ _ => rts_nil) (fun _ _ _ _ _ => re_callN (ok_law_draw T) (hr.mono (by decide)) T.g_law_draw T.F_law_draw.kp T.b_law_draw (ra_cons (re_var (i := 0)) (ra_cons (re_op2 op_addA fAdd_ok (re_int) (re_var (i := 5))) (ra_cons (re_int) (ra_nil))))) (sw_true rfl rfl rfl (by decide +kernel))) (rss_cons (rs_for (passes_of rfl) (ri_range1 T.n_range (ra_cons (re_callB call_lenA cLen_ok T.n_len PySem.boot_len (ra_cons (re_var (i := 1)) (ra_nil))) (ra_nil)) (len_cons len_nil)) (rg_name (i := 5) sc_law_wide.nd) (rss_one (rs_setG (tm_setitem_1_sok T) (hr.mono (by decide)) (re_var (i := 3)) (re_ix (re_var (i := 1)) (re_var (i := 5))) (re_ix (re_var (i := 4)) (re_var (i := 5)))))) (rss_cons (rs_if (rt_w (rw_or (rt_not (rt_val (re_callN (ok_law_same T 8) (hr.mono (by decide)) T.g_law_same T.F_law_same.kp T.b_law_same (ra_cons (re_lock (lkO ti_0 (mVar 3)) (re_lc (own := [("_law_name", 6)]) sc_law_wide.nd (ri_own (ti_0_ok T) (k := 0) (hr.mono (by decide)) (re_var (i := 3))) (blkOk_by (N := N_law_wide) (sc := defScope s_law_wide) (by decide +kernel)) (fun _ _ _ _ _ => rgw_name (i := 6) sc_law_wide.nd) (fun _ _ _ _ _ => rts_nil) (fun _ _ _ _ _ => re_var (i := 6)))) (ra_cons (re_var (i := 1)) (ra_nil)))))) (rw_or1 (rt_not (rt_val (re_callN (ok_law_same T 8) (hr.mono (by decide)) T.g_law_same T.F_law_same.kp T.b_law_same (ra_cons (re_callB (call_lenG rfl (tm_len_1_ok T) (hr.mono (by decide))) cLenG_ok T.n_len PySem.boot_len (ra_cons (re_var (i := 3)) (ra_nil))) (ra_cons (re_callB call_lenA cLen_ok T.n_len PySem.boot_len (ra_cons (re_var (i := 1)) (ra_nil))) (ra_nil))))))))) (rss_one (rs_ret (re_bl))) (rss_nil)) (rss_cons (rs_if (rt_w (rw_or (rt_not (rt_val (re_callN (ok_law_same T 8) (hr.mono (by decide)) T.g_law_same T.F_law_same.kp T.b_law_same (ra_cons (re_callN (ok_law_read T) (hr.mono (by decide)) T.g_law_read T.F_law_read.kp T.b_law_read (ra_cons (re_var (i := 3)) (ra_cons (re_str) (ra_nil)))) (ra_cons (re_tup (ra_cons (re_str) (ra_cons (re_str) (ra_nil)))) (ra_nil)))))) (rw_or1 (rt_not (rt_val (re_callN (ok_law_same T 8) (hr.mono (by decide)) T.g_law_same T.F_law_same.kp T.b_law_same (ra_cons (re_cmp (op_inG rfl (tm_contains_1_ok T) (hr.mono (by decide))) fInG_ok (re_str) (re_var (i := 3)) (by with_unfolding_all rfl)) (ra_cons (re_bl) (ra_nil))))))))) (rss_one (rs_ret (re_bl))) (rss_nil)) (rss_one (rs_ret (re_callN (ok_law_same T 8) (hr.mono (by decide)) T.g_law_same T.F_law_same.kp T.b_law_same (ra_cons (re_lc (own := [("_law_name", 6)]) sc_law_wide.nd (ri_any (re_var (i := 1))) (blkOk_by (N := N_law_wide) (sc := defScope s_law_wide) (by decide +kernel)) (fun _ _ _ _ _ => rgw_name (i := 6) sc_law_wide.nd) (fun _ _ _ _ _ => rts_nil) (fun _ _ _ _ _ => re_callN (ok_law_read T) (hr.mono (by decide)) T.g_law_read T.F_law_read.kp T.b_law_read (ra_cons (re_var (i := 3)) (ra_cons (re_var (i := 6)) (ra_nil))))) (ra_cons (re_var (i := 4)) (ra_nil)))))))))))))))
theorem ok_law_agrees (T : Txt P K mg a fd e) : FnOk P w K mg base (L2.CX P w) 10 (a 11) (fd 11) ["_law_memory", "_law_cells_here", "_law_values"] (spM K (clT e) m_law_agrees) :=
  fn_ok (k := 9) rfl T.F_law_agrees sc_law_agrees (fun cdv A outer s H E hr => by exact rss_cons (rs_if (rt_w (rw_or (rt_not (rt_val (re_callN (ok_law_same T 8) (hr.mono (by decide)) T.g_law_same T.F_law_same.kp T.b_law_same (ra_cons (re_lock (lkO ti_0 (mVar 0)) (re_lc (own := [("_law_name", 8)]) sc_law_agrees.nd (ri_own (ti_0_ok T) (k := 0) (hr.mono (by decide)) (re_var (i := 0))) (blkOk_by (N := N_law_agrees) (sc := defScope s_law_agrees) (by decide +kernel)) (fun _ _ _ _ _ => rgw_name (i := 8) sc_law_agrees.nd) (fun _ _ _ _ _ => rts_nil) (fun _ _ _ _ _ => re_var (i := 8)))) (ra_cons (re_var (i := 1)) (ra_nil)))))) (rw_or1 (rt_not (rt_val (re_callN (ok_law_same T 8) (hr.mono (by decide)) T.g_law_same T.F_law_same.kp T.b_law_same (ra_cons (re_callB (call_lenG rfl (tm_len_1_ok T) (hr.mono (by decide))) cLenG_ok T.n_len PySem.boot_len (ra_cons (re_var (i := 0)) (ra_nil))) (ra_cons (re_callB call_lenA cLen_ok T.n_len PySem.boot_len (ra_cons (re_var (i := 1)) (ra_nil))) (ra_nil))))))))) (rss_one (rs_ret (re_bl))) (rss_nil)) (rss_cons (rs_set (i := 3) sc_law_agrees.nd (re_int)) (rss_cons (rs_lock (lkO ti_0 (mVar 0)) (rs_for (passes_of rfl) (ri_own (ti_0_ok T) (k := 0) (hr.mono (by decide)) (re_var (i := 0))) (rg_name (i := 4) sc_law_agrees.nd) (rss_one (rs_lock (lkO ti_0 (mVar 0)) (rs_for (passes_of rfl) (ri_own (ti_0_ok T) (k := 0) (hr.mono (by decide)) (re_var (i := 0))) (rg_name (i := 5) sc_law_agrees.nd) (rss_one (rs_set (i := 3) sc_law_agrees.nd (re_op2 op_addA fAdd_ok (re_var (i := 3)) (re_int))))))))) (rss_cons (rs_if (rt_cmp (op_neA hr) fNe_rel.op (re_var (i := 3)) (re_op2 op_mul fMul_ok (re_callB call_lenA cLen_ok T.n_len PySem.boot_len (ra_cons (re_var (i := 1)) (ra_nil))) (re_callB call_lenA cLen_ok T.n_len PySem.boot_len (ra_cons (re_var (i := 1)) (ra_nil))))) (rss_one (rs_ret (re_bl))) (rss_nil)) (rss_cons (rs_for (passes_of rfl) (ri_range1 T.n_range (ra_cons (re_callB call_lenA cLen_ok T.n_len PySem.boot_len (ra_cons (re_var (i := 1)) (ra_nil))) (ra_nil)) (len_cons len_nil)) (rg_name (i := 6) sc_law_agrees.nd) (rss_one (rs_if (rt_w (rw_or (rt_not (rt_val (re_callN (ok_law_same T 8) (hr.mono (by decide)) T.g_law_same T.F_law_same.kp T.b_law_same (ra_cons (re_callN (ok_law_read T) (hr.mono (by decide)) T.g_law_read T.F_law_read.kp T.b_law_read (ra_cons (re_var (i := 0)) (ra_cons (re_ix (re_var (i := 1)) (re_var (i := 6))) (ra_nil)))) (ra_cons (re_ix (re_var (i := 2)) (re_var (i := 6))) (ra_nil)))))) (rw_or1 (rt_not (rt_val (re_callN (ok_law_same T 8) (hr.mono (by decide)) T.g_law_same T.F_law_same.kp T.b_law_same (ra_cons (re_cmp (op_inG rfl (tm_contains_1_ok T) (hr.mono (by decide))) fInG_ok (re_ix (re_var (i := 1)) (re_var (i := 6))) (re_var (i := 0)) (by with_unfolding_all rfl)) (ra_cons (re_bl) (ra_nil))))))))) (rss_one (rs_ret (re_bl))) (rss_nil)))) (rss_cons (rs_for (passes_of rfl) (ri_any (re_lst (ra_cons (re_str) (ra_cons (re_str) (ra_cons (re_str) (ra_cons (re_op2 op_addA fAdd_ok (re_ix (re_var (i := 1)) (re_int)) (re_op2 op_mulS fMulS_ok (re_str) (re_int))) (ra_nil))))))) (rg_name (i := 7) sc_law_agrees.nd) (rss_one (rs_if (rt_w (rw_or (rt_not (rt_val (re_callN (ok_law_same T 8) (hr.mono (by decide)) T.g_law_same T.F_law_same.kp T.b_law_same (ra_cons (re_callN (ok_law_read T) (hr.mono (by decide)) T.g_law_read T.F_law_read.kp T.b_law_read (ra_cons (re_var (i := 0)) (ra_cons (re_var (i := 7)) (ra_nil)))) (ra_cons (re_tup (ra_cons (re_str) (ra_cons (re_var (i := 7)) (ra_nil)))) (ra_nil)))))) (rw_or1 (rt_not (rt_val (re_callN (ok_law_same T 8) (hr.mono (by decide)) T.g_law_same T.F_law_same.kp T.b_law_same (ra_cons (re_cmp (op_inG rfl (tm_contains_1_ok T) (hr.mono (by decide))) fInG_ok (re_var (i := 7)) (re_var (i := 0)) (by with_unfolding_all rfl)) (ra_cons (re_bl) (ra_nil))))))))) (rss_one (rs_ret (re_bl))) (rss_nil)))) (rss_one (rs_ret (re_bl)))))))))
theorem ok_law_stored (T : Txt P K mg a fd e) : FnOk P w K mg base (L2.CX P w) 5 (a 12) (fd 12) ["_law_memory", "_law_cell", "_law_value"] (spM K (clT e) m_law_stored) :=
  fn_ok (k := 4) rfl T.F_law_stored sc_law_stored (fun cdv A outer s H E hr => by exact rss_cons (rs_tryN sc_law_stored.nd (.named (i := 3) ⟨rfl, by decide, .inl T.gx_UnknownCell⟩ T.x_UnknownCell rfl rfl (fun ea oe ec fs ed pn et hz hf => by exact rss_cons (rs_if (rt_w (rw_or (rt_val (re_isE (i := 3) (T.X_all ec (tb_UnknownCell_lt et)) hz hf (pe_glob (v := .ref (e cx_OutOfRange)) rfl T.gx_OutOfRange rfl) (fun u h => h) (T.i_OutOfRange ec) T.n_isinstance)) (rw_or1 (rt_not (rt_val (re_isE (i := 3) (T.X_all ec (tb_UnknownCell_lt et)) hz hf (pe_glob (v := .ref (e cx_ElderError)) rfl T.gx_ElderError rfl) (fun u h => h) (T.i_ElderError ec) T.n_isinstance)))))) (rss_one (rs_ret (re_non))) (rss_nil)) (rss_one (rs_ret (re_tup (ra_cons (re_str) (ra_cons (re_ef (i := 3) (T.X_all ec (tb_UnknownCell_lt et)) (T.nf_cell ec (tb_UnknownCell_lt et)) hz hf) (ra_nil))))))) (.named (i := 3) ⟨rfl, by decide, .inl T.gx_OutOfRange⟩ T.x_OutOfRange rfl rfl (fun ea oe ec fs ed pn et hz hf => by exact rss_cons (rs_if (rt_not (rt_val (re_isE (i := 3) (T.X_all ec (tb_OutOfRange_lt et)) hz hf (pe_glob (v := .ref (e cx_ElderError)) rfl T.gx_ElderError rfl) (fun u h => h) (T.i_ElderError ec) T.n_isinstance))) (rss_one (rs_ret (re_non))) (rss_nil)) (rss_one (rs_ret (re_tup (ra_cons (re_str) (ra_cons (re_ef (i := 3) (T.X_all ec (tb_OutOfRange_lt et)) (T.nf_value ec (tb_OutOfRange_lt et)) hz hf) (ra_nil))))))) (.nil))) (fun W pn xe itk hp => by exact rss_one (rs_setG (tm_setitem_1_sok T) (hr.mono (by decide)) (re_var (i := 0)) (re_var (i := 1)) (re_var (i := 2))))) (rss_one (rs_ret (re_tup (ra_cons (re_str) (ra_nil))))))
theorem ok_law (T : Txt P K mg a fd e) : FnOk P w K mg base (L2.CX P w) 11 (a 13) (fd 13) ["_law_script"] (spM K (clT e) m_law) :=
  fn_ok (k := 10) rfl T.F_law sc_law (fun cdv A outer s H E hr => by exact rss_cons (rs_set (i := 1) sc_law.nd (re_callN (ok_law_pool T) (hr.mono (by decide)) T.g_law_pool T.F_law_pool.kp T.b_law_pool (ra_cons (re_var (i := 0)) (ra_nil)))) (rss_cons (rs_set (i := 2) sc_law.nd (re_callN (ok_law_cells T) (hr.mono (by decide)) T.g_law_cells T.F_law_cells.kp T.b_law_cells (ra_cons (re_var (i := 1)) (ra_cons (re_int) (ra_nil))))) (rss_cons (rs_set (i := 3) sc_law.nd (re_listC T.n_list (ra_cons (re_var (i := 2)) (ra_nil)))) (rss_cons (rs_set (i := 4) sc_law.nd (re_make T.mk_Memory T.g_Memory (ok_Memory__init_ T) (hr.mono (by decide)) T.b_Memory__init_ (ra_cons (re_var (i := 3)) (ra_nil)))) (rss_cons (rs_if (rt_cmp (op_neA hr) fNe_rel.op (re_var (i := 3)) (re_var (i := 2))) (rss_one (rs_ret (re_bl))) (rss_nil)) (rss_cons (rs_set (i := 5) sc_law.nd (re_make T.mk_Memory T.g_Memory (ok_Memory__init_ T) (hr.mono (by decide)) T.b_Memory__init_ (ra_cons (re_callTy call_tuple_of cTuple_ok T.n_tuple PyProof.Rows.boot_tuple (ra_cons (re_var (i := 2)) (ra_nil))) (ra_nil)))) (rss_cons (rs_expr (re_app (re_var (i := 3)) (re_str))) (rss_cons (rs_setLcC (i := 6) (own := [("_law_name", 12)]) sc_law.nd (ri_any (re_var (i := 2))) (blkOk_by (N := N_law) (sc := defScope s_law) (by decide +kernel)) (fun _ _ _ _ _ => rgw_name (i := 12) sc_law.nd) (fun _ _ _ _ _ => rts_nil) (fun _ _ _ _ _ => re_int) (sw_true rfl rfl rfl (by decide +kernel))) (rss_cons (rs_for (passes_of rfl) (ri_range1 T.n_range (ra_cons (re_callN (ok_law_draw T) (hr.mono (by decide)) T.g_law_draw T.F_law_draw.kp T.b_law_draw (ra_cons (re_var (i := 1)) (ra_cons (re_int) (ra_cons (re_int) (ra_nil))))) (ra_nil)) (len_cons len_nil)) (rg_name (i := 7) sc_law.nd) (rss_cons (rs_set (i := 8) sc_law.nd (re_op2 op_sub fSub_ok (re_callN (ok_law_draw T) (hr.mono (by decide)) T.g_law_draw T.F_law_draw.kp T.b_law_draw (ra_cons (re_var (i := 1)) (ra_cons (re_op2 op_addA fAdd_ok (re_int) (re_op2 op_mul fMul_ok (re_int) (re_var (i := 7)))) (ra_cons (re_int) (ra_nil))))) (re_int))) (rss_cons (rs_set (i := 8) sc_law.nd (re_op2 op_mul fMul_ok (re_var (i := 8)) (re_ix (re_lst (ra_cons (re_int) (ra_cons (re_int) (ra_cons (re_int) (ra_cons (re_int) (ra_cons (re_op2 op_pow fPow_ok (re_int) (re_int)) (ra_nil))))))) (re_callN (ok_law_draw T) (hr.mono (by decide)) T.g_law_draw T.F_law_draw.kp T.b_law_draw (ra_cons (re_var (i := 1)) (ra_cons (re_op2 op_addA fAdd_ok (re_int) (re_var (i := 7))) (ra_cons (re_int) (ra_nil)))))))) (rss_cons (rs_set (i := 9) sc_law.nd (re_op2 op_addA fAdd_ok (re_var (i := 2)) (re_lst (ra_cons (re_str) (ra_nil))))) (rss_cons (rs_set (i := 10) sc_law.nd (re_callN (ok_law_draw T) (hr.mono (by decide)) T.g_law_draw T.F_law_draw.kp T.b_law_draw (ra_cons (re_var (i := 1)) (ra_cons (re_op2 op_addA fAdd_ok (re_int) (re_op2 op_mul fMul_ok (re_int) (re_var (i := 7)))) (ra_cons (re_callB call_lenA cLen_ok T.n_len PySem.boot_len (ra_cons (re_var (i := 9)) (ra_nil))) (ra_nil)))))) (rss_cons (rs_set (i := 11) sc_law.nd (re_tup (ra_cons (re_str) (ra_nil)))) (rss_cons (rs_if (rt_cmp (op_eqA hr) fEq_rel.op (re_var (i := 10)) (re_callB call_lenA cLen_ok T.n_len PySem.boot_len (ra_cons (re_var (i := 2)) (ra_nil)))) (rss_one (rs_set (i := 11) sc_law.nd (re_tup (ra_cons (re_str) (ra_cons (re_str) (ra_nil)))))) (rss_one (rs_if (rt_w (rw_or (rt_cmp op_lt fLt_rel.op (re_var (i := 8)) (re_int)) (rw_or1 (rt_cmp op_gt fGt_rel.op (re_var (i := 8)) (re_int))))) (rss_one (rs_set (i := 11) sc_law.nd (re_tup (ra_cons (re_str) (ra_cons (re_var (i := 8)) (ra_nil)))))) (rss_one (rs_setG (tm_setitem_0_sok T) (hr.mono (by decide)) (re_var (i := 6)) (re_var (i := 10)) (re_var (i := 8))))))) (rss_cons (rs_if (rt_not (rt_val (re_callN (ok_law_same T 8) (hr.mono (by decide)) T.g_law_same T.F_law_same.kp T.b_law_same (ra_cons (re_callN (ok_law_stored T) (hr.mono (by decide)) T.g_law_stored T.F_law_stored.kp T.b_law_stored (ra_cons (re_var (i := 4)) (ra_cons (re_ix (re_var (i := 9)) (re_var (i := 10))) (ra_cons (re_var (i := 8)) (ra_nil))))) (ra_cons (re_var (i := 11)) (ra_nil)))))) (rss_one (rs_ret (re_bl))) (rss_nil)) (rss_one (rs_if (rt_not (rt_val (re_callN (ok_law_agrees T) (hr.mono (by decide)) T.g_law_agrees T.F_law_agrees.kp T.b_law_agrees (ra_cons (re_var (i := 4)) (ra_cons (re_var (i := 2)) (ra_cons (re_var (i := 6)) (ra_nil))))))) (rss_one (rs_ret (re_bl))) (rss_nil))))))))))) (rss_cons (rs_if (rt_w (rw_or (rt_not (rt_val (re_callN (ok_law_agrees T) (hr.mono (by decide)) T.g_law_agrees T.F_law_agrees.kp T.b_law_agrees (ra_cons (re_var (i := 5)) (ra_cons (re_var (i := 2)) (ra_cons (re_lc (own := [("_law_name", 12)]) sc_law.nd (ri_any (re_var (i := 2))) (blkOk_by (N := N_law) (sc := defScope s_law) (by decide +kernel)) (fun _ _ _ _ _ => rgw_name (i := 12) sc_law.nd) (fun _ _ _ _ _ => rts_nil) (fun _ _ _ _ _ => re_int)) (ra_nil))))))) (rw_or1 (rt_not (rt_val (re_callN (ok_law_agrees T) (hr.mono (by decide)) T.g_law_agrees T.F_law_agrees.kp T.b_law_agrees (ra_cons (re_var (i := 4)) (ra_cons (re_var (i := 2)) (ra_cons (re_var (i := 6)) (ra_nil)))))))))) (rss_one (rs_ret (re_bl))) (rss_nil)) (rss_cons (rs_if (rt_not (rt_val (re_callN (ok_law_wide T) (hr.mono (by decide)) T.g_law_wide T.F_law_wide.kp T.b_law_wide (ra_cons (re_var (i := 1)) (ra_nil))))) (rss_one (rs_ret (re_bl))) (rss_nil)) (rss_one (rs_ret (re_and (re_callN (ok_law_same T 8) (hr.mono (by decide)) T.g_law_same T.F_law_same.kp T.b_law_same (ra_cons (re_clsC T.g_Memory T.cc_Memory_GREATEST fun _ _ => by simp only [Mi.IsD]) (ra_cons (re_int) (ra_nil)))) (re_one (re_cmp op_isBl fIsB_rel.op (re_fld (ok := of_locked_0) (of_locked_0_ok T) (re_var (i := 4))) (re_bl)))))))))))))))))
end
theorem all_mk {w : World} {K : PySem.W.Frag} {h : Heap} {mg : Str → Option Value} {fa : Addr} (X : K.In h) (G : h.Ns mainGlobals mg) (hfa : mg "law" = some (.ref fa))
    {f0 f1 f2 f3 f4 f5 f6 f7 f8 f9 f10 f11 f12 f13 f14 : Addr}
    {od0 an0 od1 an1 od2 an2 od3 an3 od4 an4 od5 an5 od6 an6 od7 an7 od8 an8 od9 an9 od10 an10 od11 an11 od12 an12 od13 an13 od14 an14 : Option Addr}
    {sl0 sl1 sl2 sl3 sl4 sl5 sl6 sl7 sl8 sl9 sl10 sl11 sl12 sl13 sl14 : Array (Option Value)}
    {oc0 kV0 dc0 pm0 cd0 ct0 oc1 kV1 dc1 pm1 cd1 ct1 oc2 kV2 dc2 pm2 cd2 ct2 oc3 kV3 dc3 pm3 cd3 ct3 oc4 kV4 dc4 pm4 cd4 ct4 oc5 kV5 dc5 pm5 cd5 ct5 oc6 kV6 dc6 pm6 cd6 ct6 oc7 kV7 dc7 pm7 cd7 ct7 oc8 kV8 dc8 pm8 cd8 ct8 oc9 kV9 dc9 pm9 cd9 ct9 oc10 kV10 dc10 pm10 cd10 ct10 oc11 kV11 dc11 pm11 cd11 ct11 oc12 kV12 dc12 pm12 cd12 ct12 oc13 kV13 dc13 pm13 cd13 ct13 oc14 kV14 dc14 pm14 cd14 ct14 : Value}
    {C0 C1 C2 C3 : Addr}
    (uC0 : PySem.W.nsIn K mainGlobals "OutOfRange" = some (some (.ref C0)))
    (uC1 : PySem.W.nsIn K mainGlobals "UnknownCell" = some (some (.ref C1)))
    (uC2 : PySem.W.nsIn K mainGlobals "ElderError" = some (some (.ref C2)))
    (uC3 : PySem.W.nsIn K mainGlobals "Memory" = some (some (.ref C3)))
    (a0 : PySem.W.nsIn K mainGlobals "_law_pool" = some (some (.ref f0)))
    (l0 : K.lookup f0 = some ⟨oc0, od0, .func (PySem.W.fnOf "_law_pool" "_law_pool" (defArgs s_law_pool) (defBody s_law_pool) (defScope s_law_pool) .none kV0 dc0 pm0 an0 cd0 ct0), sl0⟩)
    (c0 : PySem.W.codeIn K cd0 "_law_pool" = true)
    (k0 : PySem.W.keepIn K (.ref f0) = true)
    (a1 : PySem.W.nsIn K mainGlobals "_law_draw" = some (some (.ref f1)))
    (l1 : K.lookup f1 = some ⟨oc1, od1, .func (PySem.W.fnOf "_law_draw" "_law_draw" (defArgs s_law_draw) (defBody s_law_draw) (defScope s_law_draw) .none kV1 dc1 pm1 an1 cd1 ct1), sl1⟩)
    (c1 : PySem.W.codeIn K cd1 "_law_draw" = true)
    (k1 : PySem.W.keepIn K (.ref f1) = true)
    (a2 : PySem.W.nsIn K mainGlobals "_law_cells" = some (some (.ref f2)))
    (l2 : K.lookup f2 = some ⟨oc2, od2, .func (PySem.W.fnOf "_law_cells" "_law_cells" (defArgs s_law_cells) (defBody s_law_cells) (defScope s_law_cells) .none kV2 dc2 pm2 an2 cd2 ct2), sl2⟩)
    (c2 : PySem.W.codeIn K cd2 "_law_cells" = true)
    (k2 : PySem.W.keepIn K (.ref f2) = true)
    (a3 : PySem.W.findIn K (.ref C3) "__init__" = some (some (.ref f3)))
    (l3 : K.lookup f3 = some ⟨oc3, od3, .func (PySem.W.fnOf "__init__" "Memory.__init__" (defArgs s_Memory__init_) (defBody s_Memory__init_) (defScope s_Memory__init_) .none kV3 dc3 pm3 an3 cd3 ct3), sl3⟩)
    (c3 : PySem.W.codeIn K cd3 "Memory.__init__" = true)
    (k3 : PySem.W.keepIn K (.ref f3) = true)
    (a4 : PySem.W.nsIn K mainGlobals "_law_same" = some (some (.ref f4)))
    (l4 : K.lookup f4 = some ⟨oc4, od4, .func (PySem.W.fnOf "_law_same" "_law_same" (defArgs s_law_same) (defBody s_law_same) (defScope s_law_same) .none kV4 dc4 pm4 an4 cd4 ct4), sl4⟩)
    (c4 : PySem.W.codeIn K cd4 "_law_same" = true)
    (k4 : PySem.W.keepIn K (.ref f4) = true)
    (a5 : PySem.W.findIn K (.ref C3) "__setitem__" = some (some (.ref f5)))
    (l5 : K.lookup f5 = some ⟨oc5, od5, .func (PySem.W.fnOf "__setitem__" "Memory.__setitem__" (defArgs s_Memory__setitem_) (defBody s_Memory__setitem_) (defScope s_Memory__setitem_) .none kV5 dc5 pm5 an5 cd5 ct5), sl5⟩)
    (c5 : PySem.W.codeIn K cd5 "Memory.__setitem__" = true)
    (k5 : PySem.W.keepIn K (.ref f5) = true)
    (a6 : PySem.W.findIn K (.ref C3) "__getitem__" = some (some (.ref f6)))
    (l6 : K.lookup f6 = some ⟨oc6, od6, .func (PySem.W.fnOf "__getitem__" "Memory.__getitem__" (defArgs s_Memory__getitem_) (defBody s_Memory__getitem_) (defScope s_Memory__getitem_) .none kV6 dc6 pm6 an6 cd6 ct6), sl6⟩)
    (c6 : PySem.W.codeIn K cd6 "Memory.__getitem__" = true)
    (k6 : PySem.W.keepIn K (.ref f6) = true)
    (a7 : PySem.W.nsIn K mainGlobals "_law_read" = some (some (.ref f7)))
    (l7 : K.lookup f7 = some ⟨oc7, od7, .func (PySem.W.fnOf "_law_read" "_law_read" (defArgs s_law_read) (defBody s_law_read) (defScope s_law_read) .none kV7 dc7 pm7 an7 cd7 ct7), sl7⟩)
    (c7 : PySem.W.codeIn K cd7 "_law_read" = true)
    (k7 : PySem.W.keepIn K (.ref f7) = true)
    (a8 : PySem.W.findIn K (.ref C3) "__len__" = some (some (.ref f8)))
    (l8 : K.lookup f8 = some ⟨oc8, od8, .func (PySem.W.fnOf "__len__" "Memory.__len__" (defArgs s_Memory__len_) (defBody s_Memory__len_) (defScope s_Memory__len_) .none kV8 dc8 pm8 an8 cd8 ct8), sl8⟩)
    (c8 : PySem.W.codeIn K cd8 "Memory.__len__" = true)
    (k8 : PySem.W.keepIn K (.ref f8) = true)
    (a9 : PySem.W.findIn K (.ref C3) "__contains__" = some (some (.ref f9)))
    (l9 : K.lookup f9 = some ⟨oc9, od9, .func (PySem.W.fnOf "__contains__" "Memory.__contains__" (defArgs s_Memory__contains_) (defBody s_Memory__contains_) (defScope s_Memory__contains_) .none kV9 dc9 pm9 an9 cd9 ct9), sl9⟩)
    (c9 : PySem.W.codeIn K cd9 "Memory.__contains__" = true)
    (k9 : PySem.W.keepIn K (.ref f9) = true)
    (a10 : PySem.W.nsIn K mainGlobals "_law_wide" = some (some (.ref f10)))
    (l10 : K.lookup f10 = some ⟨oc10, od10, .func (PySem.W.fnOf "_law_wide" "_law_wide" (defArgs s_law_wide) (defBody s_law_wide) (defScope s_law_wide) .none kV10 dc10 pm10 an10 cd10 ct10), sl10⟩)
    (c10 : PySem.W.codeIn K cd10 "_law_wide" = true)
    (k10 : PySem.W.keepIn K (.ref f10) = true)
    (a11 : PySem.W.nsIn K mainGlobals "_law_agrees" = some (some (.ref f11)))
    (l11 : K.lookup f11 = some ⟨oc11, od11, .func (PySem.W.fnOf "_law_agrees" "_law_agrees" (defArgs s_law_agrees) (defBody s_law_agrees) (defScope s_law_agrees) .none kV11 dc11 pm11 an11 cd11 ct11), sl11⟩)
    (c11 : PySem.W.codeIn K cd11 "_law_agrees" = true)
    (k11 : PySem.W.keepIn K (.ref f11) = true)
    (a12 : PySem.W.nsIn K mainGlobals "_law_stored" = some (some (.ref f12)))
    (l12 : K.lookup f12 = some ⟨oc12, od12, .func (PySem.W.fnOf "_law_stored" "_law_stored" (defArgs s_law_stored) (defBody s_law_stored) (defScope s_law_stored) .none kV12 dc12 pm12 an12 cd12 ct12), sl12⟩)
    (c12 : PySem.W.codeIn K cd12 "_law_stored" = true)
    (k12 : PySem.W.keepIn K (.ref f12) = true)
    (a13 : PySem.W.nsIn K mainGlobals "law" = some (some (.ref f13)))
    (l13 : K.lookup f13 = some ⟨oc13, od13, .func (PySem.W.fnOf "law" "law" (defArgs s_law) (defBody s_law) (defScope s_law) .none kV13 dc13 pm13 an13 cd13 ct13), sl13⟩)
    (c13 : PySem.W.codeIn K cd13 "law" = true)
    (k13 : PySem.W.keepIn K (.ref f13) = true)
    (a14 : PySem.W.findIn K (.ref C3) "__iter__" = some (some (.ref f14)))
    (l14 : K.lookup f14 = some ⟨oc14, od14, .func (PySem.W.fnOf "__iter__" "Memory.__iter__" (defArgs s_Memory__iter_) (defBody s_Memory__iter_) (defScope s_Memory__iter_) .none kV14 dc14 pm14 an14 cd14 ct14), sl14⟩)
    (c14 : PySem.W.codeIn K cd14 "Memory.__iter__" = true)
    (k14 : PySem.W.keepIn K (.ref f14) = true)
    (z_abs : PySem.W.nsIn K mainGlobals "abs" = some none)
    (z_all : PySem.W.nsIn K mainGlobals "all" = some none)
    (z_bool : PySem.W.nsIn K mainGlobals "bool" = some none)
    (z_int : PySem.W.nsIn K mainGlobals "int" = some none)
    (z_isinstance : PySem.W.nsIn K mainGlobals "isinstance" = some none)
    (z_iter : PySem.W.nsIn K mainGlobals "iter" = some none)
    (z_len : PySem.W.nsIn K mainGlobals "len" = some none)
    (z_list : PySem.W.nsIn K mainGlobals "list" = some none)
    (z_range : PySem.W.nsIn K mainGlobals "range" = some none)
    (z_str : PySem.W.nsIn K mainGlobals "str" = some none)
    (z_sum : PySem.W.nsIn K mainGlobals "sum" = some none)
    (z_tuple : PySem.W.nsIn K mainGlobals "tuple" = some none)
    (tC0 : PySem.W.typeIn K (.ref C0) = some (.type "type"))
    (lC0 : PySem.W.isClsIn K C0 = true)
    (pp0 : PySem.W.subIn K (.ref C0) (.ref C0) = some true)
    (bC0 : PySem.W.subIn K (.ref C0) (.type "BaseException") = some true)
    (tC1 : PySem.W.typeIn K (.ref C1) = some (.type "type"))
    (lC1 : PySem.W.isClsIn K C1 = true)
    (pp1 : PySem.W.subIn K (.ref C1) (.ref C1) = some true)
    (bC1 : PySem.W.subIn K (.ref C1) (.type "BaseException") = some true)
    (tC2 : PySem.W.typeIn K (.ref C2) = some (.type "type"))
    (lC2 : PySem.W.isClsIn K C2 = true)
    (pp2 : PySem.W.subIn K (.ref C2) (.ref C2) = some true)
    (bC2 : PySem.W.subIn K (.ref C2) (.type "BaseException") = some true)
    (kC0 : PySem.W.keepIn K (.ref C0) = true)
    (gaC0 : PySem.W.findIn K (.ref C0) "__getattribute__" = some (some (.builtin "BaseException.__getattribute__")))
    (ggC0 : PySem.W.findIn K (.ref C0) "__getattr__" = some none)
    (hdC0 : PySem.W.hasDictIn K C0 = true)
    (caC0 : PySem.W.findIn K (.ref C0) "__class__" = some (some (.builtin "object.__class__")))
    (hmC0 : PySem.W.mroIn K C0 (.type "object") = some true)
    (p0_1 : PySem.W.subIn K (.ref C0) (.ref C1) = some false)
    (p0_0 : PySem.W.subIn K (.ref C0) (.ref C0) = some true)
    (p0_2 : PySem.W.subIn K (.ref C0) (.ref C2) = some true)
    (nf0_cell : PySem.W.findIn K (.ref C0) "cell" = some none)
    (nf0_value : PySem.W.findIn K (.ref C0) "value" = some none)
    (kC1 : PySem.W.keepIn K (.ref C1) = true)
    (gaC1 : PySem.W.findIn K (.ref C1) "__getattribute__" = some (some (.builtin "BaseException.__getattribute__")))
    (ggC1 : PySem.W.findIn K (.ref C1) "__getattr__" = some none)
    (hdC1 : PySem.W.hasDictIn K C1 = true)
    (caC1 : PySem.W.findIn K (.ref C1) "__class__" = some (some (.builtin "object.__class__")))
    (hmC1 : PySem.W.mroIn K C1 (.type "object") = some true)
    (p1_1 : PySem.W.subIn K (.ref C1) (.ref C1) = some true)
    (p1_0 : PySem.W.subIn K (.ref C1) (.ref C0) = some false)
    (p1_2 : PySem.W.subIn K (.ref C1) (.ref C2) = some true)
    (nf1_cell : PySem.W.findIn K (.ref C1) "cell" = some none)
    (nf1_value : PySem.W.findIn K (.ref C1) "value" = some none)
    (snC : PySem.W.specialIn K (.builtin "object.__class__") "__get__" = some (some (.builtin "getset_descriptor.__get__")))
    (htC : PySem.W.takesIn K (.builtin "object.__class__") = some true)
    {nm0 q0 : Str} {NN0 : Addr} {bs0 : List Value} {sn0 : List Str} {sb0 : List Value} {ab0 : Bool} {col0 : Option Bool} {dd0 : Option Addr} {u00 u10 u20 u30 u50 : Option Value}
    (xl0 : K.lookup C0 = some (PySem.excClassObj nm0 q0 C0 NN0 bs0 [.ref C2, .type "ValueError", .type "Exception", .type "BaseException", .type "object"] true sn0 sb0 ab0 col0 dd0 u00 u10 u20 u30 u50 "ValueError.__new__"))
    (sa0 : PySem.W.findIn K (.ref C0) "__setattr__" = some (some (.builtin "object.__setattr__")))
    {fx0 cda0 cc0 : Addr} {oc0x kV0x dc0x pm0x ct0x cl0x ocb0x : Value} {od0x an0x cld0x odb0x : Option Addr} {sl0x csl0x slb0x : Array (Option Value)} {vs0x : Array Value} {fl0x : Str} {tf0x : Tok}
    (iC0 : PySem.W.findIn K (.ref C0) "__init__" = some (some (.ref fx0)))
    (tI0 : PySem.W.typeIn K (.ref fx0) = some (.type "function"))
    (mr0 : PySem.W.mroIn K C0 (.ref C0) = some true)
    (sup0 : PySem.W.ks_superIn K C0 C0 "__init__" = some (some (.builtin "ValueError.__init__")))
    (vE0 : PySem.W.subIn K (.ref C0) (.type "ValueError") = some true)
    (lx0 : K.lookup fx0 = some ⟨oc0x, od0x, .func (PySem.W.fnX "__init__" "OutOfRange.__init__" (defArgs s_OutOfRange__init_) (defBody s_OutOfRange__init_) (defScope s_OutOfRange__init_) [("__class__", cc0)] .none kV0x dc0x pm0x an0x (.ref cda0) ct0x), sl0x⟩)
    (cx0 : PySem.W.codeIn K (.ref cda0) "OutOfRange.__init__" = true)
    (lc0 : K.lookup cc0 = some ⟨cl0x, cld0x, .cell (some (.ref C0)), csl0x⟩)
    (ld0 : K.lookup cda0 = some ⟨ocb0x, odb0x, .fields vs0x, slb0x⟩)
    (vs0 : vs0x[2]? = some (.str fl0x tf0x))
    (fe0 : ((PySem.Challenge.rw_elderreads_k07_memory_items.prog.main.file : Str) == fl0x) = true)
    {nm1 q1 : Str} {NN1 : Addr} {bs1 : List Value} {sn1 : List Str} {sb1 : List Value} {ab1 : Bool} {col1 : Option Bool} {dd1 : Option Addr} {u01 u11 u21 u31 u51 : Option Value}
    (xl1 : K.lookup C1 = some (PySem.excClassObj nm1 q1 C1 NN1 bs1 [.ref C2, .type "ValueError", .type "Exception", .type "BaseException", .type "object"] true sn1 sb1 ab1 col1 dd1 u01 u11 u21 u31 u51 "ValueError.__new__"))
    (sa1 : PySem.W.findIn K (.ref C1) "__setattr__" = some (some (.builtin "object.__setattr__")))
    {fx1 cda1 cc1 : Addr} {oc1x kV1x dc1x pm1x ct1x cl1x ocb1x : Value} {od1x an1x cld1x odb1x : Option Addr} {sl1x csl1x slb1x : Array (Option Value)} {vs1x : Array Value} {fl1x : Str} {tf1x : Tok}
    (iC1 : PySem.W.findIn K (.ref C1) "__init__" = some (some (.ref fx1)))
    (tI1 : PySem.W.typeIn K (.ref fx1) = some (.type "function"))
    (mr1 : PySem.W.mroIn K C1 (.ref C1) = some true)
    (sup1 : PySem.W.ks_superIn K C1 C1 "__init__" = some (some (.builtin "ValueError.__init__")))
    (vE1 : PySem.W.subIn K (.ref C1) (.type "ValueError") = some true)
    (lx1 : K.lookup fx1 = some ⟨oc1x, od1x, .func (PySem.W.fnX "__init__" "UnknownCell.__init__" (defArgs s_UnknownCell__init_) (defBody s_UnknownCell__init_) (defScope s_UnknownCell__init_) [("__class__", cc1)] .none kV1x dc1x pm1x an1x (.ref cda1) ct1x), sl1x⟩)
    (cx1 : PySem.W.codeIn K (.ref cda1) "UnknownCell.__init__" = true)
    (lc1 : K.lookup cc1 = some ⟨cl1x, cld1x, .cell (some (.ref C1)), csl1x⟩)
    (ld1 : K.lookup cda1 = some ⟨ocb1x, odb1x, .fields vs1x, slb1x⟩)
    (vs1 : vs1x[2]? = some (.str fl1x tf1x))
    (fe1 : ((PySem.Challenge.rw_elderreads_k07_memory_items.prog.main.file : Str) == fl1x) = true)
    (tpC : PySem.W.nsIn K cStatics "thirdparty.any" = some none)
    (z_super : PySem.W.nsIn K mainGlobals "super" = some none)
    (topC : (PySem.Challenge.rw_elderreads_k07_memory_items.prog.main.scope.names.lookup ("super" : Str)).isSome = false)
    (pg3 : PySem.W.plainGet K C3 Str.empty = true)
    (hd3 : PySem.W.hasDictIn K C3 = true)
    (po3 : PySem.W.plainOver K C3 = true)
    (sb3 : PySem.W.findIn K (.ref C3) "__setattr__" = some (some (.builtin "object.__setattr__")))
    (nsq3 : PySem.W.noSeq K C3 = true)
    (mk3 : PySem.W.makesIn K C3 = true)
    (kp3 : PySem.W.keepIn K (.ref C3) = true)
    (if6 : PySem.W.isFn K (.ref f6) = true)
    (fi6 : PySem.W.fnIn K f6 = true)
    (if9 : PySem.W.isFn K (.ref f9) = true)
    (fi9 : PySem.W.fnIn K f9 = true)
    (if8 : PySem.W.isFn K (.ref f8) = true)
    (fi8 : PySem.W.fnIn K f8 = true)
    (if5 : PySem.W.isFn K (.ref f5) = true)
    (fi5 : PySem.W.fnIn K f5 = true)
    (if14 : PySem.W.isFn K (.ref f14) = true)
    (fi14 : PySem.W.fnIn K f14 = true)
    (if3 : PySem.W.isFn K (.ref f3) = true)
    (fi3 : PySem.W.fnIn K f3 = true)
    (no3_locked : PySem.W.findIn K (.ref C3) "locked" = some none)
    (no3_stored : PySem.W.findIn K (.ref C3) "stored" = some none)
    {tk3_GREATEST : Tok}
    (co3_GREATEST : PySem.W.findIn K (.ref C3) "GREATEST" = some (some (.int 9 tk3_GREATEST)))
    (cg3_GREATEST : PySem.W.specialIn K (.int 9 tk3_GREATEST) "__get__" = some none)
    {tc3_GREATEST : Tok}
    (rd3_GREATEST : PySem.W.readsIn K C3 (.type "type") = true)
    (fc3_GREATEST : PySem.W.findCls K (.ref C3) (.type "type") "GREATEST" = some (.val (.int 9 tc3_GREATEST)))
    : ∃ fd : FuncData, (∀ (s : Shared) (u : Value), BindsTo s fd ⟨[u], []⟩ [("_law_script", u)]) ∧ ∀ base : Heap, K.In base → base.Ns mainGlobals mg → FnOk PySem.Challenge.rw_elderreads_k07_memory_items.prog w K mg base (L2.CX PySem.Challenge.rw_elderreads_k07_memory_items.prog w) 11 fa fd ["_law_script"] (spA K m_law) := by
  have e := hfa.symm.trans (PySem.W.mg_of X G a13)
  cases e
  have F0 := fun_mk (st := s_law_pool) l0 c0 k0
  have F1 := fun_mk (st := s_law_draw) l1 c1 k1
  have F2 := fun_mk (st := s_law_cells) l2 c2 k2
  have F3 := fun_mk (st := s_Memory__init_) l3 c3 k3
  have F4 := fun_mk (st := s_law_same) l4 c4 k4
  have F5 := fun_mk (st := s_Memory__setitem_) l5 c5 k5
  have F6 := fun_mk (st := s_Memory__getitem_) l6 c6 k6
  have F7 := fun_mk (st := s_law_read) l7 c7 k7
  have F8 := fun_mk (st := s_Memory__len_) l8 c8 k8
  have F9 := fun_mk (st := s_Memory__contains_) l9 c9 k9
  have F10 := fun_mk (st := s_law_wide) l10 c10 k10
  have F11 := fun_mk (st := s_law_agrees) l11 c11 k11
  have F12 := fun_mk (st := s_law_stored) l12 c12 k12
  have F13 := fun_mk (st := s_law) l13 c13 k13
  have F14 := fun_mk (st := s_Memory__iter_) l14 c14 k14
  let ad : Nat → Addr := fun n => [f0, f1, f2, f3, f4, f5, f6, f7, f8, f9, f10, f11, f12, fa, f14, fx0, fx1].getD n 0
  let fds : Nat → FuncData := fun n => [PySem.W.fnOf "_law_pool" "_law_pool" (defArgs s_law_pool) (defBody s_law_pool) (defScope s_law_pool) .none kV0 dc0 pm0 an0 cd0 ct0, PySem.W.fnOf "_law_draw" "_law_draw" (defArgs s_law_draw) (defBody s_law_draw) (defScope s_law_draw) .none kV1 dc1 pm1 an1 cd1 ct1, PySem.W.fnOf "_law_cells" "_law_cells" (defArgs s_law_cells) (defBody s_law_cells) (defScope s_law_cells) .none kV2 dc2 pm2 an2 cd2 ct2, PySem.W.fnOf "__init__" "Memory.__init__" (defArgs s_Memory__init_) (defBody s_Memory__init_) (defScope s_Memory__init_) .none kV3 dc3 pm3 an3 cd3 ct3, PySem.W.fnOf "_law_same" "_law_same" (defArgs s_law_same) (defBody s_law_same) (defScope s_law_same) .none kV4 dc4 pm4 an4 cd4 ct4, PySem.W.fnOf "__setitem__" "Memory.__setitem__" (defArgs s_Memory__setitem_) (defBody s_Memory__setitem_) (defScope s_Memory__setitem_) .none kV5 dc5 pm5 an5 cd5 ct5, PySem.W.fnOf "__getitem__" "Memory.__getitem__" (defArgs s_Memory__getitem_) (defBody s_Memory__getitem_) (defScope s_Memory__getitem_) .none kV6 dc6 pm6 an6 cd6 ct6, PySem.W.fnOf "_law_read" "_law_read" (defArgs s_law_read) (defBody s_law_read) (defScope s_law_read) .none kV7 dc7 pm7 an7 cd7 ct7, PySem.W.fnOf "__len__" "Memory.__len__" (defArgs s_Memory__len_) (defBody s_Memory__len_) (defScope s_Memory__len_) .none kV8 dc8 pm8 an8 cd8 ct8, PySem.W.fnOf "__contains__" "Memory.__contains__" (defArgs s_Memory__contains_) (defBody s_Memory__contains_) (defScope s_Memory__contains_) .none kV9 dc9 pm9 an9 cd9 ct9, PySem.W.fnOf "_law_wide" "_law_wide" (defArgs s_law_wide) (defBody s_law_wide) (defScope s_law_wide) .none kV10 dc10 pm10 an10 cd10 ct10, PySem.W.fnOf "_law_agrees" "_law_agrees" (defArgs s_law_agrees) (defBody s_law_agrees) (defScope s_law_agrees) .none kV11 dc11 pm11 an11 cd11 ct11, PySem.W.fnOf "_law_stored" "_law_stored" (defArgs s_law_stored) (defBody s_law_stored) (defScope s_law_stored) .none kV12 dc12 pm12 an12 cd12 ct12, PySem.W.fnOf "law" "law" (defArgs s_law) (defBody s_law) (defScope s_law) .none kV13 dc13 pm13 an13 cd13 ct13, PySem.W.fnOf "__iter__" "Memory.__iter__" (defArgs s_Memory__iter_) (defBody s_Memory__iter_) (defScope s_Memory__iter_) .none kV14 dc14 pm14 an14 cd14 ct14, PySem.W.fnX "__init__" "OutOfRange.__init__" (defArgs s_OutOfRange__init_) (defBody s_OutOfRange__init_) (defScope s_OutOfRange__init_) [("__class__", cc0)] .none kV0x dc0x pm0x an0x (.ref cda0) ct0x, PySem.W.fnX "__init__" "UnknownCell.__init__" (defArgs s_UnknownCell__init_) (defBody s_UnknownCell__init_) (defScope s_UnknownCell__init_) [("__class__", cc1)] .none kV1x dc1x pm1x an1x (.ref cda1) ct1x].getD n (PySem.W.fnOf "" "" (defArgs s_law) [] (defScope s_law) .none .none .none .none none .none .none)
  let ex : Nat → Addr := fun n => [C0, C1, C2, C3].getD n 0
  have T : Txt PySem.Challenge.rw_elderreads_k07_memory_items.prog K mg ad fds ex := {
    I_OutOfRange := { T := ⟨⟨nm0, q0, NN0, bs0, _, sn0, sb0, ab0, col0, dd0, u00, u10, u20, u30, u50, xl0, by show PySem.HandSPX.refsVE [.type "ValueError", .type "Exception", .type "BaseException", .type "object"] = true; decide +kernel⟩, sa0, bC0, tC0, kC0⟩, g := PySem.W.mg_of X G uC0, iC := iC0, tI := tI0, mro := mr0, sup := sup0, vE := vE0, tp := tpC, cls := lC0, ms := PySem.W.mg_none_of X G z_super, fn := ⟨_, _, _, _, _, _, _, _, _, _, _, _, _, _, _, _, _, _, _, rfl, lx0, cx0, lc0, ld0, vs0, fe0⟩, top := topC }
    eb_OutOfRange := .all fun us hl => match us, hl with | [_, _], _ => rfl
    I_UnknownCell := { T := ⟨⟨nm1, q1, NN1, bs1, _, sn1, sb1, ab1, col1, dd1, u01, u11, u21, u31, u51, xl1, by show PySem.HandSPX.refsVE [.type "ValueError", .type "Exception", .type "BaseException", .type "object"] = true; decide +kernel⟩, sa1, bC1, tC1, kC1⟩, g := PySem.W.mg_of X G uC1, iC := iC1, tI := tI1, mro := mr1, sup := sup1, vE := vE1, tp := tpC, cls := lC1, ms := PySem.W.mg_none_of X G z_super, fn := ⟨_, _, _, _, _, _, _, _, _, _, _, _, _, _, _, _, _, _, _, rfl, lx1, cx1, lc1, ld1, vs1, fe1⟩, top := topC }
    eb_UnknownCell := .all fun us hl => match us, hl with | [_, _], _ => rfl
    nf_cell := fun c h => match c, h with | 0, _ => nf0_cell | 1, _ => nf1_cell | (n + 2), h => absurd h (by omega)
    nf_value := fun c h => match c, h with | 0, _ => nf0_value | 1, _ => nf1_value | (n + 2), h => absurd h (by omega)
    X_all := fun c h => match c, h with | 0, _ => ⟨lC0, gaC0, ggC0, bC0, hdC0, caC0, snC, htC, hmC0⟩ | 1, _ => ⟨lC1, gaC1, ggC1, bC1, hdC1, caC1, snC, htC, hmC1⟩ | (n + 2), h => absurd h (by omega)
    gx_UnknownCell := PySem.W.mg_of X G uC1
    x_UnknownCell := fun c b h => match c, h with | 0, h => by cases (show some false = some b from h); exact exm1 bC1 lC1 tC1 p0_1 | 1, h => by cases (show some true = some b from h); exact exm1 bC1 lC1 tC1 p1_1 | (n + 2), h => by cases (show (none : Option Bool) = some b from h)
    i_UnknownCell := fun c b h => match c, h with | 0, h => by cases (show some false = some b from h); exact kit1 lC1 tC1 p0_1 (subne pp1 p0_1) | 1, h => by cases (show some true = some b from h); exact kit1 lC1 tC1 p1_1 (fun _ => rfl) | (n + 2), h => by cases (show (none : Option Bool) = some b from h)
    gx_OutOfRange := PySem.W.mg_of X G uC0
    x_OutOfRange := fun c b h => match c, h with | 0, h => by cases (show some true = some b from h); exact exm1 bC0 lC0 tC0 p0_0 | 1, h => by cases (show some false = some b from h); exact exm1 bC0 lC0 tC0 p1_0 | (n + 2), h => by cases (show (none : Option Bool) = some b from h)
    i_OutOfRange := fun c b h => match c, h with | 0, h => by cases (show some true = some b from h); exact kit1 lC0 tC0 p0_0 (fun _ => rfl) | 1, h => by cases (show some false = some b from h); exact kit1 lC0 tC0 p1_0 (subne pp0 p1_0) | (n + 2), h => by cases (show (none : Option Bool) = some b from h)
    gx_ElderError := PySem.W.mg_of X G uC2
    x_ElderError := fun c b h => match c, h with | 0, h => by cases (show some true = some b from h); exact exm1 bC2 lC2 tC2 p0_2 | 1, h => by cases (show some true = some b from h); exact exm1 bC2 lC2 tC2 p1_2 | (n + 2), h => by cases (show (none : Option Bool) = some b from h)
    i_ElderError := fun c b h => match c, h with | 0, h => by cases (show some true = some b from h); exact kit1 lC2 tC2 p0_2 (fun _ => rfl) | 1, h => by cases (show some true = some b from h); exact kit1 lC2 tC2 p1_2 (fun _ => rfl) | (n + 2), h => by cases (show (none : Option Bool) = some b from h)
    n_abs := PySem.W.mg_none_of X G z_abs
    n_all := PySem.W.mg_none_of X G z_all
    n_bool := PySem.W.mg_none_of X G z_bool
    n_int := PySem.W.mg_none_of X G z_int
    n_isinstance := PySem.W.mg_none_of X G z_isinstance
    n_iter := PySem.W.mg_none_of X G z_iter
    n_len := PySem.W.mg_none_of X G z_len
    n_list := PySem.W.mg_none_of X G z_list
    n_range := PySem.W.mg_none_of X G z_range
    n_str := PySem.W.mg_none_of X G z_str
    n_sum := PySem.W.mg_none_of X G z_sum
    n_tuple := PySem.W.mg_none_of X G z_tuple
    F_law_pool := F0
    g_law_pool := PySem.W.mg_of X G a0
    b_law_pool := F0.binds (ps := ["_law_script"]) fun _ _ _ _ _ _ us hl => match us, hl with | [_], _ => rfl
    F_law_draw := F1
    g_law_draw := PySem.W.mg_of X G a1
    b_law_draw := F1.binds (ps := ["_law_draws", "_law_k", "_law_many"]) fun _ _ _ _ _ _ us hl => match us, hl with | [_, _, _], _ => rfl
    F_law_cells := F2
    g_law_cells := PySem.W.mg_of X G a2
    b_law_cells := F2.binds (ps := ["_law_draws", "_law_at"]) fun _ _ _ _ _ _ us hl => match us, hl with | [_, _], _ => rfl
    F_Memory__init_ := F3
    b_Memory__init_ := F3.binds (ps := ["self", "cells"]) fun _ _ _ _ _ _ us hl => match us, hl with | [_, _], _ => rfl
    F_law_same := F4
    g_law_same := PySem.W.mg_of X G a4
    b_law_same := F4.binds (ps := ["_law_actual", "_law_due"]) fun _ _ _ _ _ _ us hl => match us, hl with | [_, _], _ => rfl
    F_Memory__setitem_ := F5
    b_Memory__setitem_ := F5.binds (ps := ["self", "cell", "value"]) fun _ _ _ _ _ _ us hl => match us, hl with | [_, _, _], _ => rfl
    F_Memory__getitem_ := F6
    b_Memory__getitem_ := F6.binds (ps := ["self", "cell"]) fun _ _ _ _ _ _ us hl => match us, hl with | [_, _], _ => rfl
    F_law_read := F7
    g_law_read := PySem.W.mg_of X G a7
    b_law_read := F7.binds (ps := ["_law_memory", "_law_cell"]) fun _ _ _ _ _ _ us hl => match us, hl with | [_, _], _ => rfl
    F_Memory__len_ := F8
    b_Memory__len_ := F8.binds (ps := ["self"]) fun _ _ _ _ _ _ us hl => match us, hl with | [_], _ => rfl
    F_Memory__contains_ := F9
    b_Memory__contains_ := F9.binds (ps := ["self", "cell"]) fun _ _ _ _ _ _ us hl => match us, hl with | [_, _], _ => rfl
    F_law_wide := F10
    g_law_wide := PySem.W.mg_of X G a10
    b_law_wide := F10.binds (ps := ["_law_draws"]) fun _ _ _ _ _ _ us hl => match us, hl with | [_], _ => rfl
    F_law_agrees := F11
    g_law_agrees := PySem.W.mg_of X G a11
    b_law_agrees := F11.binds (ps := ["_law_memory", "_law_cells_here", "_law_values"]) fun _ _ _ _ _ _ us hl => match us, hl with | [_, _, _], _ => rfl
    F_law_stored := F12
    g_law_stored := PySem.W.mg_of X G a12
    b_law_stored := F12.binds (ps := ["_law_memory", "_law_cell", "_law_value"]) fun _ _ _ _ _ _ us hl => match us, hl with | [_, _, _], _ => rfl
    F_law := F13
    g_law := PySem.W.mg_of X G a13
    b_law := F13.binds (ps := ["_law_script"]) fun _ _ _ _ _ _ us hl => match us, hl with | [_], _ => rfl
    F_Memory__iter_ := F14
    b_Memory__iter_ := F14.binds (ps := ["self"]) fun _ _ _ _ _ _ us hl => match us, hl with | [_], _ => rfl
    g_Memory := PySem.W.mg_of X G uC3
    cl_Memory := ⟨pg3, hd3, po3, sb3⟩
    ns_Memory := nsq3
    mk_Memory := ⟨mk3, a3, if3, kp3⟩
    d_Memory___getitem__ := a6
    d_Memory___contains__ := a9
    d_Memory___len__ := a8
    d_Memory___setitem__ := a5
    d_Memory___iter__ := a14
    d_Memory___init__ := a3
    if_Memory__getitem_ := if6
    fi_Memory__getitem_ := fi6
    if_Memory__contains_ := if9
    fi_Memory__contains_ := fi9
    if_Memory__len_ := if8
    fi_Memory__len_ := fi8
    if_Memory__setitem_ := if5
    fi_Memory__setitem_ := fi5
    if_Memory__iter_ := if14
    fi_Memory__iter_ := fi14
    if_Memory__init_ := if3
    fi_Memory__init_ := fi3
    no_Memory_locked := no3_locked
    no_Memory_stored := no3_stored
    co_Memory_GREATEST := ⟨_, co3_GREATEST, ⟨_, rfl⟩, cg3_GREATEST, by decide +kernel⟩
    cc_Memory_GREATEST := ⟨_, _, rd3_GREATEST, fc3_GREATEST, rfl, ⟨_, rfl⟩⟩
  }
  exact ⟨fds 13, fun s u => .of_eq rfl, fun base _ _ => (ok_law T).imp fun _ _ _ _ h => h _⟩
end Lw
namespace Lw
open PySem L2 Mi
theorem draw_ev {l : List Int} {k many : Int} {S : Store} (hk : 0 ≤ k) (hm : 0 < many) : m_law_draw [.lst (l.map .int), .int k, .int many] S = some (.ok (.int (drawF l k many)), S) := by
  unfold m_law_draw b_law_draw
  by_cases h : k < l.length
  · have e := atI_ints hk h
    simp [h, e, v_mod, hm, drawF]
  · simp [-List.map_take, h, v_mod, v_mul, hm, drawF, cut40, v_sum]
/-! ### the pool: some ints -/
theorem bd0_ev {a : List Int} {o0 o2 o4 o5 : Option D} {r : Int} (h : a.length < 10000) : ∃ (a' : List Int) (r' : Int), a'.length ≤ a.length + 1 ∧
    bd_law_pool_0 [o0, some (.ref 0), o2, some (.int r), o4, o5] [.lst (a.map .int)] = some (.nx [o0, some (.ref 0), o2, some (.int r'), o4, o5], [.lst (a'.map .int)]) := by
  by_cases hr : 0 < r
  · refine ⟨a ++ [r % 840], r / 840, by simp, ?_⟩
    have hz : szOk (a.length + 1) = true := sz_ok (by omega)
    simp [bd_law_pool_0, hr, v_mod, v_div, atC, hz]
  · exact ⟨a, r, by omega, by simp [bd_law_pool_0, hr]⟩
theorem bd1_ev {a : List Int} {o0 o3 o5 : Option D} {c k : Int} (h : a.length < 10000) (hk : 0 ≤ k ∧ k < 6) : ∃ (a' : List Int) (o5' : Option D), a'.length ≤ a.length + 1 ∧
    bd_law_pool_1 [o0, some (.ref 0), some (.int c), o3, some (.int k), o5] [.lst (a.map .int)] = some (.nx [o0, some (.ref 0), some (.int c), o3, some (.int k), o5'], [.lst (a'.map .int)]) := by
  have h0 : 0 ≤ (c * 48271 + k * 69621 + 17) % 2147483647 := Int.emod_nonneg _ (by decide)
  have h1 : (c * 48271 + k * 69621 + 17) % 2147483647 < 2147483647 := Int.emod_lt_of_pos _ (by decide)
  generalize hone : (c * 48271 + k * 69621 + 17) % 2147483647 = one at h0 h1
  refine ⟨a ++ [(one * one + one * 31 + k) % 1000003 % 840], some (.int one), by simp, ?_⟩
  have e1 : ∀ S, fMul S (.int one) (.int one) = some (.int (one * one)) := fun S => v_mul S _ _ (.inl ⟨by omega, by omega⟩)
  have hz : szOk (a.length + 1) = true := sz_ok (by omega)
  simp [bd_law_pool_1, v_mul, v_mod, hone, e1, atC, hz]
def Pst (o0 : Option D) (n : Nat) (g : Gm) (S : Store) : Prop := ∃ (a : List Int) (o2 o3 o4 o5 : Option D), a.length ≤ n ∧ g = [o0, some (.ref 0), o2, o3, o4, o5] ∧ S = [.lst (a.map .int)]
theorem in60 {a : List Int} {o0 o2 o4 o5 : Option D} {r : Int} (h : a.length < 9000) : ∃ g' S', forGo (rngD 0 60, none) (bN 4) bd_law_pool_0 (rngD 0 60) [o0, some (.ref 0), o2, some (.int r), o4, o5] [.lst (a.map .int)] = some (.nx g', S') ∧ Pst o0 (a.length + 60) g' S' := by
  obtain ⟨g', S', e, a', r', o', h1, h2, h3⟩ := forGo_all (src := (rngD 0 60, none)) (b := bN 4) (body := bd_law_pool_0)
    (fun ds g S => ∃ (a' : List Int) (r' : Int) (o' : Option D), a'.length + ds.length ≤ a.length + 60 ∧ g = [o0, some (.ref 0), o2, some (.int r'), o', o5] ∧ S = [.lst (a'.map .int)])
    (fun d ds g S ⟨a', r', o', h1, h2, h3⟩ => by
      subst h2 h3
      simp only [List.length_cons] at h1
      obtain ⟨b, r2, h4, h5⟩ := bd0_ev (a := a') (o0 := o0) (o2 := o2) (o4 := some d) (o5 := o5) (r := r') (by omega)
      exact ⟨trivial, _, _, _, rfl, .inl h5, b, r2, _, by omega, rfl, rfl⟩) (fun g S _ => trivial) (rngD 0 60) _ _ ⟨a, r, o4, by simp [rngD], rfl, rfl⟩
  exact ⟨g', S', e, a', _, _, _, _, by simpa using h1, h2, h3⟩
theorem in6 {a : List Int} {o0 o3 o4 o5 : Option D} {c : Int} (h : a.length < 9000) : ∃ g' S', forGo (rngD 0 6, none) (bN 4) bd_law_pool_1 (rngD 0 6) [o0, some (.ref 0), some (.int c), o3, o4, o5] [.lst (a.map .int)] = some (.nx g', S') ∧ Pst o0 (a.length + 60) g' S' := by
  obtain ⟨g', S', e, a', o4', o5', h1, h2, h3, _⟩ := forGo_all (src := (rngD 0 6, none)) (b := bN 4) (body := bd_law_pool_1)
    (fun ds g S => ∃ (a' : List Int) (o4' o5' : Option D), a'.length + ds.length ≤ a.length + 6 ∧ g = [o0, some (.ref 0), some (.int c), o3, o4', o5'] ∧ S = [.lst (a'.map .int)] ∧ ∀ d ∈ ds, ∃ k : Int, d = .int k ∧ 0 ≤ k ∧ k < 6)
    (fun d ds g S ⟨a', o4', o5', h1, h2, h3, h4⟩ => by
      subst h2 h3
      simp only [List.length_cons] at h1
      obtain ⟨k, rfl, hk⟩ := h4 d List.mem_cons_self
      obtain ⟨b, o, h5, h6⟩ := bd1_ev (a := a') (o0 := o0) (o3 := o3) (c := c) (k := k) (o5 := o5') (by omega) hk
      exact ⟨trivial, _, _, _, rfl, .inl h6, b, _, _, by omega, rfl, rfl, fun x hx => h4 x (List.mem_cons_of_mem _ hx)⟩) (fun g S _ => trivial) (rngD 0 6) _ _ ⟨a, o4, o5, by simp [rngD], rfl, rfl, fun d hd => by
        simp only [rngD, List.mem_map, List.mem_range] at hd
        obtain ⟨i, hi, rfl⟩ := hd
        exact ⟨i, by simp, by omega, by omega⟩⟩
  exact ⟨g', S', e, a', _, _, _, _, by simp at h1; omega, h2, h3⟩
theorem bd2_ev {o0 : Option D} {n : Nat} {g : Gm} {S : Store} {c : Int} (hn : n < 9000) (h : Pst o0 n g S) : ∃ g2 S2, bd_law_pool_2 (g.set 2 (some (.int c))) S = some (.nx g2, S2) ∧ Pst o0 (n + 60) g2 S2 := by
  obtain ⟨a, o2, o3, o4, o5, h1, rfl, rfl⟩ := h
  by_cases hc : (10 : Int) ^ 18 ≤ (if c < 0 then -c else c)
  · obtain ⟨g', S', e, b, p2, p3, p4, p5, q1, q2, q3⟩ := in60 (a := a) (o0 := o0) (o2 := some (.int c)) (o4 := o4) (o5 := o5) (r := if c < 0 then -c else c) (by omega)
    refine ⟨g', S', ?_, b, p2, p3, p4, p5, by omega, q2, q3⟩
    have hc' : (1000000000000000000 : Int) ≤ (if c < 0 then -c else c) := hc
    simp [bd_law_pool_2, v_pow, hc', big_ok, e]
  · obtain ⟨g', S', e, b, p2, p3, p4, p5, q1, q2, q3⟩ := in6 (a := a) (o0 := o0) (c := c) (o3 := some (.int (if c < 0 then -c else c))) (o4 := o4) (o5 := o5) (by omega)
    refine ⟨g', S', ?_, b, p2, p3, p4, p5, by omega, q2, q3⟩
    have hc' : ¬ (1000000000000000000 : Int) ≤ (if c < 0 then -c else c) := hc
    simp [bd_law_pool_2, v_pow, hc', big_ok, e]
theorem pool_ev (ns : List Int) (h : ns.length ≤ 63) : ∃ p : List Int, m_law_pool [.scr ns] [] = some (.ok (.lst (p.map .int)), []) := by
  obtain ⟨g', S', e, h1, _⟩ := forGo_all (src := (ns.map D.int, none)) (b := bN 2) (body := bd_law_pool_2)
    (fun ds g S => Pst (some (.scr ns)) (60 * (63 - ds.length)) g S ∧ ds.length ≤ 63 ∧ ∀ d ∈ ds, ∃ c, d = .int c)
    (fun d ds g S ⟨h1, h2, h3⟩ => by
      obtain ⟨c, rfl⟩ := h3 d List.mem_cons_self
      simp only [List.length_cons] at h1 h2
      obtain ⟨g2, S2, e2, a, p2, p3, p4, p5, q1, q2, q3⟩ := bd2_ev (c := c) (by omega) h1
      exact ⟨trivial, _, g2, S2, rfl, .inl e2, ⟨a, p2, p3, p4, p5, by omega, q2, q3⟩, by omega, fun x hx => h3 x (List.mem_cons_of_mem _ hx)⟩) (fun g S _ => trivial) (ns.map D.int) [some (.scr ns), some (.ref 0), none, none, none, none] [.lst []]
    ⟨⟨[], _, _, _, _, by simp, rfl, rfl⟩, by simpa using h, fun d hd => by
      obtain ⟨c, _, rfl⟩ := List.mem_map.mp hd
      exact ⟨c, rfl⟩⟩
  obtain ⟨a, p2, p3, p4, p5, q1, rfl, rfl⟩ := h1
  refine ⟨a, ?_⟩
  unfold m_law_pool b_law_pool mTrim
  simp [sz_ok, e, atC, refsLt, refsLts_ints]
end Lw
namespace Lw
open PySem L2 Mi
/-! ### same: a thing and itself -/
mutual
noncomputable def sOk : D → Bool
  | .tup l => szOk l.length && sOks l
  | .lst l => szOk l.length && sOks l
  | .scr _ => false
  | .ref _ => false
  | _ => true
noncomputable def sOks : List D → Bool
  | [] => true
  | d :: ds => sOk d && sOks ds
end
mutual
def dep : D → Nat
  | .tup l => deps l + 1
  | .lst l => deps l + 1
  | _ => 0
def deps : List D → Nat
  | [] => 0
  | d :: ds => max (dep d) (deps ds)
end
theorem sOks_mem : ∀ {l : List D} {d : D}, sOks l = true → d ∈ l → sOk d = true
  | d :: l, x, h, m => by
    simp only [sOks, Bool.and_eq_true] at h
    rcases List.mem_cons.mp m with rfl | m
    · exact h.1
    · exact sOks_mem h.2 m
theorem deps_mem : ∀ {l : List D} {d : D}, d ∈ l → dep d ≤ deps l
  | d :: l, x, m => by
    simp only [deps]
    rcases List.mem_cons.mp m with rfl | m
    · omega
    · have := deps_mem m; omega
theorem eqB_bl (S : Store) (a b : Bool) : eqB S (.bl a) (.bl b) = some (decide (a = b)) := by
  show (if scal (.bl a) (.bl b) = true then some (decide (V.bl a = V.bl b)) else none) = _
  rw [if_pos (show scal (.bl a) (.bl b) = true from rfl)]; simp
theorem eqB_int (S : Store) (a b : Int) : eqB S (.int a) (.int b) = some (decide (a = b)) := by
  show (if scal (.int a) (.int b) = true then some (decide (V.int a = V.int b)) else none) = _
  rw [if_pos (show scal (.int a) (.int b) = true from rfl)]; simp
theorem eqB_str (S : Store) (a b : Str) : eqB S (.str a) (.str b) = some (decide (a = b)) := by
  show (if scal (.str a) (.str b) = true then some (decide (V.str a = V.str b)) else none) = _
  rw [if_pos (show scal (.str a) (.str b) = true from rfl)]; simp
@[simp] theorem v_eqI (S : Store) (a b : Int) : fEq S (.int a) (.int b) = some (.bl (decide (a = b))) := by simp [fEq, eqB_int]
@[simp] theorem v_neI (S : Store) (a b : Int) : fNe S (.int a) (.int b) = some (.bl (!decide (a = b))) := by simp [fNe, eqB_int]
@[simp] theorem v_eqB (S : Store) (a b : Bool) : fEq S (.bl a) (.bl b) = some (.bl (decide (a = b))) := by simp [fEq, eqB_bl]
@[simp] theorem v_neB (S : Store) (a b : Bool) : fNe S (.bl a) (.bl b) = some (.bl (!decide (a = b))) := by simp [fNe, eqB_bl]
@[simp] theorem v_eqS (S : Store) (a b : Str) : fEq S (.str a) (.str b) = some (.bl (decide (a = b))) := by simp [fEq, eqB_str]
@[simp] theorem v_neS (S : Store) (a b : Str) : fNe S (.str a) (.str b) = some (.bl (!decide (a = b))) := by simp [fNe, eqB_str]
theorem alls (S : Store) (m : Nat) : cAll S [.lst (List.replicate m (.bl true))] = some (.bl true) := by
  have := v_all S (List.replicate m true)
  rw [List.map_replicate] at this
  rw [this]; simp
theorem same_seq {S : Store} {n : Nat} (ih : ∀ (d : D), dep d < n → sOk d = true → m_law_same n [d, d] S = some (.ok (.bl true), S)) (l : List D) (hz : szOk l.length = true) (hs : sOks l = true) (hd : deps l < n) (C : List D → D) (hC : ∀ l i, fIx S (C l) (.int i) = atI l i) (hL : cLen S [C l] = some (.int l.length)) :
        mLc [2] (mRng (mCons (mOpA cLen (mCons (mVar 1) mNil)) mNil)) (bN 2) (mP true) (mCall (m_law_same n) (mCons (mOp2 fIx (mVar 0) (mVar 2)) (mCons (mOp2 fIx (mVar 1) (mVar 2)) mNil))) [some (C l), some (C l), none] S = some (.ok (.lst (List.replicate l.length (D.bl true))), S) := by
  have hb : big62 (l.length : Int) = true := big_ok (by have := sz_iff.mp hz; omega)
  refine v_lc (S1 := S) (src := (rngD 0 l.length, none)) (by simp [hb, hL]) ?_
  rw [lcGo_map (src := (rngD 0 l.length, none)) (fun _ => .bl true) True.intro]
  · simp [rngD, List.eq_replicate_iff]
  · intro d hd'
    simp only [rngD, List.mem_map, List.mem_range] at hd'
    obtain ⟨i, hi, rfl⟩ := hd'
    refine ⟨_, rfl, ?_⟩
    have hx : atI l ((0 : Int) + (i : Int)) = some l[i] := atI_natD (by omega) hi
    have hm := List.getElem_mem hi
    have r := ih l[i] (by have := deps_mem hm; omega) (sOks_mem hs hm)
    rw [Int.zero_add] at hx
    simp [wipeG, hC, hx, r]
  · simp [rngD]; exact sz_iff.mp hz
theorem same_tup {S : Store} {n : Nat} (l : List D) (e : mLc [2] (mRng (mCons (mOpA cLen (mCons (mVar 1) mNil)) mNil)) (bN 2) (mP true) (mCall (m_law_same n) (mCons (mOp2 fIx (mVar 0) (mVar 2)) (mCons (mOp2 fIx (mVar 1) (mVar 2)) mNil))) [some (.tup l), some (.tup l), none] S = some (.ok (.lst (List.replicate l.length (D.bl true))), S)) : m_law_same (n + 1) [.tup l, .tup l] S = some (.ok (.bl true), S) := by
  simp [m_law_same, b_law_same, fIsi, isiB, tyN, e, alls]
theorem same_lst {S : Store} {n : Nat} (l : List D) (e : mLc [2] (mRng (mCons (mOpA cLen (mCons (mVar 1) mNil)) mNil)) (bN 2) (mP true) (mCall (m_law_same n) (mCons (mOp2 fIx (mVar 0) (mVar 2)) (mCons (mOp2 fIx (mVar 1) (mVar 2)) mNil))) [some (.lst l), some (.lst l), none] S = some (.ok (.lst (List.replicate l.length (D.bl true))), S)) : m_law_same (n + 1) [.lst l, .lst l] S = some (.ok (.bl true), S) := by
  simp [m_law_same, b_law_same, fIsi, isiB, tyN, e, alls]
theorem same_refl {S : Store} (n : Nat) : ∀ (d : D), dep d < n → sOk d = true → m_law_same n [d, d] S = some (.ok (.bl true), S) := by
  induction n with
  | zero => intro d h _; omega
  | succ n ih =>
    intro d h k
    cases d with
    | tup l =>
      simp only [sOk, Bool.and_eq_true] at k
      simp only [dep] at h
      exact same_tup l (same_seq ih l k.1 k.2 (by omega) D.tup (fun _ _ => rfl) rfl)
    | lst l =>
      simp only [sOk, Bool.and_eq_true] at k
      simp only [dep] at h
      exact same_lst l (same_seq ih l k.1 k.2 (by omega) D.lst (fun _ _ => rfl) rfl)
    | non => simp [m_law_same, b_law_same, fIsi, isiB, tyN, fIsN, Mi.isNon]
    | bl b => simp [m_law_same, b_law_same, fIsi, isiB, tyN, fIsN, Mi.isNon]
    | int b => simp [m_law_same, b_law_same, fIsi, isiB, tyN, fIsN, Mi.isNon]
    | str b => simp [m_law_same, b_law_same, fIsi, isiB, tyN, fIsN, Mi.isNon]
    | scr b => simp [sOk] at k
    | ref b => simp [sOk] at k
end Lw
namespace Lw
open PySem L2 Mi
/-! ### a memory in the store -/
def mkv (cs : List Str) (vs : List Int) : List (Key × D) := cs.zipWith (fun c v => ((Sum.inr c : Key), D.int v)) vs
theorem mkv_len {cs : List Str} {vs : List Int} (h : cs.length = vs.length) : (mkv cs vs).length = cs.length := by simp [mkv, h]
theorem mkv_none {c : Str} : ∀ {cs : List Str} {vs : List Int}, c ∉ cs → valD (mkv cs vs) (.inr c) = none
  | [], vs, _ => by cases vs <;> rfl
  | _ :: _, [], _ => rfl
  | d :: cs, v :: vs, h => by
    have h1 : d ≠ c := fun e => h (by simp [e])
    have h2 : c ∉ cs := fun e => h (by simp [e])
    have := mkv_none (vs := vs) h2
    simp only [mkv, valD] at this ⊢
    simp [h1, this]
theorem mkv_some {c : Str} {v : Int} : ∀ {cs : List Str} {vs : List Int} {k : Nat}, cs.Nodup → cs[k]? = some c → vs[k]? = some v → valD (mkv cs vs) (.inr c) = some (.int v)
  | [], _, _, _, h, _ => by simp at h
  | _ :: _, [], _, _, _, h => by simp at h
  | d :: cs, w :: vs, 0, _, h1, h2 => by
    simp at h1 h2
    subst h1 h2
    simp [mkv, valD]
  | d :: cs, w :: vs, k + 1, nd, h1, h2 => by
    have nd' := List.nodup_cons.mp nd
    simp at h1 h2
    have h3 : d ≠ c := fun e => nd'.1 (by rw [e]; exact List.mem_of_getElem? h1)
    have := mkv_some nd'.2 h1 h2
    simp only [mkv, valD] at this ⊢
    simp [h3, this]
theorem mkv_any {c : Str} : ∀ {cs : List Str} {vs : List Int} {k : Nat}, cs.length = vs.length → cs[k]? = some c → ((mkv cs vs).any fun kv => decide (kv.1 = .inr c)) = true := fun {cs vs k} hl h => by
  have hk := (List.getElem?_eq_some_iff.mp h).1
  have hc := (List.getElem?_eq_some_iff.mp h).2
  refine List.any_eq_true.mpr ⟨(.inr c, .int (vs[k]'(by omega))), ?_, by simp⟩
  refine List.mem_iff_getElem.mpr ⟨k, by rw [mkv_len hl]; exact hk, ?_⟩
  simp [mkv, hc]
theorem mkv_map {c : Str} {v : Int} : ∀ {cs : List Str} {vs : List Int}, c ∉ cs → (mkv cs vs).map (fun kv => if kv.1 = .inr c then (kv.1, .int v) else kv) = mkv cs vs
  | [], vs, _ => by cases vs <;> rfl
  | _ :: _, [], _ => rfl
  | d :: cs, w :: vs, h => by
    have h1 : d ≠ c := fun e => h (by simp [e])
    have h2 : c ∉ cs := fun e => h (by simp [e])
    have := mkv_map (v := v) (vs := vs) h2
    simp only [mkv] at this ⊢
    simp [h1, this]
theorem mkv_set {c : Str} {v : Int} : ∀ {cs : List Str} {vs : List Int} {k : Nat}, cs.Nodup → cs[k]? = some c → cs.length = vs.length → (mkv cs vs).map (fun kv => if kv.1 = .inr c then (kv.1, .int v) else kv) = mkv cs (vs.set k v)
  | [], _, _, _, h, _ => by simp at h
  | _ :: _, [], _, _, _, h => by simp at h
  | d :: cs, w :: vs, 0, nd, h1, h2 => by
    simp at h1
    subst h1
    have nd' := List.nodup_cons.mp nd
    have := mkv_map (v := v) (vs := vs) nd'.1
    simp only [mkv] at this ⊢
    simp [this]
  | d :: cs, w :: vs, k + 1, nd, h1, h2 => by
    have nd' := List.nodup_cons.mp nd
    simp at h1 h2
    have h3 : d ≠ c := fun e => nd'.1 (by rw [e]; exact List.mem_of_getElem? h1)
    have := mkv_set (v := v) nd'.2 h1 h2
    simp only [mkv] at this ⊢
    simp [h3, this]
theorem mkv_put {cs : List Str} {vs : List Int} {k : Nat} {c : Str} (nd : cs.Nodup) (h : cs[k]? = some c) (hl : cs.length = vs.length) (v : Int) : putKD (mkv cs vs) (.inr c) (.int v) = mkv cs (vs.set k v) := by
  unfold putKD
  rw [mkv_any hl h, if_pos rfl, mkv_set nd h hl]
theorem mkv_keys : ∀ {cs : List Str} {vs : List Int}, cs.length = vs.length → keysD (mkv cs vs) = cs.map .str
  | [], [], _ => rfl
  | c :: cs, v :: vs, h => by
    have := mkv_keys (cs := cs) (vs := vs) (by simpa using h)
    simp [mkv, keysD, keyD] at this ⊢
    exact this
structure Mem (S : Store) (i j : Nat) (cs : List Str) (vs : List Int) : Prop where
  hi : S[i]? = some (.ins cx_Memory [("stored", .ref j), ("locked", .bl false)])
  hj : S[j]? = some (.dK (mkv cs vs))
  len : cs.length = vs.length
  nd : cs.Nodup
  sm : cs.length ≤ 1000
section
variable {S : Store} {i j : Nat} {cs : List Str} {vs : List Int}
theorem fld_st (M : Mem S i j cs vs) : fldOf of_stored_0 "stored" S (.ref i) = some (.ref j) := by
  simp [fldOf, M.hi, of_stored_0, List.lookup]
theorem con_gr (M : Mem S i j cs vs) : conOf oc_GREATEST_0 "GREATEST" S (.ref i) = some (.int 9) := by
  have h : List.lookup ("GREATEST" : Str) [(("stored" : Str), D.ref j), ("locked", .bl false)] = none := by
    have h1 : (("GREATEST" : Str) == "stored") = false := by decide
    have h2 : (("GREATEST" : Str) == "locked") = false := by decide
    simp [List.lookup, h1, h2]
  simp [conOf, M.hi, oc_GREATEST_0, h]
theorem d_at (M : Mem S i j cs vs) : dOf S j = some (mkv cs vs) := by simp [dOf, M.hj]
theorem contains_ev (M : Mem S i j cs vs) (c : Str) : m_Memory__contains_ [.ref i, .str c] S = some (.ok (.bl (decide (c ∈ cs))), S) := by
  have hv : (valD (mkv cs vs) (.inr c)).isSome = decide (c ∈ cs) := by
    by_cases h : c ∈ cs
    · obtain ⟨k, hk, e⟩ := List.mem_iff_getElem.mp h
      rw [mkv_some (v := vs[k]'(by rw [← M.len]; exact hk)) M.nd (List.getElem?_eq_some_iff.mpr ⟨hk, e⟩) (by simp)]
      simp [h]
    · rw [mkv_none h]; simp [h]
  simp [m_Memory__contains_, b_Memory__contains_, fld_st M, fInG, d_at M, keyOf, hv]
theorem getitem_no (M : Mem S i j cs vs) {c : Str} (h : c ∉ cs) : m_Memory__getitem_ [.ref i, .str c] S = some (.exc cx_UnknownCell [("cell", .str c)], S) := by
  simp [m_Memory__getitem_, b_Memory__getitem_, fld_st M, fNotInG, d_at M, keyOf, mkv_none h, mRaiseF, refsLts, refsLt]
theorem getitem_ev (M : Mem S i j cs vs) {c : Str} {v : Int} {k : Nat} (h1 : cs[k]? = some c) (h2 : vs[k]? = some v) : m_Memory__getitem_ [.ref i, .str c] S = some (.ok (.int v), S) := by
  simp [m_Memory__getitem_, b_Memory__getitem_, fld_st M, fNotInG, d_at M, keyOf, mkv_some M.nd h1 h2, mRaiseF, mIxG]
theorem setitem_no (M : Mem S i j cs vs) {c : Str} (h : c ∉ cs) (v : Int) : m_Memory__setitem_ [.ref i, .str c, .int v] S = some (.exc cx_UnknownCell [("cell", .str c)], S) := by
  simp [m_Memory__setitem_, b_Memory__setitem_, fld_st M, fNotInG, d_at M, keyOf, mkv_none h, mRaiseF, refsLts, refsLt]
theorem val_at (M : Mem S i j cs vs) {c : Str} {k : Nat} (h1 : cs[k]? = some c) : ∃ w, valD (mkv cs vs) (.inr c) = some (.int w) := by
  have hk := (List.getElem?_eq_some_iff.mp h1).1
  exact ⟨_, mkv_some M.nd h1 (List.getElem?_eq_getElem (by rw [← M.len]; exact hk))⟩
theorem setitem_big (M : Mem S i j cs vs) {c : Str} {k : Nat} (h1 : cs[k]? = some c) {v : Int} (h : ¬ (0 ≤ v ∧ v ≤ 9)) : m_Memory__setitem_ [.ref i, .str c, .int v] S = some (.exc cx_OutOfRange [("value", .int v)], S) := by
  obtain ⟨w, hw⟩ := val_at M h1
  by_cases h0 : 0 ≤ v
  · have h9 : ¬ v ≤ 9 := fun z => h ⟨h0, z⟩
    simp [m_Memory__setitem_, b_Memory__setitem_, fld_st M, con_gr M, fNotInG, d_at M, keyOf, hw, mRaiseF, refsLts, refsLt, h0, h9]
  · simp [m_Memory__setitem_, b_Memory__setitem_, fld_st M, con_gr M, fNotInG, d_at M, keyOf, hw, mRaiseF, refsLts, refsLt, h0]
theorem setitem_ev (M : Mem S i j cs vs) {c : Str} {k : Nat} (h1 : cs[k]? = some c) {v : Int} (h : 0 ≤ v ∧ v ≤ 9) : m_Memory__setitem_ [.ref i, .str c, .int v] S = some (.ok .non, S.set j (.dK (mkv cs (vs.set k v)))) := by
  obtain ⟨w, hw⟩ := val_at M h1
  have hz : szOk ((mkv cs vs).length + 1) = true := sz_ok (by rw [mkv_len M.len]; have := M.sm; omega)
  have hj := M.hj
  simp [m_Memory__setitem_, b_Memory__setitem_, fld_st M, con_gr M, fNotInG, d_at M, keyOf, hw, mRaiseF, h.1, h.2, mSetG, hj, hz, mkv_put M.nd h1 M.len]
theorem mem_set (M : Mem S i j cs vs) (k : Nat) (v : Int) : Mem (S.set j (.dK (mkv cs (vs.set k v)))) i j cs (vs.set k v) := by
  have ne : j ≠ i := fun e => by have := M.hi; rw [← e, M.hj] at this; cases this
  have hl : j < S.length := (List.getElem?_eq_some_iff.mp M.hj).1
  exact ⟨by rw [List.getElem?_set_ne ne]; exact M.hi, by rw [List.getElem?_set_self hl], by rw [List.length_set]; exact M.len, M.nd, M.sm⟩
end
end Lw
namespace Lw
open PySem L2 Mi
section
variable {S : Store} {i j : Nat} {cs : List Str} {vs : List Int}
theorem d_not (M : Mem S i j cs vs) : dOf S i = none := by simp [dOf, M.hi]
theorem in_ev (M : Mem S i j cs vs) (c : Str) : fInG tm_contains_1 S (.str c) (.ref i) = some (.bl (decide (c ∈ cs))) := by
  simp [fInG, d_not M, fInA, M.hi, inO, tm_contains_1, contains_ev M]
theorem len_in (M : Mem S i j cs vs) : m_Memory__len_ [.ref i] S = some (.ok (.int cs.length), S) := by
  simp [m_Memory__len_, b_Memory__len_, fld_st M, cLenG, d_at M, mkv_len M.len]
theorem len_ev (M : Mem S i j cs vs) : cLenG tm_len_1 S [.ref i] = some (.int cs.length) := by
  have h : cdec (True ∧ (0 : Int) ≤ cs.length ∧ (cs.length : Int) < 2 ^ 63) = true := cdec_iff.mpr ⟨trivial, by omega, by have := M.sm; omega⟩
  simp only [cLenG, d_not M, cLenA, M.hi, lenO, tm_len_1, Option.bind_some, len_in M, h, if_true, Option.map_some]
theorem read_yes (M : Mem S i j cs vs) {c : Str} {v : Int} {k : Nat} (h1 : cs[k]? = some c) (h2 : vs[k]? = some v) : m_law_read [.ref i, .str c] S = some (.ok (.int v), S) := by
  have e := getitem_ev M h1 h2
  simp [m_law_read, b_law_read, mTryAs, mIxG, mIxA, d_not M, M.hi, tm_getitem_1, e]
theorem read_no (M : Mem S i j cs vs) {c : Str} (h : c ∉ cs) : m_law_read [.ref i, .str c] S = some (.ok (.tup [.str "cell", .str c]), S) := by
  have e := getitem_no M h
  simp [m_law_read, b_law_read, mTryAs, mIxG, mIxA, d_not M, M.hi, tm_getitem_1, e, tb_UnknownCell, mEf, fTup, sz_ok, outE, List.lookup]
theorem stored_no (M : Mem S i j cs vs) {c : Str} (h : c ∉ cs) (v : Int) : m_law_stored [.ref i, .str c, .int v] S = some (.ok (.tup [.str "cell", .str c]), S) := by
  have e := setitem_no M h v
  simp [m_law_stored, b_law_stored, mTryN, mCls, mSetG, mSetIx, M.hi, tm_setitem_1, e, tb_UnknownCell, tb_OutOfRange, tb_ElderError, mEf, mIsE, fTup, sz_ok, outI, gI, List.lookup]
theorem stored_big (M : Mem S i j cs vs) {c : Str} {k : Nat} (h1 : cs[k]? = some c) {v : Int} (h : ¬ (0 ≤ v ∧ v ≤ 9)) : m_law_stored [.ref i, .str c, .int v] S = some (.ok (.tup [.str "value", .int v]), S) := by
  have e := setitem_big M h1 h
  simp [m_law_stored, b_law_stored, mTryN, mCls, mSetG, mSetIx, M.hi, tm_setitem_1, e, tb_UnknownCell, tb_OutOfRange, tb_ElderError, mEf, mIsE, fTup, sz_ok, outI, gI, List.lookup]
theorem stored_ev (M : Mem S i j cs vs) {c : Str} {k : Nat} (h1 : cs[k]? = some c) {v : Int} (h : 0 ≤ v ∧ v ≤ 9) : m_law_stored [.ref i, .str c, .int v] S = some (.ok (.tup [.str "done"]), S.set j (.dK (mkv cs (vs.set k v)))) := by
  have e := setitem_ev M h1 h
  simp [m_law_stored, b_law_stored, mTryN, mCls, mSetG, mSetIx, M.hi, tm_setitem_1, e, fTup, sz_ok]
/-! ### the walks -/
theorem sOks_strs : ∀ l : List Str, sOks (l.map D.str) = true
  | [] => rfl
  | x :: l => by simp [sOks, sOk, sOks_strs l]
theorem deps_strs : ∀ l : List Str, deps (l.map D.str) = 0
  | [] => rfl
  | x :: l => by simp [deps, dep, deps_strs l]
theorem sOks_ints : ∀ l : List Int, sOks (l.map D.int) = true
  | [] => rfl
  | x :: l => by simp [sOks, sOk, sOks_ints l]
theorem deps_ints : ∀ l : List Int, deps (l.map D.int) = 0
  | [] => rfl
  | x :: l => by simp [deps, dep, deps_ints l]
theorem same_strs {S : Store} (l : List Str) (h : l.length ≤ 1000) : m_law_same 8 [.lst (l.map .str), .lst (l.map .str)] S = some (.ok (.bl true), S) :=
  same_refl 8 _ (by simp [dep, deps_strs]) (by simp only [sOk, sOks_strs, Bool.and_true, List.length_map]; exact sz_ok (by omega))
theorem same_ints {S : Store} (l : List Int) (h : l.length ≤ 1000) : m_law_same 8 [.lst (l.map .int), .lst (l.map .int)] S = some (.ok (.bl true), S) :=
  same_refl 8 _ (by simp [dep, deps_ints]) (by simp only [sOk, sOks_ints, Bool.and_true, List.length_map]; exact sz_ok (by omega))
theorem same_int {S : Store} (v : Int) : m_law_same 8 [.int v, .int v] S = some (.ok (.bl true), S) := same_refl 8 _ (by simp [dep]) rfl
theorem same_bl {S : Store} (v : Bool) : m_law_same 8 [.bl v, .bl v] S = some (.ok (.bl true), S) := same_refl 8 _ (by simp [dep]) rfl
theorem same_2 {S : Store} (x y : Str) : m_law_same 8 [.tup [.str x, .str y], .tup [.str x, .str y]] S = some (.ok (.bl true), S) := same_refl 8 _ (by simp [dep, deps]) (by simp [sOk, sOks, sz_ok])
theorem same_2i {S : Store} (x : Str) (y : Int) : m_law_same 8 [.tup [.str x, .int y], .tup [.str x, .int y]] S = some (.ok (.bl true), S) := same_refl 8 _ (by simp [dep, deps]) (by simp [sOk, sOks, sz_ok])
theorem same_1 {S : Store} (x : Str) : m_law_same 8 [.tup [.str x], .tup [.str x]] S = some (.ok (.bl true), S) := same_refl 8 _ (by simp [dep, deps]) (by simp [sOk, sOks, sz_ok])
theorem lockE_ev {lk : Gm → Store → Option Nat} {m : Mi.M D} {g : Gm} {S S' : Store} {j : Nat} {kvs kvs' : List (Key × D)} {d : D} (h1 : lk g S = some j) (h2 : S[j]? = some (.dK kvs)) (h3 : m g (S.set j (.dF kvs)) = some (.ok d, S')) (h4 : S'[j]? = some (.dF kvs')) :
    mLockE lk m g S = some (.ok d, S'.set j (.dK kvs')) := by simp only [mLockE, h1, h2, h3, h4]
theorem lock_ev {lk : Gm → Store → Option Nat} {m : MS} {g g' : Gm} {S S' : Store} {j : Nat} {kvs kvs' : List (Key × D)} (h1 : lk g S = some j) (h2 : S[j]? = some (.dK kvs)) (h3 : m g (S.set j (.dF kvs)) = some (.nx g', S')) (h4 : S'[j]? = some (.dF kvs')) :
    mLock lk m g S = some (.nx g', S'.set j (.dK kvs')) := by simp only [mLock, h1, h2, h3, h4]
theorem lock_no {lk : Gm → Store → Option Nat} {m : MS} {g : Gm} {S : Store} (h1 : lk g S = none) : mLock lk m g S = m g S := by simp only [mLock, h1]
/-- the store with the dict locked -/
def lkd (S : Store) (j : Nat) (cs : List Str) (vs : List Int) : Store := S.set j (.dF (mkv cs vs))
theorem ne_ij (M : Mem S i j cs vs) : j ≠ i := fun e => by have := M.hi; rw [← e, M.hj] at this; cases this
theorem lkd_i (M : Mem S i j cs vs) : (lkd S j cs vs)[i]? = some (.ins cx_Memory [("stored", .ref j), ("locked", .bl false)]) := by
  unfold lkd; rw [List.getElem?_set_ne (ne_ij M)]; exact M.hi
theorem lkd_j (M : Mem S i j cs vs) : (lkd S j cs vs)[j]? = some (.dF (mkv cs vs)) := by
  unfold lkd; rw [List.getElem?_set_self (List.getElem?_eq_some_iff.mp M.hj).1]
theorem lkd_off (M : Mem S i j cs vs) : (lkd S j cs vs).set j (.dK (mkv cs vs)) = S := by
  unfold lkd
  rw [List.set_set]
  obtain ⟨h1, h2⟩ := List.getElem?_eq_some_iff.mp M.hj
  rw [← h2, List.set_getElem_self]
theorem st_look : List.lookup ("stored" : Str) [(("stored" : Str), D.ref j), ("locked", .bl false)] = some (.ref j) := by simp [List.lookup]
theorem lk_ev (M : Mem S i j cs vs) {m : Mi.M D} {g : Gm} (h : m g S = some (.ok (.ref i), S)) : lkO ti_0 m g S = some j := by
  simp [lkO, h, M.hi, ti_0, st_look, M.hj]
theorem lk_no (M : Mem S i j cs vs) {m : Mi.M D} {g : Gm} (h : m g (lkd S j cs vs) = some (.ok (.ref i), lkd S j cs vs)) : lkO ti_0 m g (lkd S j cs vs) = none := by
  simp [lkO, h, lkd_i M, ti_0, st_look, lkd_j M]
theorem io_ev (M : Mem S i j cs vs) {m : Mi.M D} {g : Gm} (h : m g (lkd S j cs vs) = some (.ok (.ref i), lkd S j cs vs)) : mIO ti_0 m g (lkd S j cs vs) = some (.ok (cs.map .str, none), lkd S j cs vs) := by
  simp [mIO, h, lkd_i M, ti_0, st_look, lkd_j M, mkv_keys M.len]
/-- [name for name in memory] -/
theorem names_ev (M : Mem S i j cs vs) {g : Gm} {a n : Nat} (hg : g[a]? = some (some (.ref i))) (hn : n < g.length) (ha : a ≠ n) : mLockE (lkO ti_0 (mVar a)) (mLc [n] (mIO ti_0 (mVar a)) (bN n) (mP true) (mVar n)) g S = some (.ok (.lst (cs.map .str)), S) := by
  have hv : ∀ T : Store, mVar a g T = some (.ok (.ref i), T) := fun T => by simp [hg]
  have e : mLc [n] (mIO ti_0 (mVar a)) (bN n) (mP true) (mVar n) g (lkd S j cs vs) = some (.ok (.lst (cs.map .str)), lkd S j cs vs) := by
    refine v_lc (io_ev M (hv _)) ?_
    have := lcGo_map (src := (cs.map D.str, none)) (b := bN n) (me := mVar n) (g0 := wipeG g [n]) (S := lkd S j cs vs) id True.intro (l := cs.map D.str) (acc := [])
    rw [this]
    · simp
    · intro d _
      exact ⟨_, rfl, by simp [wipeG, hn]⟩
    · have := M.sm; simp; omega
  have := lockE_ev (lk := lkO ti_0 (mVar a)) (lk_ev M (hv S)) M.hj e (lkd_j M)
  rw [lkd_off M] at this
  exact this
/-- for a in memory: for b in memory: count -/
theorem pairs_ev (M : Mem S i j cs vs) {g1 g2 o4 o5 o6 o7 o8 : Option D} : ∃ o4' o5', mLock (lkO ti_0 (mVar 0)) (mFor (mIO ti_0 (mVar 0)) (bN 4) bd_law_agrees_3) [some (.ref i), g1, g2, some (.int 0), o4, o5, o6, o7, o8] S = some (.nx [some (.ref i), g1, g2, some (.int (cs.length * cs.length : Nat)), o4', o5', o6, o7, o8], S) := by
  let T := lkd S j cs vs
  have hv : ∀ (g : Gm) (S : Store), g[0]? = some (some (.ref i)) → mVar 0 g S = some (.ok (.ref i), S) := fun g S h => by simp [h]
  have inner : ∀ (n : Nat) (a4 a5 : Option D), ∃ a5', bd_law_agrees_3 [some (.ref i), g1, g2, some (.int n), a4, a5, o6, o7, o8] T = some (.nx [some (.ref i), g1, g2, some (.int ((n + cs.length : Nat) : Int)), a4, a5', o6, o7, o8], T) := fun n a4 a5 => by
    obtain ⟨g', S', e, k, b5, h1, h2, h3⟩ := forGo_all (src := (cs.map D.str, none)) (b := bN 5) (body := bd_law_agrees_2)
      (fun ds g S => ∃ (k : Nat) (b5 : Option D), k + ds.length = n + cs.length ∧ g = [some (.ref i), g1, g2, some (.int k), a4, b5, o6, o7, o8] ∧ S = T)
      (fun d ds g S ⟨k, b5, h1, h2, h3⟩ => by
        subst h2 h3
        simp only [List.length_cons] at h1
        refine ⟨trivial, _, [some (.ref i), g1, g2, some (.int ((k + 1 : Nat) : Int)), a4, some d, o6, o7, o8], T, rfl, .inl ?_, k + 1, _, by omega, rfl, rfl⟩
        simp [bd_law_agrees_2]) (fun g S _ => trivial) (cs.map D.str) [some (.ref i), g1, g2, some (.int n), a4, a5, o6, o7, o8] T ⟨n, a5, by simp, rfl, rfl⟩
    subst h2 h3
    refine ⟨b5, ?_⟩
    unfold bd_law_agrees_3
    rw [lock_no (lk_no M (hv _ _ rfl)), v_for, io_ev M (hv _ _ rfl)]
    simp only [List.length_nil, Nat.add_zero] at h1
    rw [← h1]
    exact e
  obtain ⟨g', S', e, k, a4, a5, h1, h2, h3⟩ := forGo_all (src := (cs.map D.str, none)) (b := bN 4) (body := bd_law_agrees_3)
    (fun ds g S => ∃ (k : Nat) (a4 a5 : Option D), k + ds.length * cs.length = cs.length * cs.length ∧ g = [some (.ref i), g1, g2, some (.int k), a4, a5, o6, o7, o8] ∧ S = T)
    (fun d ds g S ⟨k, a4, a5, h1, h2, h3⟩ => by
      subst h2 h3
      obtain ⟨a5', e⟩ := inner k (some d) a5
      refine ⟨trivial, _, _, T, rfl, .inl e, k + cs.length, _, _, ?_, rfl, rfl⟩
      rw [List.length_cons, Nat.succ_mul] at h1
      omega) (fun g S _ => trivial) (cs.map D.str) [some (.ref i), g1, g2, some (.int 0), o4, o5, o6, o7, o8] T ⟨0, o4, o5, by simp, rfl, rfl⟩
  subst h2 h3
  refine ⟨a4, a5, ?_⟩
  simp only [List.length_nil, Nat.zero_mul, Nat.add_zero] at h1
  have e2 : mFor (mIO ti_0 (mVar 0)) (bN 4) bd_law_agrees_3 [some (.ref i), g1, g2, some (.int 0), o4, o5, o6, o7, o8] T = some (.nx [some (.ref i), g1, g2, some (.int (k : Nat)), a4, a5, o6, o7, o8], T) := by
    rw [v_for, io_ev M (hv _ _ rfl)]
    exact e
  have := lock_ev (lk := lkO ti_0 (mVar 0)) (lk_ev M (hv _ _ rfl)) M.hj e2 (lkd_j M)
  rw [lkd_off M, h1] at this
  exact this
end
end Lw
namespace Lw
open PySem L2 Mi
theorem seq_go {m n : MS} {g g1 : Gm} {S S1 : Store} (h : m g S = some (.nx g1, S1)) : mSeq m n g S = n g1 S1 := by simp [h]
structure Nm (cs : List Str) : Prop where
  l1 : 1 ≤ cs.length
  e0 : ("" : Str) ∉ cs
  e1 : ("nosuch" : Str) ∉ cs
  e2 : ("x " : Str) ∉ cs
  e3 : ∀ c, cs[0]? = some c → c ++ ("xxxxxx" : Str) ∉ cs ∧ c.length ≤ 100
section
variable {S : Store} {i j : Nat} {cs : List Str} {vs : List Int} {V : D}
theorem at_str {k : Nat} (h : k < cs.length) : atI (cs.map D.str) (k : Int) = some (.str cs[k]) := by
  rw [atI_natD (l := cs.map D.str) (i := (k : Int)) (j := k) rfl (by simpa using h)]
  simp
theorem one_ev (M : Mem S i j cs vs) (hV : ∀ k : Nat, fIx S V (.int k) = atI (vs.map .int) k) {k : Nat} (hk : k < cs.length) {o3 o4 o5 o7 o8 : Option D} :
    bd_law_agrees_1 [some (.ref i), some (.lst (cs.map .str)), some V, o3, o4, o5, some (.int k), o7, o8] S = some (.nx [some (.ref i), some (.lst (cs.map .str)), some V, o3, o4, o5, some (.int k), o7, o8], S) := by
  have hv : k < vs.length := by rw [← M.len]; exact hk
  have e1 := at_str hk
  have e2 : fIx S V (.int k) = some (.int vs[k]) := by
    rw [hV, atI_natD (l := vs.map D.int) (i := (k : Int)) (j := k) rfl (by simpa using hv)]; simp
  have e3 := read_yes M (List.getElem?_eq_getElem hk) (List.getElem?_eq_getElem hv)
  have e4 := in_ev M cs[k]
  have e5 : decide (cs[k] ∈ cs) = true := by simp
  rw [e5] at e4
  simp [bd_law_agrees_1, e1, e2, e3, e4, same_int, same_bl]
theorem no_ev (M : Mem S i j cs vs) {c : Str} (h : c ∉ cs) {g1 g2 o3 o4 o5 o6 o8 : Option D} :
    bd_law_agrees_0 [some (.ref i), g1, g2, o3, o4, o5, o6, some (.str c), o8] S = some (.nx [some (.ref i), g1, g2, o3, o4, o5, o6, some (.str c), o8], S) := by
  have e3 := read_no M h
  have e4 := in_ev M c
  have e5 : decide (c ∈ cs) = false := by simp [h]
  rw [e5] at e4
  simp [bd_law_agrees_0, e3, e4, same_2, same_bl, fTup, sz_ok]
theorem agrees_ev (M : Mem S i j cs vs) (N : Nm cs) (hV : ∀ k : Nat, fIx S V (.int k) = atI (vs.map .int) k) : m_law_agrees [.ref i, .lst (cs.map .str), V] S = some (.ok (.bl true), S) := by
  let g0 : Gm := [some (.ref i), some (.lst (cs.map .str)), some V, none, none, none, none, none, none]
  have en : mLockE (lkO ti_0 (mVar 0)) (mLc [8] (mIO ti_0 (mVar 0)) (bN 8) (mP true) (mVar 8)) g0 S = some (.ok (.lst (cs.map .str)), S) := names_ev M rfl (by show 8 < 9; decide) (by decide)
  obtain ⟨n2, hn2⟩ : ∃ n2 : Nat, n2 = cs.length * cs.length := ⟨_, rfl⟩
  obtain ⟨o4, o5, e4⟩ := pairs_ev M (g1 := some (.lst (cs.map .str))) (g2 := some V) (o4 := none) (o5 := none) (o6 := none) (o7 := none) (o8 := none)
  rw [← hn2] at e4
  have hsm := M.sm
  have big : big62 ((cs.length : Nat) : Int) = true := big_ok (by omega)
  -- the cells one by one
  have l1 : ∃ o6, mFor (mRng (mCons (mOpA cLen (mCons (mVar 1) mNil)) mNil)) (bN 6) bd_law_agrees_1 [some (.ref i), some (.lst (cs.map .str)), some V, some (.int (n2 : Nat)), o4, o5, none, none, none] S =
      some (.nx [some (.ref i), some (.lst (cs.map .str)), some V, some (.int (n2 : Nat)), o4, o5, o6, none, none], S) := by
    obtain ⟨g', S', e, o6, h2, h3, _⟩ := forGo_all (src := (rngD 0 cs.length, none)) (b := bN 6) (body := bd_law_agrees_1)
      (fun ds g T => ∃ o6, g = [some (.ref i), some (.lst (cs.map .str)), some V, some (.int (n2 : Nat)), o4, o5, o6, none, none] ∧ T = S ∧ ∀ d ∈ ds, ∃ k : Nat, d = .int k ∧ k < cs.length)
      (fun d ds g T ⟨o6, h2, h3, h4⟩ => by
        subst h2 h3
        obtain ⟨k, rfl, hk⟩ := h4 d List.mem_cons_self
        exact ⟨trivial, _, _, _, rfl, .inl (one_ev M hV hk), _, rfl, rfl, fun x hx => h4 x (List.mem_cons_of_mem _ hx)⟩) (fun g S _ => trivial) (rngD 0 cs.length) _ S ⟨none, rfl, rfl, fun d hd => by
          simp only [rngD, List.mem_map, List.mem_range] at hd
          obtain ⟨k, hk, rfl⟩ := hd
          exact ⟨k, by simp, hk⟩⟩
    rw [h2, h3] at e
    refine ⟨o6, ?_⟩
    simp [big, e]
  obtain ⟨o6, l1⟩ := l1
  -- names that are no cells
  obtain ⟨c0, hc0⟩ : ∃ c, cs[0]? = some c := ⟨cs[0]'(by have := N.l1; omega), List.getElem?_eq_getElem _⟩
  obtain ⟨x1, x2⟩ := N.e3 c0 hc0
  have ec0 : atI (cs.map D.str) 0 = some (.str c0) := by
    have h := N.l1
    have := at_str (cs := cs) (k := 0) (by omega)
    rw [show (cs[0]'(by omega)) = c0 from by have := (List.getElem?_eq_some_iff.mp hc0).2; exact this] at this
    simpa using this
  have l2 : ∃ o7, mFor (mI (mOpA fLst (mCons (mP (.str "")) (mCons (mP (.str "nosuch")) (mCons (mP (.str "x ")) (mCons (mOp2 fAdd (mOp2 fIx (mVar 1) (mP (.int 0))) (mOp2 fMulS (mP (.str "x")) (mP (.int 6)))) mNil)))))) (bN 7) bd_law_agrees_0 [some (.ref i), some (.lst (cs.map .str)), some V, some (.int (n2 : Nat)), o4, o5, o6, none, none] S =
      some (.nx [some (.ref i), some (.lst (cs.map .str)), some V, some (.int (n2 : Nat)), o4, o5, o6, o7, none], S) := by
    obtain ⟨g', S', e, o7, h2, h3, _⟩ := forGo_all (src := ([.str "", .str "nosuch", .str "x ", .str (c0 ++ ("xxxxxx" : Str))], none)) (b := bN 7) (body := bd_law_agrees_0)
      (fun ds g T => ∃ o7, g = [some (.ref i), some (.lst (cs.map .str)), some V, some (.int (n2 : Nat)), o4, o5, o6, o7, none] ∧ T = S ∧ ∀ d ∈ ds, ∃ c : Str, d = .str c ∧ c ∉ cs)
      (fun d ds g T ⟨o7, h2, h3, h4⟩ => by
        subst h2 h3
        obtain ⟨c, rfl, hc⟩ := h4 d List.mem_cons_self
        exact ⟨trivial, _, _, _, rfl, .inl (no_ev M hc), _, rfl, rfl, fun x hx => h4 x (List.mem_cons_of_mem _ hx)⟩) (fun g S _ => trivial) [.str "", .str "nosuch", .str "x ", .str (c0 ++ ("xxxxxx" : Str))] _ S ⟨none, rfl, rfl, fun d hd => by
          simp only [List.mem_cons, List.not_mem_nil, or_false] at hd
          rcases hd with rfl | rfl | rfl | rfl
          · exact ⟨_, rfl, N.e0⟩
          · exact ⟨_, rfl, N.e1⟩
          · exact ⟨_, rfl, N.e2⟩
          · exact ⟨_, rfl, x1⟩⟩
    rw [h2, h3] at e
    refine ⟨o7, ?_⟩
    have em : fMulS S (.str "x") (.int 6) = some (.str "xxxxxx") := by
      rw [v_mulS, if_pos (show cRep ("x" : Str) 6 = true from cdec_iff.mpr ⟨by decide, by decide, by decide, by decide⟩)]
      exact congrArg (fun z => some (D.str z)) (by decide : repS ("x" : Str) (6 : Int).toNat = "xxxxxx")
    have ea : fAdd S (.str c0) (.str "xxxxxx") = some (.str (c0 ++ ("xxxxxx" : Str))) := by
      have h6 : (("xxxxxx" : Str).length) = 6 := by decide
      rw [v_adds, if_pos (sz_ok (by rw [h6]; omega))]
    simp [-v_adds, -v_mulS, ec0, em, ea, fLst, sz_ok, e]
  obtain ⟨o7, l2⟩ := l2
  have eA : mIfS (mOrT (mNotT (mT (mCall (m_law_same 8) (mCons (mLockE (lkO ti_0 (mVar 0)) (mLc [8] (mIO ti_0 (mVar 0)) (bN 8) (mP true) (mVar 8))) (mCons (mVar 1) (mNil)))))) (mNotT (mT (mCall (m_law_same 8) (mCons (mOpA (cLenG tm_len_1) (mCons (mVar 0) (mNil))) (mCons (mOpA cLen (mCons (mVar 1) (mNil))) (mNil))))))) (mRet (mP (.bl false))) (mSkip) g0 S = some (.nx g0, S) := by
    simp [en, g0, same_strs cs hsm, len_ev M, same_int]
  have eC : mIfS (mT (mOp2 fNe (mVar 3) (mOp2 fMul (mOpA cLen (mCons (mVar 1) (mNil))) (mOpA cLen (mCons (mVar 1) (mNil)))))) (mRet (mP (.bl false))) (mSkip) [some (.ref i), some (.lst (cs.map .str)), some V, some (.int (n2 : Nat)), o4, o5, none, none, none] S = some (.nx [some (.ref i), some (.lst (cs.map .str)), some V, some (.int (n2 : Nat)), o4, o5, none, none, none], S) := by
    have em : fMul S (.int cs.length) (.int cs.length) = some (.int ((cs.length : Int) * cs.length)) := v_mul S _ _ (.inl ⟨by omega, by omega⟩)
    have e2 : (cs.length : Int) * cs.length = (n2 : Int) := by rw [hn2]; simp
    simp [em, e2]
  have eb : b_law_agrees g0 S = some (.rt (.bl true), S) := by
    unfold b_law_agrees
    rw [seq_go eA, seq_go (g1 := [some (.ref i), some (.lst (cs.map .str)), some V, some (.int 0), none, none, none, none, none]) (S1 := S) (by simp [g0]), seq_go e4, seq_go eC, seq_go l1, seq_go l2]
    simp
  unfold m_law_agrees
  rw [v_fn]
  show (match b_law_agrees g0 S with | some (.rt d, S') => some (R.ok d, S') | some (.nx _, S') => some (.ok .non, S') | some (.ex _ c fs, S') => some (.exc c fs, S') | _ => none) = _
  rw [eb]
end
end Lw
namespace Lw
open PySem L2 Mi
theorem cut_to (l : List D) (n : Nat) : cutD l none (some (n : Int)) = l.take n := by
  unfold cutD
  have e : HT.sIx l.length 0 none = 0 := rfl
  have e2 : HT.sIx l.length l.length (some (n : Int)) = min n l.length := HT.sIx_nat _ _ n
  rw [e, e2, List.drop_zero, Nat.sub_zero, List.take_eq_take_iff]
  omega
theorem cut_from (l : List D) (n : Nat) : cutD l (some (n : Int)) none = l.drop n := by
  unfold cutD
  have e : HT.sIx l.length 0 (some (n : Int)) = min n l.length := HT.sIx_nat _ _ n
  have e2 : HT.sIx l.length l.length none = l.length := rfl
  rw [e, e2]
  by_cases h : n ≤ l.length
  · rw [Nat.min_eq_left h, List.take_of_length_le (by simp)]
  · rw [Nat.min_eq_right (by omega), List.drop_eq_nil_of_le (Nat.le_refl _), List.drop_eq_nil_of_le (by omega)]
    simp
theorem nat_of {i m : Int} (h : 0 ≤ i) (h2 : i < m) : ∃ a : Nat, i = (a : Int) ∧ (a : Int) < m := ⟨i.toNat, by omega, by omega⟩
/-! ### the names -/
def menu : List (List Str) := [["x", "y", "z"], ["a", "ab", "abc"], ["zz", "r", "thread"], ["b", "a", "c"], ["load", "cells", "jump"], ["abcdef", "abcdeg", "abcdfe"]]
def lens : List Nat := [2, 2, 3, 2, 1, 2, 3, 2]
def nmB : List Str → Bool
  | [] => false
  | c :: r => !((c :: r).contains "") && !((c :: r).contains "nosuch") && !((c :: r).contains "x ") && !((c :: r).contains (c ++ ("xxxxxx" : Str))) && decide (c.length ≤ 100)
theorem nm_of : ∀ {cs : List Str}, nmB cs = true → Nm cs
  | [], h => by cases h
  | c :: r, h => by
    simp only [nmB, Bool.and_eq_true, Bool.not_eq_true', decide_eq_true_eq] at h
    obtain ⟨⟨⟨⟨h1, h2⟩, h3⟩, h4⟩, h5⟩ := h
    have no : ∀ {x : Str}, (c :: r).contains x = false → x ∉ c :: r := fun {x} h m => by
      have := List.contains_iff_mem.mpr m
      rw [h] at this; cases this
    refine ⟨by simp, no h1, no h2, no h3, fun d hd => ?_⟩
    simp at hd
    subst hd
    exact ⟨no h4, h5⟩
structure Cs (cs : List Str) : Prop where
  nm : Nm cs
  nd : cs.Nodup
  l3 : cs.length ≤ 3
  ok : cs.all PyData.strOk = true
theorem menu_ok : ∀ a ∈ List.range 6, ∀ b ∈ List.range 8, nmB ((menu.getD a []).take (lens.getD b 0)) = true ∧ ((menu.getD a []).take (lens.getD b 0)).Nodup ∧ ((menu.getD a []).take (lens.getD b 0)).length ≤ 3 ∧ ((menu.getD a []).take (lens.getD b 0)).all PyData.strOk = true := by decide +kernel
theorem cells_ev {p : List Int} {S : Store} {k : Int} (hk : 0 ≤ k) : ∃ cs : List Str, Cs cs ∧ m_law_cells [.lst (p.map .int), .int k] S = some (.ok (.lst (cs.map .str)), S) := by
  have d1 := draw_ev (l := p) (k := k) (many := 6) (S := S) hk (by decide)
  have d2 := draw_ev (l := p) (k := k + 1) (many := 8) (S := S) (by omega) (by decide)
  obtain ⟨a, ea, ha⟩ := nat_of (drawF_ge p k (many := 6) (by decide)) (drawF_lt p k (many := 6) (by decide))
  obtain ⟨b, eb, hb⟩ := nat_of (drawF_ge p (k + 1) (many := 8) (by decide)) (drawF_lt p (k + 1) (many := 8) (by decide))
  rw [ea] at d1
  rw [eb] at d2
  have ha' : a < 6 := by omega
  have hb' : b < 8 := by omega
  obtain ⟨m1, m2, m3, m4⟩ := menu_ok a (by simpa using ha') b (by simpa using hb')
  refine ⟨(menu.getD a []).take (lens.getD b 0), ⟨nm_of m1, m2, m3, m4⟩, ?_⟩
  have e1 : atI [.lst [.str "x", .str "y", .str "z"], .lst [.str "a", .str "ab", .str "abc"], .lst [.str "zz", .str "r", .str "thread"], .lst [.str "b", .str "a", .str "c"], .lst [.str "load", .str "cells", .str "jump"], .lst [.str "abcdef", .str "abcdeg", .str "abcdfe"]] (a : Int) = some (D.lst ((menu.getD a []).map D.str)) := by
    have : a = 0 ∨ a = 1 ∨ a = 2 ∨ a = 3 ∨ a = 4 ∨ a = 5 := by omega
    rcases this with rfl | rfl | rfl | rfl | rfl | rfl <;> rfl
  have e2 : atI [.int 2, .int 2, .int 3, .int 2, .int 1, .int 2, .int 3, .int 2] (b : Int) = some (D.int (lens.getD b 0 : Nat)) := by
    have : b = 0 ∨ b = 1 ∨ b = 2 ∨ b = 3 ∨ b = 4 ∨ b = 5 ∨ b = 6 ∨ b = 7 := by omega
    rcases this with rfl | rfl | rfl | rfl | rfl | rfl | rfl | rfl <;> rfl
  have e3 := cut_to ((menu.getD a []).map D.str) (lens.getD b 0)
  have e4 : ∀ (x y : List D), x.length + y.length ≤ 1000 → fAdd S (.lst x) (.lst y) = some (.lst (x ++ y)) := fun x y h => by
    show (if szOk (x.length + y.length) = true then some (D.lst (x ++ y)) else none) = _
    rw [if_pos (sz_ok (by omega))]
  generalize lens.getD b 0 = n at *
  generalize menu.getD a [] = m at *
  simp [m_law_cells, b_law_cells, fLst, sz_ok, e4, d1, d2, e1, e2, e3]
/-! ### a memory is made -/
theorem mkv_add {cs : List Str} {vs : List Int} {c : Str} (h : c ∉ cs) (hl : cs.length = vs.length) (v : Int) : putKD (mkv cs vs) (.inr c) (.int v) = mkv (cs ++ [c]) (vs ++ [v]) := by
  have h1 : ((mkv cs vs).any fun kv => decide (kv.1 = .inr c)) = false := by
    rw [List.any_eq_false]
    intro kv hkv
    simp only [mkv] at hkv
    obtain ⟨k, hk, e⟩ := List.mem_iff_getElem.mp hkv
    simp at e
    intro z
    simp only [decide_eq_true_eq] at z
    rw [← e] at z
    simp at z
    exact h (by rw [← z]; exact List.getElem_mem _)
  unfold putKD
  rw [h1]
  simp only [Bool.false_eq_true, if_false]
  simp [mkv, List.zipWith_append hl]
theorem dc_ev {n : Nat} {src : Src} {g0 : Gm} (hg : 2 < g0.length) : ∀ (ds done : List Str) (S : Store), S[n]? = some (.dK (mkv done (List.replicate done.length 0))) → (done ++ ds).Nodup → (∀ kvs, srcOk (S.set n (.dK kvs)) src) → done.length + ds.length ≤ 1000 →
    dcGo n src (bN 2) (mP true) (mVar 2) (mP (.int 0)) g0 (ds.map .str) S = some (S.set n (.dK (mkv (done ++ ds) (List.replicate (done ++ ds).length 0))))
  | [], done, S, h, _, hok, _ => by
    have e : S.set n (.dK (mkv done (List.replicate done.length 0))) = S := by
      obtain ⟨h1, h2⟩ := List.getElem?_eq_some_iff.mp h
      rw [← h2, List.set_getElem_self]
    have ok := hok (mkv done (List.replicate done.length 0))
    rw [e] at ok
    simp only [List.map_nil, dcGo, if_pos ok, List.append_nil, e]
  | c :: ds, done, S, h, nd, hok, hl => by
    have e : S.set n (.dK (mkv done (List.replicate done.length 0))) = S := by
      obtain ⟨h1, h2⟩ := List.getElem?_eq_some_iff.mp h
      rw [← h2, List.set_getElem_self]
    have hn := (List.getElem?_eq_some_iff.mp h).1
    have ok := hok (mkv done (List.replicate done.length 0))
    rw [e] at ok
    simp only [List.length_cons] at hl
    have hc : c ∉ done := fun m => by
      have := List.nodup_append.mp nd
      exact this.2.2 c m c (by simp) rfl
    have hz : szOk ((mkv done (List.replicate done.length 0)).length + 1) = true := sz_ok (by rw [mkv_len (by simp)]; omega)
    have ep := mkv_add hc (vs := List.replicate done.length 0) (by simp) 0
    have er : List.replicate done.length (0 : Int) ++ [0] = List.replicate (done ++ [c]).length 0 := by rw [List.length_append, List.length_singleton, List.replicate_succ']
    rw [er] at ep
    have rec_ := dc_ev (n := n) (src := src) hg ds (done ++ [c]) (S.set n (.dK (mkv (done ++ [c]) (List.replicate (done ++ [c]).length 0)))) (by rw [List.getElem?_set_self hn]) (by simpa using nd) (fun kvs => by rw [List.set_set]; exact hok kvs) (by simp; omega)
    rw [List.set_set, List.append_assoc, List.singleton_append] at rec_
    have hv : mVar 2 (g0.set 2 (some (D.str c))) S = some (.ok (.str c), S) := by simp [hg]
    simp only [List.map_cons, dcGo, if_pos ok, v_bN, v_P, hv, keyOf, h, hz, if_true, ep]
    exact rec_
/-- Memory(d), d a thing that walks as the names -/
theorem make_ev {S : Store} {cs : List Str} {d : D} {o : Option Nat} {g : Gm} {ma : Mi.M (List D)} (hm : ma g S = some (.ok [d], S)) (nd : cs.Nodup) (hl : cs.length ≤ 100) (hs : mI (mVar 1) [some (.ref S.length), some d, none] (S ++ [.ins 3 []]) = some (.ok (cs.map .str, o), S ++ [.ins 3 []])) (hok : ∀ T, srcOk (S ++ [.ins 3 [], T]) (cs.map .str, o)) :
    mMake cx_Memory m_Memory__init_ ma g S = some (.ok (.ref S.length), S ++ [.ins 3 [("stored", .ref (S.length + 1)), ("locked", .bl false)], .dK (mkv cs (List.replicate cs.length 0))]) := by
  have e1 := dc_ev (n := S.length + 1) (src := (cs.map D.str, o)) (g0 := wipeG [some (.ref S.length), some d, none] [2]) (by simp [wipeG]) cs [] (S ++ [.ins 3 [], .dK []]) (by simp [mkv]) (by simpa using nd) (fun kvs => by
    have := hok (.dK kvs)
    have e : (S ++ [Cell.ins 3 [], .dK []]).set (S.length + 1) (.dK kvs) = S ++ [.ins 3 [], .dK kvs] := by simp
    rw [e]; exact this) (by simp; omega)
  have e2 : mDc [2] (mI (mVar 1)) (bN 2) (mP true) (mVar 2) (mP (.int 0)) [some (.ref S.length), some d, none] (S ++ [.ins 3 []]) = some (.ok (.ref (S.length + 1)), S ++ [.ins 3 [], .dK (mkv cs (List.replicate cs.length 0))]) := by
    unfold mDc mB
    rw [hs]
    have e3 : (S ++ [Cell.ins 3 []]).length = S.length + 1 := by simp
    have e4 : (S ++ [Cell.ins 3 []]) ++ [.dK []] = S ++ [.ins 3 [], .dK []] := by simp
    simp only [e3, e4, e1]
    simp
  have nk : ("stored" : Str) ≠ "locked" := by decide
  have e5 : m_Memory__init_ [.ref S.length, d] (S ++ [.ins 3 []]) = some (.ok .non, S ++ [.ins 3 [("stored", .ref (S.length + 1)), ("locked", .bl false)], .dK (mkv cs (List.replicate cs.length 0))]) := by
    simp only [m_Memory__init_, b_Memory__init_, v_fn, List.length_cons, List.length_nil, if_true, List.map_cons, List.map_nil, List.replicate, List.cons_append, List.nil_append, v_seq, mSetF, e2]
    simp [of_stored_0, of_locked_0, putD, nk]
  unfold mMake mB
  rw [hm]
  simp only [e5]
end Lw
namespace Lw
open PySem L2 Mi
def memC (n : Nat) : Cell := .ins 3 [("stored", .ref n), ("locked", .bl false)]
/-- S with a memory behind it -/
def ST (S : Store) (cs : List Str) (vs : List Int) : Store := S ++ [memC (S.length + 1), .dK (mkv cs vs)]
theorem mem_ST {S : Store} {cs : List Str} {vs : List Int} (hl : cs.length = vs.length) (nd : cs.Nodup) (hs : cs.length ≤ 1000) : Mem (ST S cs vs) S.length (S.length + 1) cs vs :=
  ⟨by simp [ST, memC], by simp [ST], hl, nd, hs⟩
theorem set_ST {S : Store} {cs : List Str} {vs ws : List Int} : (ST S cs vs).set (S.length + 1) (.dK (mkv cs ws)) = ST S cs ws := by simp [ST]
theorem take_ST {S : Store} {cs : List Str} {vs : List Int} : (ST S cs vs).take S.length = S := by simp [ST]
def six : List Str := ["", "A b", "counter1", "x", "y", "9"]
def rot (n t : Nat) : List Str := (six.take n).drop t ++ (six.take n).take t
theorem rot_ok (n t : Nat) : (rot n t).Nodup ∧ (rot n t).length ≤ 6 ∧ ("z" : Str) ∉ rot n t := by
  have h0 : six.Nodup := by decide +kernel
  have h1 : ("z" : Str) ∉ six := by decide +kernel
  refine ⟨?_, ?_, fun h => ?_⟩
  · unfold rot
    have := (six.take n).take_append_drop t
    have nd : (six.take n).Nodup := h0.sublist (List.take_sublist _ _)
    rw [← this] at nd
    exact (List.perm_append_comm.nodup_iff).mp nd
  · unfold rot
    have : six.length = 6 := rfl
    simp only [List.length_append, List.length_drop, List.length_take]
    omega
  · unfold rot at h
    rcases List.mem_append.mp h with h | h
    · exact h1 (List.mem_of_mem_take (List.mem_of_mem_drop h))
    · exact h1 (List.mem_of_mem_take (List.mem_of_mem_take h))
theorem drop_str (l : List Str) (n : Nat) : (l.map D.str).drop n = (l.drop n).map D.str := by simp
theorem wide_ev {p : List Int} {S : Store} (hc : S.all (cellLt S.length) = true) : m_law_wide [.lst (p.map .int)] S = some (.ok (.bl true), S) := by
  have d1 := draw_ev (l := p) (k := 34) (many := 7) (S := S) (by decide) (by decide)
  have d2 := draw_ev (l := p) (k := 35) (many := 6) (S := S) (by decide) (by decide)
  obtain ⟨n, en, hn⟩ := nat_of (drawF_ge p 34 (many := 7) (by decide)) (drawF_lt p 34 (many := 7) (by decide))
  obtain ⟨t, et, ht⟩ := nat_of (drawF_ge p 35 (many := 6) (by decide)) (drawF_lt p 35 (many := 6) (by decide))
  rw [en] at d1
  rw [et] at d2
  obtain ⟨nd, hl, hz⟩ := rot_ok n t
  have e4 : ∀ (x y : List D), x.length + y.length ≤ 1000 → fAdd S (.lst x) (.lst y) = some (.lst (x ++ y)) := fun x y h => by
    show (if szOk (x.length + y.length) = true then some (D.lst (x ++ y)) else none) = _
    rw [if_pos (sz_ok (by omega))]
  have e5 : (((six.take n).map D.str).drop t ++ ((six.take n).map D.str).take t) = (rot n t).map D.str := by simp [rot]
  have hl6 : (six.take n).length ≤ 6 := by have : six.length = 6 := rfl; simp only [List.length_take]; omega
  have e6 := e4 (((six.take n).map D.str).drop t) (((six.take n).map D.str).take t) (by simp only [List.length_drop, List.length_take, List.length_map] at *; omega)
  rw [e5] at e6
  have c1 := cut_to (six.map D.str) n
  have c2 := cut_from ((six.take n).map D.str) t
  have c3 := cut_to ((six.take n).map D.str) t
  rw [← List.map_take] at c1
  generalize hl0 : six.take n = l at *
  generalize rot n t = cs at *
  let vals : List Int := (List.range cs.length).map fun (k : Nat) => drawF p (36 + (k : Int)) 10
  have vlen : vals.length = cs.length := by simp [vals]
  have zlen : cs.length = (List.replicate cs.length (0 : Int)).length := by simp
  -- the steps
  have s1 : mSet 1 (mSl (mOpA fLst (mCons (mP (.str "")) (mCons (mP (.str "A b")) (mCons (mP (.str "counter1")) (mCons (mP (.str "x")) (mCons (mP (.str "y")) (mCons (mP (.str "9")) (mNil)))))))) (mP none) (mPart (mCall (m_law_draw) (mCons (mVar 0) (mCons (mP (.int 34)) (mCons (mP (.int 7)) (mNil))))))) [some (.lst (p.map .int)), none, none, none, none, none, none] S = some (.nx [some (.lst (p.map .int)), some (.lst (l.map .str)), none, none, none, none, none], S) := by
    have c1' : cutD [D.str "", D.str "A b", D.str "counter1", D.str "x", D.str "y", D.str "9"] none (some (n : Int)) = l.map D.str := c1
    simp [fLst, sz_ok, d1, c1']
  have s2 : mSet 2 (mCall (m_law_draw) (mCons (mVar 0) (mCons (mP (.int 35)) (mCons (mP (.int 6)) (mNil))))) [some (.lst (p.map .int)), some (.lst (l.map .str)), none, none, none, none, none] S = some (.nx [some (.lst (p.map .int)), some (.lst (l.map .str)), some (.int t), none, none, none, none], S) := by
    simp [d2]
  have s3 : mSet 1 (mOp2 fAdd (mSl (mVar 1) (mPart (mVar 2)) (mP none)) (mSl (mVar 1) (mP none) (mPart (mVar 2)))) [some (.lst (p.map .int)), some (.lst (l.map .str)), some (.int t), none, none, none, none] S = some (.nx [some (.lst (p.map .int)), some (.lst (cs.map .str)), some (.int t), none, none, none, none], S) := by
    simp [-List.map_take, -List.map_drop, c2, c3, e6]
  have s4 : mSet 3 (mMake cx_Memory (m_Memory__init_) (mCons (mOpA cList (mCons (mVar 1) (mNil))) (mNil))) [some (.lst (p.map .int)), some (.lst (cs.map .str)), some (.int t), none, none, none, none] S =
      some (.nx [some (.lst (p.map .int)), some (.lst (cs.map .str)), some (.int t), some (.ref S.length), none, none, none], ST S cs (List.replicate cs.length 0)) := by
    have := make_ev (S := S) (cs := cs) (d := .lst (cs.map .str)) (o := none) (g := [some (.lst (p.map .int)), some (.lst (cs.map .str)), some (.int t), none, none, none, none]) (ma := mCons (mOpA cList (mCons (mVar 1) (mNil))) (mNil)) (by simp [cList, asL]) nd (by omega) (by simp) (fun T => by simp)
    simp only [v_set, this]
    rfl
  have s5 : mSet 4 (mLc [5] (mRng (mCons (mOpA cLen (mCons (mVar 1) (mNil))) (mNil))) (bN 5) (mP true) (mCall (m_law_draw) (mCons (mVar 0) (mCons (mOp2 fAdd (mP (.int 36)) (mVar 5)) (mCons (mP (.int 10)) (mNil)))))) [some (.lst (p.map .int)), some (.lst (cs.map .str)), some (.int t), some (.ref S.length), none, none, none] (ST S cs (List.replicate cs.length 0)) =
      some (.nx [some (.lst (p.map .int)), some (.lst (cs.map .str)), some (.int t), some (.ref S.length), some (.lst (vals.map .int)), none, none], ST S cs (List.replicate cs.length 0)) := by
    have hb : big62 ((cs.length : Nat) : Int) = true := big_ok (by omega)
    have e : mLc [5] (mRng (mCons (mOpA cLen (mCons (mVar 1) (mNil))) (mNil))) (bN 5) (mP true) (mCall (m_law_draw) (mCons (mVar 0) (mCons (mOp2 fAdd (mP (.int 36)) (mVar 5)) (mCons (mP (.int 10)) (mNil))))) [some (.lst (p.map .int)), some (.lst (cs.map .str)), some (.int t), some (.ref S.length), none, none, none] (ST S cs (List.replicate cs.length 0)) = some (.ok (.lst (vals.map .int)), ST S cs (List.replicate cs.length 0)) := by
      refine v_lc (S1 := ST S cs (List.replicate cs.length 0)) (src := (rngD 0 cs.length, none)) (by simp [hb]) ?_
      rw [lcGo_map (src := (rngD 0 cs.length, none)) (fun d => match d with | .int k => .int (drawF p (36 + k) 10) | d => d) True.intro]
      · simp [rngD, vals]
      · intro d hd
        simp only [rngD, List.mem_map, List.mem_range] at hd
        obtain ⟨k, hk, rfl⟩ := hd
        have := draw_ev (l := p) (k := 36 + (0 + (k : Int))) (many := 10) (S := ST S cs (List.replicate cs.length 0)) (by omega) (by decide)
        refine ⟨_, rfl, ?_⟩
        simp only [Int.zero_add] at this ⊢
        simp [wipeG, this]
      · simp [rngD]; omega
    simp [e]
  have s6 : ∃ o5, mFor (mRng (mCons (mOpA cLen (mCons (mVar 1) (mNil))) (mNil))) (bN 5) (bd_law_wide_0) [some (.lst (p.map .int)), some (.lst (cs.map .str)), some (.int t), some (.ref S.length), some (.lst (vals.map .int)), none, none] (ST S cs (List.replicate cs.length 0)) =
      some (.nx [some (.lst (p.map .int)), some (.lst (cs.map .str)), some (.int t), some (.ref S.length), some (.lst (vals.map .int)), o5, none], ST S cs vals) := by
    have hb : big62 ((cs.length : Nat) : Int) = true := big_ok (by omega)
    obtain ⟨g', S', e, k, o5, vs, h1, h2, h3, h4, h5⟩ := forGo_all (src := (rngD 0 cs.length, none)) (b := bN 5) (body := bd_law_wide_0)
      (fun ds g T => ∃ (k : Nat) (o5 : Option D) (vs : List Int), ds = (List.range' k (cs.length - k)).map (fun i => D.int (i : Nat)) ∧ k ≤ cs.length ∧ g = [some (.lst (p.map .int)), some (.lst (cs.map .str)), some (.int t), some (.ref S.length), some (.lst (vals.map .int)), o5, none] ∧ T = ST S cs vs ∧ vs.length = cs.length ∧ ∀ m, m < k → vs[m]? = vals[m]?)
      (fun d ds g T ⟨k, o5, vs, h1, h2, h3, h4, h5, h6⟩ => by
        subst h3 h4
        have hk : k < cs.length := by
          by_cases q : k < cs.length
          · exact q
          · rw [show cs.length - k = 0 by omega] at h1
            simp at h1
        rw [show cs.length - k = (cs.length - (k + 1)) + 1 by omega, List.range'_succ, List.map_cons] at h1
        injection h1 with h1 h1'
        subst h1
        have M := mem_ST (S := S) (cs := cs) (vs := vs) h5.symm nd (by omega)
        have hv : k < vals.length := by rw [vlen]; exact hk
        have e1 := at_str hk
        have e2 : atI (vals.map D.int) (k : Int) = some (.int vals[k]) := by
          rw [atI_natD (l := vals.map D.int) (i := (k : Int)) (j := k) rfl (by simpa using hv)]; simp
        have hr : 0 ≤ vals[k] ∧ vals[k] ≤ 9 := by
          have h1 := drawF_ge p (36 + (k : Int)) (many := 10) (by decide)
          have h2 := drawF_lt p (36 + (k : Int)) (many := 10) (by decide)
          simp only [vals, List.getElem_map, List.getElem_range]
          omega
        have e3 := setitem_ev M (List.getElem?_eq_getElem hk) hr
        rw [set_ST] at e3
        have hi := M.hi
        refine ⟨trivial, _, _, ST S cs (vs.set k vals[k]), rfl, .inl ?_, k + 1, some (.int k), vs.set k vals[k], h1', by omega, rfl, rfl, by simpa using h5, fun m hm => ?_⟩
        · simp [bd_law_wide_0, mSetG, mSetIx, e1, e2, hi, tm_setitem_1, e3]
        · by_cases q : m = k
          · subst q
            rw [List.getElem?_set_self (by rw [h5]; exact hk), List.getElem?_eq_getElem hv]
          · rw [List.getElem?_set_ne (by omega)]
            exact h6 m (by omega)) (fun g S _ => trivial) (rngD 0 cs.length) _ (ST S cs (List.replicate cs.length 0)) ⟨0, none, _, by
              simp [rngD, List.range_eq_range'], by omega, rfl, rfl, by simp, fun m hm => by omega⟩
    have hk : k = cs.length := by
      have := congrArg List.length h1
      simp at this
      omega
    obtain ⟨h5, h6⟩ := h5
    have hvs : vs = vals := by
      apply List.ext_getElem?
      intro m
      by_cases q : m < cs.length
      · exact h6 m (by omega)
      · rw [List.getElem?_eq_none (by omega), List.getElem?_eq_none (by omega)]
    rw [h3, h4, hvs] at e
    refine ⟨o5, ?_⟩
    simp [hb, e]
  obtain ⟨o5, s6⟩ := s6
  have M := mem_ST (S := S) (cs := cs) (vs := vals) vlen.symm nd (by omega)
  have en := names_ev M (g := [some (.lst (p.map .int)), some (.lst (cs.map .str)), some (.int t), some (.ref S.length), some (.lst (vals.map .int)), o5, none]) (a := 3) (n := 6) rfl (by show 6 < 7; decide) (by decide)
  have s7 : mIfS (mOrT (mNotT (mT (mCall (m_law_same 8) (mCons (mLockE (lkO ti_0 (mVar 3)) (mLc [6] (mIO ti_0 (mVar 3)) (bN 6) (mP true) (mVar 6))) (mCons (mVar 1) (mNil)))))) (mNotT (mT (mCall (m_law_same 8) (mCons (mOpA (cLenG tm_len_1) (mCons (mVar 3) (mNil))) (mCons (mOpA cLen (mCons (mVar 1) (mNil))) (mNil))))))) (mRet (mP (.bl false))) (mSkip) [some (.lst (p.map .int)), some (.lst (cs.map .str)), some (.int t), some (.ref S.length), some (.lst (vals.map .int)), o5, none] (ST S cs vals) =
      some (.nx [some (.lst (p.map .int)), some (.lst (cs.map .str)), some (.int t), some (.ref S.length), some (.lst (vals.map .int)), o5, none], ST S cs vals) := by
    simp [en, same_strs cs (by omega), len_ev M, same_int]
  have ez := read_no M hz
  have iz := in_ev M "z"
  rw [show decide (("z" : Str) ∈ cs) = false by simp [hz]] at iz
  have s8 : mIfS (mOrT (mNotT (mT (mCall (m_law_same 8) (mCons (mCall (m_law_read) (mCons (mVar 3) (mCons (mP (.str "z")) (mNil)))) (mCons (mOpA fTup (mCons (mP (.str "cell")) (mCons (mP (.str "z")) (mNil)))) (mNil)))))) (mNotT (mT (mCall (m_law_same 8) (mCons (mOp2 (fInG tm_contains_1) (mP (.str "z")) (mVar 3)) (mCons (mP (.bl false)) (mNil))))))) (mRet (mP (.bl false))) (mSkip) [some (.lst (p.map .int)), some (.lst (cs.map .str)), some (.int t), some (.ref S.length), some (.lst (vals.map .int)), o5, none] (ST S cs vals) =
      some (.nx [some (.lst (p.map .int)), some (.lst (cs.map .str)), some (.int t), some (.ref S.length), some (.lst (vals.map .int)), o5, none], ST S cs vals) := by
    simp [ez, iz, same_2, same_bl, fTup, sz_ok]
  have e9 : mLc [6] (mI (mVar 1)) (bN 6) (mP true) (mCall (m_law_read) (mCons (mVar 3) (mCons (mVar 6) (mNil)))) [some (.lst (p.map .int)), some (.lst (cs.map .str)), some (.int t), some (.ref S.length), some (.lst (vals.map .int)), o5, none] (ST S cs vals) = some (.ok (.lst (vals.map .int)), ST S cs vals) := by
    refine v_lc (S1 := ST S cs vals) (src := (cs.map D.str, none)) (by simp) ?_
    rw [lcGo_map (src := (cs.map D.str, none)) (fun d => match d with | .str c => (valD (mkv cs vals) (.inr c)).getD .non | d => d) True.intro]
    · refine congrArg (fun l => some (l, ST S cs vals)) ?_
      rw [List.nil_append]
      apply List.ext_getElem?
      intro k
      by_cases hk : k < cs.length
      · have hv : k < vals.length := by rw [vlen]; exact hk
        have := mkv_some (v := vals[k]) nd (List.getElem?_eq_getElem hk) (List.getElem?_eq_getElem hv)
        simp [hk, hv, this]
      · rw [List.getElem?_eq_none (by simp; omega), List.getElem?_eq_none (by simp; omega)]
    · intro d hd
      obtain ⟨c, hcm, rfl⟩ := List.mem_map.mp hd
      obtain ⟨k, hk, ek⟩ := List.mem_iff_getElem.mp hcm
      have hv : k < vals.length := by rw [vlen]; exact hk
      have h1 : cs[k]? = some c := List.getElem?_eq_some_iff.mpr ⟨hk, ek⟩
      have := read_yes M h1 (List.getElem?_eq_getElem hv)
      have h2 := mkv_some (v := vals[k]) nd h1 (List.getElem?_eq_getElem hv)
      refine ⟨_, rfl, ?_⟩
      simp [wipeG, this, h2]
    · simp; omega
  have eb : b_law_wide [some (.lst (p.map .int)), none, none, none, none, none, none] S = some (.rt (.bl true), ST S cs vals) := by
    unfold b_law_wide
    rw [seq_go s1, seq_go s2, seq_go s3, seq_go s4, seq_go s5, seq_go s6, seq_go s7, seq_go s8]
    simp [e9, same_ints vals (by omega)]
  unfold m_law_wide mTrim
  have ef : mFn 7 1 b_law_wide [.lst (p.map .int)] S = some (.ok (.bl true), ST S cs vals) := by
    rw [v_fn]
    show (match b_law_wide [some (.lst (p.map .int)), none, none, none, none, none, none] S with | some (.rt d, S') => some (R.ok d, S') | some (.nx _, S') => some (.ok .non, S') | some (.ex _ c fs, S') => some (.exc c fs, S') | _ => none) = _
    rw [eb]
  rw [ef]
  simp only [take_ST, hc, refsLt, and_self, if_true]
end Lw
namespace Lw
open PySem L2 Mi
theorem ne_same {S : Store} {cs : List Str} (h0 : S[0]? = some (.lst (cs.map .str))) (C : Cs cs) : fNe S (.ref 0) (.lst (cs.map .str)) = some (.bl false) := by
  have h1 := C.nm.l1
  have h3 := C.l3
  have ok := C.ok
  match cs, h1, h3 with
  | [a], _, _ =>
    simp at ok h0
    simp [fNe, eqB, flV, toPS, atC, h0, toP, toPs, SeqAt.shaped, PyData.eqv, PyData.canLay0, PyData.canLayAll0, PyData.depth, PyData.depthAll, ok, PyData.eqvAll]
  | [a, b], _, _ =>
    simp at ok h0
    simp [fNe, eqB, flV, toPS, atC, h0, toP, toPs, SeqAt.shaped, PyData.eqv, PyData.canLay0, PyData.canLayAll0, PyData.depth, PyData.depthAll, ok, PyData.eqvAll]
  | [a, b, c], _, _ =>
    simp at ok h0
    simp [fNe, eqB, flV, toPS, atC, h0, toP, toPs, SeqAt.shaped, PyData.eqv, PyData.canLay0, PyData.canLayAll0, PyData.depth, PyData.depthAll, ok, PyData.eqvAll]
def zs (cs : List Str) : List Int := List.replicate cs.length 0
def Z (cs : List Str) (vs ws : List Int) : Store := [.lst (cs.map .str ++ [.str "nosuch"]), memC 2, .dK (mkv cs vs), memC 4, .dK (mkv cs (zs cs)), .lst (ws.map .int)]
section
variable {cs : List Str} {vs ws : List Int}
theorem mem1 (C : Cs cs) (hl : cs.length = vs.length) : Mem (Z cs vs ws) 1 2 cs vs := ⟨rfl, rfl, hl, C.nd, by have := C.l3; omega⟩
theorem mem2 (C : Cs cs) : Mem (Z cs vs ws) 3 4 cs (zs cs) := ⟨rfl, rfl, by simp [zs], C.nd, by have := C.l3; omega⟩
theorem ixZ (k : Nat) : fIx (Z cs vs ws) (.ref 5) (.int k) = atI (ws.map .int) k := rfl
theorem refs_strs (n : Nat) : ∀ l : List Str, refsLts n (l.map D.str) = true
  | [] => rfl
  | x :: l => by simp [refsLts, refsLt, refs_strs n l]
theorem refs_mkv (n : Nat) : ∀ (cs : List Str) (vs : List Int), refsLts n ((mkv cs vs).map (·.2)) = true
  | [], vs => by cases vs <;> rfl
  | _ :: _, [] => rfl
  | c :: cs, v :: vs => by
    have := refs_mkv n cs vs
    simp [mkv] at this
    simp [mkv, refsLts, refsLt, this]
theorem refs_app (n : Nat) : ∀ l r : List D, refsLts n l = true → refsLts n r = true → refsLts n (l ++ r) = true
  | [], r, _, h => h
  | x :: l, r, h, h2 => by
    simp only [refsLts, Bool.and_eq_true, List.cons_append] at h ⊢
    exact ⟨h.1, refs_app n l r h.2 h2⟩
theorem allZ : (Z cs vs ws).all (cellLt (Z cs vs ws).length) = true := by
  have h1 := refs_app 6 (cs.map D.str) [.str "nosuch"] (refs_strs 6 cs) (by simp [refsLts, refsLt])
  simp [Z, memC, cellLt, h1, refs_mkv, refsLts, refsLt, refsLts_ints]
theorem ixN_nat {n w : Nat} (h : w < n) : ixN n (w : Int) = some w := by
  unfold ixN
  simp [h]
theorem turn_ev (C : Cs cs) (hl : cs.length = vs.length) {p : List Int} {k : Nat} {o0 o8 o9 o10 o11 o12 : Option D} : ∃ (vs' : List Int) (o8' o9' o10' o11' : Option D), cs.length = vs'.length ∧
    bd_law_0 [o0, some (.lst (p.map .int)), some (.lst (cs.map .str)), some (.ref 0), some (.ref 1), some (.ref 3), some (.ref 5), some (.int k), o8, o9, o10, o11, o12] (Z cs vs vs) =
      some (.nx [o0, some (.lst (p.map .int)), some (.lst (cs.map .str)), some (.ref 0), some (.ref 1), some (.ref 3), some (.ref 5), some (.int k), o8', o9', o10', o11', o12], Z cs vs' vs') := by
  have h3 := C.l3
  have d1 := draw_ev (l := p) (k := 3 + 2 * (k : Int)) (many := 16) (S := Z cs vs vs) (by omega) (by decide)
  have d2 := draw_ev (l := p) (k := 24 + (k : Int)) (many := 5) (S := Z cs vs vs) (by omega) (by decide)
  have d3 := draw_ev (l := p) (k := 4 + 2 * (k : Int)) (many := (cs.length : Int) + 1) (S := Z cs vs vs) (by omega) (by omega)
  have a1 := drawF_ge p (3 + 2 * (k : Int)) (many := 16) (by decide)
  have a2 := drawF_lt p (3 + 2 * (k : Int)) (many := 16) (by decide)
  obtain ⟨b, eb, hb⟩ := nat_of (drawF_ge p (24 + (k : Int)) (many := 5) (by decide)) (drawF_lt p (24 + (k : Int)) (many := 5) (by decide))
  obtain ⟨w, ew, hw⟩ := nat_of (drawF_ge p (4 + 2 * (k : Int)) (many := (cs.length : Int) + 1) (by omega)) (drawF_lt p (4 + 2 * (k : Int)) (many := (cs.length : Int) + 1) (by omega))
  rw [eb] at d2
  rw [ew] at d3
  generalize drawF p (3 + 2 * (k : Int)) 16 = a at d1 a1 a2
  obtain ⟨f, ef⟩ : ∃ f : Int, atI [.int 1, .int 1, .int 1, .int 7, .int 1000000000000] (b : Int) = some (D.int f) := by
    have : b = 0 ∨ b = 1 ∨ b = 2 ∨ b = 3 ∨ b = 4 := by omega
    rcases this with rfl | rfl | rfl | rfl | rfl <;> exact ⟨_, rfl⟩
  obtain ⟨v, ev⟩ : ∃ v : Int, v = (a - 3) * f := ⟨_, rfl⟩
  have em : fMul (Z cs vs vs) (.int (a - 3)) (.int f) = some (.int v) := by rw [ev]; exact v_mul _ _ _ (.inl ⟨by omega, by omega⟩)
  have e4 : fAdd (Z cs vs vs) (.lst (cs.map .str)) (.lst [.str "nosuch"]) = some (.lst (cs.map .str ++ [.str "nosuch"])) := by
    show (if szOk ((cs.map D.str).length + [D.str "nosuch"].length) = true then some (D.lst (cs.map .str ++ [.str "nosuch"])) else none) = _
    rw [if_pos (sz_ok (by simp; omega))]
  have s1 : mSet 8 (mOp2 fSub (mCall (m_law_draw) (mCons (mVar 1) (mCons (mOp2 fAdd (mP (.int 3)) (mOp2 fMul (mP (.int 2)) (mVar 7))) (mCons (mP (.int 16)) (mNil))))) (mP (.int 3))) [o0, some (.lst (p.map .int)), some (.lst (cs.map .str)), some (.ref 0), some (.ref 1), some (.ref 3), some (.ref 5), some (.int k), o8, o9, o10, o11, o12] (Z cs vs vs) =
      some (.nx [o0, some (.lst (p.map .int)), some (.lst (cs.map .str)), some (.ref 0), some (.ref 1), some (.ref 3), some (.ref 5), some (.int k), some (.int (a - 3)), o9, o10, o11, o12], Z cs vs vs) := by
    have e2 : fMul (Z cs vs vs) (.int 2) (.int k) = some (.int (2 * k)) := v_mul _ _ _ (.inl ⟨by omega, by omega⟩)
    simp [e2, d1]
  have s2 : mSet 8 (mOp2 fMul (mVar 8) (mOp2 fIx (mOpA fLst (mCons (mP (.int 1)) (mCons (mP (.int 1)) (mCons (mP (.int 1)) (mCons (mP (.int 7)) (mCons (mOp2 fPow (mP (.int 10)) (mP (.int 12))) (mNil))))))) (mCall (m_law_draw) (mCons (mVar 1) (mCons (mOp2 fAdd (mP (.int 24)) (mVar 7)) (mCons (mP (.int 5)) (mNil))))))) [o0, some (.lst (p.map .int)), some (.lst (cs.map .str)), some (.ref 0), some (.ref 1), some (.ref 3), some (.ref 5), some (.int k), some (.int (a - 3)), o9, o10, o11, o12] (Z cs vs vs) =
      some (.nx [o0, some (.lst (p.map .int)), some (.lst (cs.map .str)), some (.ref 0), some (.ref 1), some (.ref 3), some (.ref 5), some (.int k), some (.int v), o9, o10, o11, o12], Z cs vs vs) := by
    simp [v_pow, fLst, sz_ok, d2, ef, em]
  have s3 : mSet 9 (mOp2 fAdd (mVar 2) (mOpA fLst (mCons (mP (.str "nosuch")) (mNil)))) [o0, some (.lst (p.map .int)), some (.lst (cs.map .str)), some (.ref 0), some (.ref 1), some (.ref 3), some (.ref 5), some (.int k), some (.int v), o9, o10, o11, o12] (Z cs vs vs) =
      some (.nx [o0, some (.lst (p.map .int)), some (.lst (cs.map .str)), some (.ref 0), some (.ref 1), some (.ref 3), some (.ref 5), some (.int k), some (.int v), some (.lst (cs.map .str ++ [.str "nosuch"])), o10, o11, o12], Z cs vs vs) := by
    simp [fLst, sz_ok, e4]
  have s4 : mSet 10 (mCall (m_law_draw) (mCons (mVar 1) (mCons (mOp2 fAdd (mP (.int 4)) (mOp2 fMul (mP (.int 2)) (mVar 7))) (mCons (mOpA cLen (mCons (mVar 9) (mNil))) (mNil))))) [o0, some (.lst (p.map .int)), some (.lst (cs.map .str)), some (.ref 0), some (.ref 1), some (.ref 3), some (.ref 5), some (.int k), some (.int v), some (.lst (cs.map .str ++ [.str "nosuch"])), o10, o11, o12] (Z cs vs vs) =
      some (.nx [o0, some (.lst (p.map .int)), some (.lst (cs.map .str)), some (.ref 0), some (.ref 1), some (.ref 3), some (.ref 5), some (.int k), some (.int v), some (.lst (cs.map .str ++ [.str "nosuch"])), some (.int w), o11, o12], Z cs vs vs) := by
    have e2 : fMul (Z cs vs vs) (.int 2) (.int k) = some (.int (2 * k)) := v_mul _ _ _ (.inl ⟨by omega, by omega⟩)
    simp [e2, d3]
  have s5 : mSet 11 (mOpA fTup (mCons (mP (.str "done")) (mNil))) [o0, some (.lst (p.map .int)), some (.lst (cs.map .str)), some (.ref 0), some (.ref 1), some (.ref 3), some (.ref 5), some (.int k), some (.int v), some (.lst (cs.map .str ++ [.str "nosuch"])), some (.int w), o11, o12] (Z cs vs vs) =
      some (.nx [o0, some (.lst (p.map .int)), some (.lst (cs.map .str)), some (.ref 0), some (.ref 1), some (.ref 3), some (.ref 5), some (.int k), some (.int v), some (.lst (cs.map .str ++ [.str "nosuch"])), some (.int w), some (.tup [.str "done"]), o12], Z cs vs vs) := by
    simp [fTup, sz_ok]
  have M := mem1 (ws := vs) C hl
  have ag : ∀ vs', cs.length = List.length vs' → m_law_agrees [.ref 1, .lst (cs.map .str), .ref 5] (Z cs vs' vs') = some (.ok (.bl true), Z cs vs' vs') := fun vs' h => agrees_ev (mem1 C h) C.nm ixZ
  by_cases hwl : w = cs.length
  · have x1 : atI (cs.map D.str ++ [.str "nosuch"]) (w : Int) = some (.str "nosuch") := by
      rw [atI_natD (l := cs.map D.str ++ [D.str ("nosuch" : Str)]) (i := (w : Int)) (j := w) rfl (by simp; omega)]
      simp [hwl]
    have x2 := stored_no M C.nm.e1 v
    refine ⟨vs, some (.int v), some (.lst (cs.map .str ++ [.str "nosuch"])), some (.int w), some (.tup [.str "cell", .str "nosuch"]), hl, ?_⟩
    unfold bd_law_0
    rw [seq_go s1, seq_go s2, seq_go s3, seq_go s4, seq_go s5]
    simp [hwl, fTup, sz_ok]
    rw [← hwl]
    simp [x1, x2, same_2, ag vs hl]
  · have hlt : w < cs.length := by omega
    have hne : ¬ ((w : Int) = (cs.length : Int)) := by omega
    have x1 : atI (cs.map D.str ++ [.str "nosuch"]) (w : Int) = some (.str cs[w]) := by
      rw [atI_natD (l := cs.map D.str ++ [D.str ("nosuch" : Str)]) (i := (w : Int)) (j := w) rfl (by simp; omega)]
      rw [List.getElem_append_left (by simpa using hlt)]
      simp
    by_cases hr : 0 ≤ v ∧ v ≤ 9
    · have hv : cs.length = (vs.set w v).length := by simpa using hl
      have M2 := mem1 (ws := vs.set w v) C hl
      have x2 := stored_ev M2 (List.getElem?_eq_getElem hlt) hr
      have x3 : (Z cs vs (vs.set w v)).set 2 (.dK (mkv cs (vs.set w v))) = Z cs (vs.set w v) (vs.set w v) := rfl
      rw [x3] at x2
      have x4 : mSetG tm_setitem_0 (mVar 6) (mVar 10) (mVar 8) [o0, some (.lst (p.map .int)), some (.lst (cs.map .str)), some (.ref 0), some (.ref 1), some (.ref 3), some (.ref 5), some (.int k), some (.int v), some (.lst (cs.map .str ++ [.str "nosuch"])), some (.int w), some (.tup [.str "done"]), o12] (Z cs vs vs) =
          some (.nx [o0, some (.lst (p.map .int)), some (.lst (cs.map .str)), some (.ref 0), some (.ref 1), some (.ref 3), some (.ref 5), some (.int k), some (.int v), some (.lst (cs.map .str ++ [.str "nosuch"])), some (.int w), some (.tup [.str "done"]), o12], Z cs vs (vs.set w v)) := by
        have x5 : (Z cs vs vs)[5]? = some (.lst (vs.map .int)) := rfl
        have x6 : ixN (vs.map D.int).length (w : Int) = some w := ixN_nat (by simp; omega)
        have x7 : (vs.map D.int).set w (.int v) = (vs.set w v).map .int := by rw [List.map_set]
        have x8 : (Z cs vs vs).set 5 (.lst ((vs.set w v).map .int)) = Z cs vs (vs.set w v) := rfl
        unfold mSetG
        simp only [v_var, List.getElem?_cons_succ, List.getElem?_cons_zero, x5, x6, Option.map_some, x7, x8]
      refine ⟨vs.set w v, some (.int v), some (.lst (cs.map .str ++ [.str "nosuch"])), some (.int w), some (.tup [.str "done"]), hv, ?_⟩
      have h0 : ¬ v < 0 := by omega
      have h9 : ¬ 9 < v := by omega
      unfold bd_law_0
      rw [seq_go s1, seq_go s2, seq_go s3, seq_go s4, seq_go s5]
      simp [hne, h0, h9, x4, x1, x2, same_1, ag _ hv]
    · have x2 := stored_big M (List.getElem?_eq_getElem hlt) hr
      refine ⟨vs, some (.int v), some (.lst (cs.map .str ++ [.str "nosuch"])), some (.int w), some (.tup [.str "value", .int v]), hl, ?_⟩
      unfold bd_law_0
      rw [seq_go s1, seq_go s2, seq_go s3, seq_go s4, seq_go s5]
      by_cases h0 : v < 0
      · simp [hne, h0, fTup, sz_ok, x1, x2, same_2i, ag vs hl]
      · have h9 : 9 < v := by omega
        simp [hne, h0, h9, fTup, sz_ok, x1, x2, same_2i, ag vs hl]
end
end Lw
namespace Lw
open PySem L2 Mi
theorem law_true (ns : List Int) (hn : ns.length ≤ 63) : ∃ S', m_law [.scr ns] [] = some (.ok (.bl true), S') := by
  obtain ⟨p, ep⟩ := pool_ev ns hn
  obtain ⟨cs, C, ec⟩ := cells_ev (p := p) (S := []) (k := 0) (by decide)
  have h3 := C.l3
  have s1 : mSet 1 (mCall (m_law_pool) (mCons (mVar 0) (mNil))) [some (.scr ns), none, none, none, none, none, none, none, none, none, none, none, none] [] = some (.nx [some (.scr ns), some (.lst (p.map .int)), none, none, none, none, none, none, none, none, none, none, none], []) := by
    simp [ep]
  have s2 : mSet 2 (mCall (m_law_cells) (mCons (mVar 1) (mCons (mP (.int 0)) (mNil)))) [some (.scr ns), some (.lst (p.map .int)), none, none, none, none, none, none, none, none, none, none, none] [] = some (.nx [some (.scr ns), some (.lst (p.map .int)), some (.lst (cs.map .str)), none, none, none, none, none, none, none, none, none, none], []) := by
    simp [ec]
  have s3 : mSet 3 (mListC (mCons (mVar 2) (mNil))) [some (.scr ns), some (.lst (p.map .int)), some (.lst (cs.map .str)), none, none, none, none, none, none, none, none, none, none] [] = some (.nx [some (.scr ns), some (.lst (p.map .int)), some (.lst (cs.map .str)), some (.ref 0), none, none, none, none, none, none, none, none, none], [.lst (cs.map .str)]) := by
    simp [mListC, asL]
  have s4 : mSet 4 (mMake cx_Memory (m_Memory__init_) (mCons (mVar 3) (mNil))) [some (.scr ns), some (.lst (p.map .int)), some (.lst (cs.map .str)), some (.ref 0), none, none, none, none, none, none, none, none, none] [.lst (cs.map .str)] = some (.nx [some (.scr ns), some (.lst (p.map .int)), some (.lst (cs.map .str)), some (.ref 0), some (.ref 1), none, none, none, none, none, none, none, none], [.lst (cs.map .str), memC 2, .dK (mkv cs (zs cs))]) := by
    have := make_ev (S := [.lst (cs.map .str)]) (cs := cs) (d := .ref 0) (o := some 0) (g := [some (.scr ns), some (.lst (p.map .int)), some (.lst (cs.map .str)), some (.ref 0), none, none, none, none, none, none, none, none, none]) (ma := mCons (mVar 3) (mNil)) (by simp) C.nd (by omega) (by simp) (fun T => rfl)
    simp only [v_set, this]
    rfl
  have s5 : mIfS (mT (mOp2 fNe (mVar 3) (mVar 2))) (mRet (mP (.bl false))) (mSkip) [some (.scr ns), some (.lst (p.map .int)), some (.lst (cs.map .str)), some (.ref 0), some (.ref 1), none, none, none, none, none, none, none, none] [.lst (cs.map .str), memC 2, .dK (mkv cs (zs cs))] = some (.nx [some (.scr ns), some (.lst (p.map .int)), some (.lst (cs.map .str)), some (.ref 0), some (.ref 1), none, none, none, none, none, none, none, none], [.lst (cs.map .str), memC 2, .dK (mkv cs (zs cs))]) := by
    have := ne_same (S := [.lst (cs.map .str), memC 2, .dK (mkv cs (zs cs))]) rfl C
    simp [this]
  have s6 : mSet 5 (mMake cx_Memory (m_Memory__init_) (mCons (mOpA cTuple (mCons (mVar 2) (mNil))) (mNil))) [some (.scr ns), some (.lst (p.map .int)), some (.lst (cs.map .str)), some (.ref 0), some (.ref 1), none, none, none, none, none, none, none, none] [.lst (cs.map .str), memC 2, .dK (mkv cs (zs cs))] = some (.nx [some (.scr ns), some (.lst (p.map .int)), some (.lst (cs.map .str)), some (.ref 0), some (.ref 1), some (.ref 3), none, none, none, none, none, none, none], [.lst (cs.map .str), memC 2, .dK (mkv cs (zs cs)), memC 4, .dK (mkv cs (zs cs))]) := by
    have := make_ev (S := [.lst (cs.map .str), memC 2, .dK (mkv cs (zs cs))]) (cs := cs) (d := .tup (cs.map .str)) (o := none) (g := [some (.scr ns), some (.lst (p.map .int)), some (.lst (cs.map .str)), some (.ref 0), some (.ref 1), none, none, none, none, none, none, none, none]) (ma := mCons (mOpA cTuple (mCons (mVar 2) (mNil))) (mNil)) (by simp [cTuple, asLL]) C.nd (by omega) (by simp) (fun T => by simp)
    simp only [v_set, this]
    rfl
  have s7 : mEx (mApp (mVar 3) (mP (.str "nosuch"))) [some (.scr ns), some (.lst (p.map .int)), some (.lst (cs.map .str)), some (.ref 0), some (.ref 1), some (.ref 3), none, none, none, none, none, none, none] [.lst (cs.map .str), memC 2, .dK (mkv cs (zs cs)), memC 4, .dK (mkv cs (zs cs))] = some (.nx [some (.scr ns), some (.lst (p.map .int)), some (.lst (cs.map .str)), some (.ref 0), some (.ref 1), some (.ref 3), none, none, none, none, none, none, none], [.lst (cs.map .str ++ [.str "nosuch"]), memC 2, .dK (mkv cs (zs cs)), memC 4, .dK (mkv cs (zs cs))]) := by
    have hz : szOk (cs.length + 1) = true := sz_ok (by omega)
    simp [atC, hz]
  have lz : ∀ (g : Gm) (S : Store), lcGo (cs.map D.str, none) (bN 12) (mP true) (mP (.int 0)) g (cs.map D.str) [] S = some ((zs cs).map .int, S) := fun g S => by
    rw [lcGo_map (src := (cs.map D.str, none)) (fun _ => D.int 0) True.intro]
    · refine congrArg (fun l => some (l, S)) ?_
      simp only [zs, List.map_map, List.map_replicate, List.nil_append]
      rw [List.eq_replicate_iff]
      simp
    · intro d _; exact ⟨_, rfl, rfl⟩
    · simp; omega
  have s8 : mSet 6 (mLcC [12] (mI (mVar 2)) (bN 12) (mP true) (mP (.int 0))) [some (.scr ns), some (.lst (p.map .int)), some (.lst (cs.map .str)), some (.ref 0), some (.ref 1), some (.ref 3), none, none, none, none, none, none, none] [.lst (cs.map .str ++ [.str "nosuch"]), memC 2, .dK (mkv cs (zs cs)), memC 4, .dK (mkv cs (zs cs))] = some (.nx [some (.scr ns), some (.lst (p.map .int)), some (.lst (cs.map .str)), some (.ref 0), some (.ref 1), some (.ref 3), some (.ref 5), none, none, none, none, none, none], Z cs (zs cs) (zs cs)) := by
    simp only [v_set, mLcC, v_Beq, v_I, v_var, List.getElem?_cons_succ, List.getElem?_cons_zero, v_L, Option.map_some, lz]
    rfl
  have s9 : ∃ (vs : List Int) (o7 o8 o9 o10 o11 : Option D), cs.length = vs.length ∧ mFor (mRng (mCons (mCall (m_law_draw) (mCons (mVar 1) (mCons (mP (.int 2)) (mCons (mP (.int 11)) (mNil))))) (mNil))) (bN 7) (bd_law_0) [some (.scr ns), some (.lst (p.map .int)), some (.lst (cs.map .str)), some (.ref 0), some (.ref 1), some (.ref 3), some (.ref 5), none, none, none, none, none, none] (Z cs (zs cs) (zs cs)) =
      some (.nx [some (.scr ns), some (.lst (p.map .int)), some (.lst (cs.map .str)), some (.ref 0), some (.ref 1), some (.ref 3), some (.ref 5), o7, o8, o9, o10, o11, none], Z cs vs vs) := by
    have d1 := draw_ev (l := p) (k := 2) (many := 11) (S := Z cs (zs cs) (zs cs)) (by decide) (by decide)
    obtain ⟨n, en, hn⟩ := nat_of (drawF_ge p 2 (many := 11) (by decide)) (drawF_lt p 2 (many := 11) (by decide))
    rw [en] at d1
    have hb : big62 ((n : Nat) : Int) = true := big_ok (by omega)
    obtain ⟨g', S', e, vs, o7, o8, o9, o10, o11, h1, h2, h3, _⟩ := forGo_all (src := (rngD 0 n, none)) (b := bN 7) (body := bd_law_0)
      (fun ds g T => ∃ (vs : List Int) (o7 o8 o9 o10 o11 : Option D), cs.length = vs.length ∧ g = [some (.scr ns), some (.lst (p.map .int)), some (.lst (cs.map .str)), some (.ref 0), some (.ref 1), some (.ref 3), some (.ref 5), o7, o8, o9, o10, o11, none] ∧ T = Z cs vs vs ∧ ∀ d ∈ ds, ∃ k : Nat, d = .int k)
      (fun d ds g T ⟨vs, o7, o8, o9, o10, o11, h1, h2, h3, h4⟩ => by
        subst h2 h3
        obtain ⟨k, rfl⟩ := h4 d List.mem_cons_self
        obtain ⟨vs', a8, a9, a10, a11, q1, q2⟩ := turn_ev C h1 (p := p) (k := k) (o0 := some (.scr ns)) (o8 := o8) (o9 := o9) (o10 := o10) (o11 := o11) (o12 := none)
        exact ⟨trivial, _, _, _, rfl, .inl q2, vs', _, _, _, _, _, q1, rfl, rfl, fun x hx => h4 x (List.mem_cons_of_mem _ hx)⟩) (fun g S _ => trivial) (rngD 0 n) _ (Z cs (zs cs) (zs cs)) ⟨zs cs, none, none, none, none, none, by simp [zs], rfl, rfl, fun d hd => by
          simp only [rngD, List.mem_map, List.mem_range] at hd
          obtain ⟨k, hk, rfl⟩ := hd
          exact ⟨k, by simp⟩⟩
    rw [h2, h3] at e
    exact ⟨vs, o7, o8, o9, o10, o11, h1, by simp [d1, hb, e]⟩
  obtain ⟨vs, o7, o8, o9, o10, o11, hl, s9⟩ := s9
  have ag1 : m_law_agrees [.ref 3, .lst (cs.map .str), .lst ((zs cs).map .int)] (Z cs vs vs) = some (.ok (.bl true), Z cs vs vs) := agrees_ev (mem2 C) C.nm fun k => rfl
  have ag2 : m_law_agrees [.ref 1, .lst (cs.map .str), .ref 5] (Z cs vs vs) = some (.ok (.bl true), Z cs vs vs) := agrees_ev (mem1 C hl) C.nm ixZ
  have el : mLc [12] (mI (mVar 2)) (bN 12) (mP true) (mP (.int 0)) [some (.scr ns), some (.lst (p.map .int)), some (.lst (cs.map .str)), some (.ref 0), some (.ref 1), some (.ref 3), some (.ref 5), o7, o8, o9, o10, o11, none] (Z cs vs vs) = some (.ok (.lst ((zs cs).map .int)), Z cs vs vs) :=
    v_lc (S1 := Z cs vs vs) (src := (cs.map D.str, none)) (by simp) (lz _ _)
  have s10 : mIfS (mOrT (mNotT (mT (mCall (m_law_agrees) (mCons (mVar 5) (mCons (mVar 2) (mCons (mLc [12] (mI (mVar 2)) (bN 12) (mP true) (mP (.int 0))) (mNil))))))) (mNotT (mT (mCall (m_law_agrees) (mCons (mVar 4) (mCons (mVar 2) (mCons (mVar 6) (mNil)))))))) (mRet (mP (.bl false))) (mSkip) [some (.scr ns), some (.lst (p.map .int)), some (.lst (cs.map .str)), some (.ref 0), some (.ref 1), some (.ref 3), some (.ref 5), o7, o8, o9, o10, o11, none] (Z cs vs vs) =
      some (.nx [some (.scr ns), some (.lst (p.map .int)), some (.lst (cs.map .str)), some (.ref 0), some (.ref 1), some (.ref 3), some (.ref 5), o7, o8, o9, o10, o11, none], Z cs vs vs) := by
    simp [el, ag1, ag2]
  have ew := wide_ev (p := p) (S := Z cs vs vs) allZ
  have s11 : mIfS (mNotT (mT (mCall (m_law_wide) (mCons (mVar 1) (mNil))))) (mRet (mP (.bl false))) (mSkip) [some (.scr ns), some (.lst (p.map .int)), some (.lst (cs.map .str)), some (.ref 0), some (.ref 1), some (.ref 3), some (.ref 5), o7, o8, o9, o10, o11, none] (Z cs vs vs) =
      some (.nx [some (.scr ns), some (.lst (p.map .int)), some (.lst (cs.map .str)), some (.ref 0), some (.ref 1), some (.ref 3), some (.ref 5), o7, o8, o9, o10, o11, none], Z cs vs vs) := by
    simp [ew]
  have ef : fldOf of_locked_0 "locked" (Z cs vs vs) (.ref 1) = some (.bl false) := by
    have nk : (("locked" : Str) == "stored") = false := by decide
    simp [fldOf, Z, memC, of_locked_0, List.lookup, nk]
  refine ⟨Z cs vs vs, ?_⟩
  have eb : b_law [some (.scr ns), none, none, none, none, none, none, none, none, none, none, none, none] [] = some (.rt (.bl true), Z cs vs vs) := by
    unfold b_law
    rw [seq_go s1, seq_go s2, seq_go s3, seq_go s4, seq_go s5, seq_go s6, seq_go s7, seq_go s8, seq_go s9, seq_go s10, seq_go s11]
    simp [same_int, ef, fIsB]
  unfold m_law
  rw [v_fn]
  show (match b_law [some (.scr ns), none, none, none, none, none, none, none, none, none, none, none, none] [] with | some (.rt d, S') => some (R.ok d, S') | some (.nx _, S') => some (.ok .non, S') | some (.ex _ c fs, S') => some (.exc c fs, S') | _ => none) = _
  rw [eb]
end Lw
namespace Lw
open PySem L2 Mi
theorem law_sp {K : PySem.W.Frag} {ns : List Int} (hl : ns.length ≤ 63) {H : Hp} {a : Addr} (hS : SqL K H a (ns.map V.int)) : spA K m_law [.ref a] H (fun v _ => v = .bl true) fun _ _ _ => False :=
  fun _ => let ⟨_, h⟩ := law_true ns hl; law_of h hS
end Lw
open PySem PySem.W PyProof.Rows
set_option maxRecDepth 100000 in
set_option maxHeartbeats 0 in
theorem endtest : PySem.Challenge.rw_elderreads_k07_memory_items.Holds := by
  w_on; o_law; k_head; (case hw => w_witness2)
  k_fill
  refine L2.walk_of (l := PySem.Challenge.rw_elderreads_k07_memory_items) (n := 63) (k := 11) (x := "_law_script") (CX := fun w => L2.CX PySem.Challenge.rw_elderreads_k07_memory_items.prog w) (sp := fun w => Mi.spA _ Lw.m_law) rfl (by decide) rfl ⟨rfl, by decide, by decide⟩ (fun w h Y => PySem.W.kIn_of Y) ?F (fun w H a ns hl hO hS => Lw.law_sp hl hS) (fun _ _ _ _ _ z => Mi.cx_never z)
  case F =>
    intro w mg fa h KX G hmg
    refine' Lw.all_mk KX G hmg ?uC0 ?uC1 ?uC2 ?uC3 ?a0 ?l0 ?c0 ?k0 ?a1 ?l1 ?c1 ?k1 ?a2 ?l2 ?c2 ?k2 ?a3 ?l3 ?c3 ?k3 ?a4 ?l4 ?c4 ?k4 ?a5 ?l5 ?c5 ?k5 ?a6 ?l6 ?c6 ?k6 ?a7 ?l7 ?c7 ?k7 ?a8 ?l8 ?c8 ?k8 ?a9 ?l9 ?c9 ?k9 ?a10 ?l10 ?c10 ?k10 ?a11 ?l11 ?c11 ?k11 ?a12 ?l12 ?c12 ?k12 ?a13 ?l13 ?c13 ?k13 ?a14 ?l14 ?c14 ?k14 ?z_abs ?z_all ?z_bool ?z_int ?z_isinstance ?z_iter ?z_len ?z_list ?z_range ?z_str ?z_sum ?z_tuple ?tC0 ?lC0 ?pp0 ?bC0 ?tC1 ?lC1 ?pp1 ?bC1 ?tC2 ?lC2 ?pp2 ?bC2 ?kC0 ?gaC0 ?ggC0 ?hdC0 ?caC0 ?hmC0 ?p0_1 ?p0_0 ?p0_2 ?nf0_cell ?nf0_value ?kC1 ?gaC1 ?ggC1 ?hdC1 ?caC1 ?hmC1 ?p1_1 ?p1_0 ?p1_2 ?nf1_cell ?nf1_value ?snC ?htC ?xl0 ?sa0 ?iC0 ?tI0 ?mr0 ?sup0 ?vE0 ?lx0 ?cx0 ?lc0 ?ld0 ?vs0 ?fe0 ?xl1 ?sa1 ?iC1 ?tI1 ?mr1 ?sup1 ?vE1 ?lx1 ?cx1 ?lc1 ?ld1 ?vs1 ?fe1 ?tpC ?z_super ?topC ?pg3 ?hd3 ?po3 ?sb3 ?nsq3 ?mk3 ?kp3 ?if6 ?fi6 ?if9 ?fi9 ?if8 ?fi8 ?if5 ?fi5 ?if14 ?fi14 ?if3 ?fi3 ?no3_locked ?no3_stored ?co3_GREATEST ?cg3_GREATEST ?rd3_GREATEST ?fc3_GREATEST
    (case uC0 => k_is); (case uC1 => k_is); (case uC2 => k_is); (case uC3 => k_is); (case a0 => k_is); (case l0 => k_is)
    (case c0 => k_is); (case k0 => k_is); (case a1 => k_is); (case l1 => k_is); (case c1 => k_is); (case k1 => k_is)
    (case a2 => k_is); (case l2 => k_is); (case c2 => k_is); (case k2 => k_is); (case a3 => k_is); (case l3 => k_is)
    (case c3 => k_is); (case k3 => k_is); (case a4 => k_is); (case l4 => k_is); (case c4 => k_is); (case k4 => k_is)
    (case a5 => k_is); (case l5 => k_is); (case c5 => k_is); (case k5 => k_is); (case a6 => k_is); (case l6 => k_is)
    (case c6 => k_is); (case k6 => k_is); (case a7 => k_is); (case l7 => k_is); (case c7 => k_is); (case k7 => k_is)
    (case a8 => k_is); (case l8 => k_is); (case c8 => k_is); (case k8 => k_is); (case a9 => k_is); (case l9 => k_is)
    (case c9 => k_is); (case k9 => k_is); (case a10 => k_is); (case l10 => k_is); (case c10 => k_is); (case k10 => k_is)
    (case a11 => k_is); (case l11 => k_is); (case c11 => k_is); (case k11 => k_is); (case a12 => k_is); (case l12 => k_is)
    (case c12 => k_is); (case k12 => k_is); (case a13 => k_is); (case l13 => k_is); (case c13 => k_is); (case k13 => k_is)
    (case a14 => k_is); (case l14 => k_is); (case c14 => k_is); (case k14 => k_is); (case z_abs => k_is); (case z_all => k_is)
    (case z_bool => k_is); (case z_int => k_is); (case z_isinstance => k_is); (case z_iter => k_is); (case z_len => k_is); (case z_list => k_is)
    (case z_range => k_is); (case z_str => k_is); (case z_sum => k_is); (case z_tuple => k_is); (case tC0 => k_is); (case lC0 => k_is)
    (case pp0 => k_is); (case bC0 => k_is); (case tC1 => k_is); (case lC1 => k_is); (case pp1 => k_is); (case bC1 => k_is)
    (case tC2 => k_is); (case lC2 => k_is); (case pp2 => k_is); (case bC2 => k_is); (case kC0 => k_is); (case gaC0 => k_is)
    (case ggC0 => k_is); (case hdC0 => k_is); (case caC0 => k_is); (case hmC0 => k_is); (case p0_1 => k_is); (case p0_0 => k_is)
    (case p0_2 => k_is); (case nf0_cell => k_is); (case nf0_value => k_is); (case kC1 => k_is); (case gaC1 => k_is); (case ggC1 => k_is)
    (case hdC1 => k_is); (case caC1 => k_is); (case hmC1 => k_is); (case p1_1 => k_is); (case p1_0 => k_is); (case p1_2 => k_is)
    (case nf1_cell => k_is); (case nf1_value => k_is); (case snC => k_is); (case htC => k_is); (case xl0 => k_is); (case sa0 => k_is)
    (case iC0 => k_is); (case tI0 => k_is); (case mr0 => k_is); (case sup0 => ks_is); (case vE0 => k_is); (case lx0 => k_is)
    (case cx0 => k_is); (case lc0 => k_is); (case ld0 => k_is); (case vs0 => rfl); (case fe0 => decide +kernel); (case xl1 => k_is)
    (case sa1 => k_is); (case iC1 => k_is); (case tI1 => k_is); (case mr1 => k_is); (case sup1 => ks_is); (case vE1 => k_is)
    (case lx1 => k_is); (case cx1 => k_is); (case lc1 => k_is); (case ld1 => k_is); (case vs1 => rfl); (case fe1 => decide +kernel)
    (case tpC => k_is); (case z_super => k_is); (case topC => decide +kernel); (case pg3 => k_is); (case hd3 => k_is); (case po3 => k_is)
    (case sb3 => k_is); (case nsq3 => k_is); (case mk3 => k_is); (case kp3 => k_is); (case if6 => k_is); (case fi6 => k_is)
    (case if9 => k_is); (case fi9 => k_is); (case if8 => k_is); (case fi8 => k_is); (case if5 => k_is); (case fi5 => k_is)
    (case if14 => k_is); (case fi14 => k_is); (case if3 => k_is); (case fi3 => k_is); (case no3_locked => k_is); (case no3_stored => k_is)
    (case co3_GREATEST => k_is); (case cg3_GREATEST => k_is); (case rd3_GREATEST => k_is); (case fc3_GREATEST => k_is)
theorem PySem.Challenge.cw_elderreads_k07_memory_items_holds : PySem.Challenge.rw_elderreads_k07_memory_items.Holds := by
  exact endtest
