import PyProof.Rows.All
import Wide.All
import OpenK.AllK
import Wide.FinOn
import HandS.ForMost
import HandS.Exc
import HandS.TryOnly
import HandS.ExcOwn
import HandS.WordsExc
import HandS.IsInst
import HandS.Flow
import HandS.ExcInit
import HandS.Walk
import HandS.RaiseMore
import HandS.Deep
import HandS.NoneIn
import HandS.ExcField
import HandS.Defaults
import KE.KExcIs
import PyProof.StrOps2
import KE.KExcSuper
import HandS.DictComp
import HandS.IterVal
import HandS.TryMany
import HandS.Style
import HandS.New
import HandS.HotCalls
import HandS.MakeKw
import KE.KOpsOwn
import HandS.TupSets
import HandS.Strs
import HandS.Iter
import HandS.Property
import KE.KCallOwn
import HandS.ClsMeth
import HandS.Star
import KE.GoesEnum
import KE.GoesMore
import PyProof.P3Eq
import PySem.Challenge.RW_elderreads_k03_whole_program_texts
set_option Elab.async false
set_option linter.all false
set_option maxRecDepth 100000
set_option maxHeartbeats 4000000
/-! Mi: a small deterministic reading of Python over data trees and a store of cells, and what it has to do with the hand layer's readings. -/
namespace Mi
open PySem L2

/-! ### data, cells, results -/
inductive D where
  | non | bl (b : Bool) | int (i : Int) | str (s : Str) | tup (l : List D) | lst (l : List D) | scr (l : List Int) | ref (i : Nat) | cls (x : Str)
inductive Cell where
  | lst (l : List D) | dK (kvs : List (Key × D)) | dF (kvs : List (Key × D)) | ins (c : Nat) (fs : List (Str × D)) | dead
/-- dead: now a stable thing; dF: a dict that is locked (stable meanwhile) -/
def Cell.live : Cell → Bool
  | .dead => false
  | .dF _ => false
  | _ => true
abbrev Store := List Cell
abbrev Gm := List (Option D)
inductive R (α : Type) where
  | ok (a : α) | exc (c : Nat) (fs : List (Str × D))
abbrev M (α : Type) := Gm → Store → Option (R α × Store)
abbrev MF := List D → Store → Option (R D × Store)
inductive Out where
  | nx (g : Gm) | rt (d : D) | bk (g : Gm) | ct (g : Gm) | ex (g : Gm) (c : Nat) (fs : List (Str × D))
abbrev MS := Gm → Store → Option (Out × Store)

/-! ### a value stands for data -/
mutual
def IsD (K : PySem.W.Frag) (φ : List Addr) (G : Hp) : D → V → Prop
  | .non, v => v = .non
  | .bl b, v => v = .bl b
  | .int i, v => v = .int i
  | .str x, v => v = .str x
  | .tup ds, v => ∃ a xs, v = .ref a ∧ SqT K G a xs ∧ IsDs K φ G ds xs
  | .lst ds, v => ∃ a xs, v = .ref a ∧ G a = some (.lst xs) ∧ IsDs K φ G ds xs
  | .scr ns, v => ∃ a, v = .ref a ∧ SqL K G a (ns.map V.int)
  | .ref i, v => ∃ a, v = .ref a ∧ φ[i]? = some a
  | .cls x, v => ∃ a, v = .ref a ∧ PySem.W.nsIn K mainGlobals x = some (some (.ref a))
def IsDs (K : PySem.W.Frag) (φ : List Addr) (G : Hp) : List D → List V → Prop
  | [], vs => vs = []
  | d :: ds, vs => ∃ v r, vs = v :: r ∧ IsD K φ G d v ∧ IsDs K φ G ds r
end

def Ex (H H' : Hp) : Prop := ∀ a o, H a = some o → H' a = some o
theorem Ex.refl (H : Hp) : Ex H H := fun _ _ h => h
theorem Ex.trans {H H1 H2 : Hp} (a : Ex H H1) (b : Ex H1 H2) : Ex H H2 := fun x o h => b x o (a x o h)
theorem Ex.rd {H H' : Hp} {a : Addr} {u : HO} (e : Ex H H') (h : Rd H a u) : Rd H' a u := by
  rcases h with h | ⟨o, h⟩
  · exact .inl (e _ _ h)
  · exact .inr ⟨o, e _ _ h⟩
theorem Ex.l {K : PySem.W.Frag} {H H' : Hp} {a : Addr} {xs : List V} (e : Ex H H') (h : SqL K H a xs) : SqL K H' a xs := h.imp (fun h => e.rd h) id
theorem Ex.t {K : PySem.W.Frag} {H H' : Hp} {a : Addr} {xs : List V} (e : Ex H H') (h : SqT K H a xs) : SqT K H' a xs := h.imp (fun h => e.rd h) id

section
variable {K : PySem.W.Frag} {φ φ' : List Addr} {G G' : Hp}
theorem pre_get (p : φ <+: φ') {i : Nat} {a : Addr} (h : φ[i]? = some a) : φ'[i]? = some a := by
  obtain ⟨t, rfl⟩ := p
  rw [List.getElem?_append_left (List.getElem?_eq_some_iff.mp h).1]; exact h
mutual
theorem IsD.mono (p : φ <+: φ') (e : Ex G G') : ∀ {d : D} {v : V}, IsD K φ G d v → IsD K φ' G' d v
  | .non, _, h => by simpa only [IsD] using h
  | .bl _, _, h => by simpa only [IsD] using h
  | .int _, _, h => by simpa only [IsD] using h
  | .str _, _, h => by simpa only [IsD] using h
  | .tup ds, v, h => by
    simp only [IsD] at h ⊢
    obtain ⟨a, xs, h1, h2, h3⟩ := h
    exact ⟨a, xs, h1, e.t h2, IsDs.mono p e h3⟩
  | .lst ds, v, h => by
    simp only [IsD] at h ⊢
    obtain ⟨a, xs, h1, h2, h3⟩ := h
    exact ⟨a, xs, h1, e _ _ h2, IsDs.mono p e h3⟩
  | .scr ns, v, h => by
    simp only [IsD] at h ⊢
    obtain ⟨a, h1, h2⟩ := h
    exact ⟨a, h1, e.l h2⟩
  | .ref i, v, h => by
    simp only [IsD] at h ⊢
    obtain ⟨a, h1, h2⟩ := h
    exact ⟨a, h1, pre_get p h2⟩
  | .cls x, v, h => by simpa only [IsD] using h
theorem IsDs.mono (p : φ <+: φ') (e : Ex G G') : ∀ {ds : List D} {vs : List V}, IsDs K φ G ds vs → IsDs K φ' G' ds vs
  | [], _, h => by simpa only [IsDs] using h
  | d :: ds, vs, h => by
    simp only [IsDs] at h ⊢
    obtain ⟨v, r, h1, h2, h3⟩ := h
    exact ⟨v, r, h1, IsD.mono p e h2, IsDs.mono p e h3⟩
end
theorem IsDs.length : ∀ {ds : List D} {vs : List V}, IsDs K φ G ds vs → ds.length = vs.length
  | [], _, h => by simp only [IsDs] at h; subst h; rfl
  | d :: ds, vs, h => by
    simp only [IsDs] at h
    obtain ⟨v, r, rfl, _, h3⟩ := h
    simp only [List.length_cons]; rw [IsDs.length h3]
theorem IsDs.nil : IsDs K φ G [] [] := by simp only [IsDs]
theorem IsDs.cons {d : D} {ds : List D} {v : V} {vs : List V} (h : IsD K φ G d v) (r : IsDs K φ G ds vs) : IsDs K φ G (d :: ds) (v :: vs) := by
  simp only [IsDs]; exact ⟨v, vs, rfl, h, r⟩
theorem IsDs.cons_inv {d : D} {ds : List D} {vs : List V} (h : IsDs K φ G (d :: ds) vs) : ∃ v r, vs = v :: r ∧ IsD K φ G d v ∧ IsDs K φ G ds r := by simpa only [IsDs] using h
theorem IsDs.nil_inv {vs : List V} (h : IsDs K φ G [] vs) : vs = [] := by simpa only [IsDs] using h
theorem IsDs.append : ∀ {ds es : List D} {vs ws : List V}, IsDs K φ G ds vs → IsDs K φ G es ws → IsDs K φ G (ds ++ es) (vs ++ ws)
  | [], _, _, _, h, r => by rw [h.nil_inv]; exact r
  | d :: ds, _, _, _, h, r => by
    obtain ⟨v, t, rfl, h1, h2⟩ := h.cons_inv
    exact .cons h1 (IsDs.append h2 r)
theorem IsDs.get : ∀ {ds : List D} {vs : List V} {i : Nat} {d : D}, IsDs K φ G ds vs → ds[i]? = some d → ∃ v, vs[i]? = some v ∧ IsD K φ G d v
  | [], _, _, _, _, e => by simp at e
  | d :: ds, _, 0, _, h, e => by
    obtain ⟨v, t, rfl, h1, h2⟩ := h.cons_inv
    simp at e; subst e
    exact ⟨v, rfl, h1⟩
  | d :: ds, _, i + 1, _, h, e => by
    obtain ⟨v, t, rfl, h1, h2⟩ := h.cons_inv
    simpa using IsDs.get (i := i) h2 (by simpa using e)
theorem IsDs.set {d : D} {v : V} (hd : IsD K φ G d v) : ∀ {ds : List D} {vs : List V} (i : Nat), IsDs K φ G ds vs → IsDs K φ G (ds.set i d) (vs.set i v)
  | [], _, _, h => by rw [h.nil_inv]; exact .nil
  | e :: ds, _, 0, h => by
    obtain ⟨v, t, rfl, h1, h2⟩ := h.cons_inv
    exact .cons hd h2
  | e :: ds, _, i + 1, h => by
    obtain ⟨v, t, rfl, h1, h2⟩ := h.cons_inv
    exact .cons h1 (IsDs.set hd i h2)
theorem IsDs.drop : ∀ {ds : List D} {vs : List V} (n : Nat), IsDs K φ G ds vs → IsDs K φ G (ds.drop n) (vs.drop n)
  | _, _, 0, h => h
  | [], _, n + 1, h => by rw [h.nil_inv]; exact .nil
  | d :: ds, _, n + 1, h => by
    obtain ⟨v, t, rfl, h1, h2⟩ := h.cons_inv
    exact IsDs.drop n h2
theorem IsDs.take : ∀ {ds : List D} {vs : List V} (n : Nat), IsDs K φ G ds vs → IsDs K φ G (ds.take n) (vs.take n)
  | _, _, 0, h => .nil
  | [], _, n + 1, h => by rw [h.nil_inv]; exact .nil
  | d :: ds, _, n + 1, h => by
    obtain ⟨v, t, rfl, h1, h2⟩ := h.cons_inv
    exact .cons h1 (IsDs.take n h2)
theorem IsDs.ints : ∀ {ns : List Int} {vs : List V}, IsDs K φ G (ns.map D.int) vs → vs = ns.map V.int
  | [], _, h => h.nil_inv
  | n :: ns, _, h => by
    obtain ⟨v, t, rfl, h1, h2⟩ := IsDs.cons_inv (d := .int n) (ds := ns.map D.int) h
    simp only [IsD] at h1
    rw [h1, IsDs.ints h2] <;> rfl
theorem IsDs.of_ints : ∀ (ns : List Int), IsDs K φ G (ns.map D.int) (ns.map V.int)
  | [] => .nil
  | n :: ns => .cons (by simp only [IsD]) (IsDs.of_ints ns)
theorem IsDs.bls : ∀ {ns : List Bool} {vs : List V}, IsDs K φ G (ns.map D.bl) vs → vs = ns.map V.bl
  | [], _, h => h.nil_inv
  | n :: ns, _, h => by
    obtain ⟨v, t, rfl, h1, h2⟩ := IsDs.cons_inv (d := .bl n) (ds := ns.map D.bl) h
    simp only [IsD] at h1
    rw [h1, IsDs.bls h2] <;> rfl
theorem IsDs.strs : ∀ {ns : List Str} {vs : List V}, IsDs K φ G (ns.map D.str) vs → vs = ns.map V.str
  | [], _, h => h.nil_inv
  | n :: ns, _, h => by
    obtain ⟨v, t, rfl, h1, h2⟩ := IsDs.cons_inv (d := .str n) (ds := ns.map D.str) h
    simp only [IsD] at h1
    rw [h1, IsDs.strs h2] <;> rfl
theorem IsDs.of_strs : ∀ (ns : List Str), IsDs K φ G (ns.map D.str) (ns.map V.str)
  | [] => .nil
  | n :: ns => .cons (by simp only [IsD]) (IsDs.of_strs ns)
end

/-! ### the world: cells stand where φ says, apart from the stable part G of the heap H -/
def FsD (K : PySem.W.Frag) (φ : List Addr) (G : Hp) : List (Str × D) → List (Str × V) → Prop
  | [], vs => vs = []
  | (n, d) :: fs, vs => ∃ v r, vs = (n, v) :: r ∧ IsD K φ G d v ∧ FsD K φ G fs r
def KsD (K : PySem.W.Frag) (φ : List Addr) (G : Hp) : List (Key × D) → List (Key × V) → Prop
  | [], vs => vs = []
  | (n, d) :: fs, vs => ∃ v r, vs = (n, v) :: r ∧ IsD K φ G d v ∧ KsD K φ G fs r
section
variable {K : PySem.W.Frag} {φ φ' : List Addr} {G G' : Hp}
theorem FsD.mono (p : φ <+: φ') (e : Ex G G') : ∀ {fs : List (Str × D)} {vs : List (Str × V)}, FsD K φ G fs vs → FsD K φ' G' fs vs
  | [], _, h => h
  | (n, d) :: fs, _, ⟨v, r, h1, h2, h3⟩ => ⟨v, r, h1, h2.mono p e, FsD.mono p e h3⟩
theorem KsD.mono (p : φ <+: φ') (e : Ex G G') : ∀ {fs : List (Key × D)} {vs : List (Key × V)}, KsD K φ G fs vs → KsD K φ' G' fs vs
  | [], _, h => h
  | (n, d) :: fs, _, ⟨v, r, h1, h2, h3⟩ => ⟨v, r, h1, h2.mono p e, KsD.mono p e h3⟩
end
/-! ### a locked dict is no part of any data -/
section
variable {K : PySem.W.Frag} {φ : List Addr} {G : Hp} {a : Addr} {o : Obj} {kws : List (Key × V)}
theorem rd_unf (h : G a = some (.frz o (.dK kws))) {b : Addr} {u : HO} (r : Rd G b u) (h1 : ∀ k, u ≠ .dK k) (h2 : ∀ o v, u ≠ .frz o v) : Rd (del G a) b u := by
  have ne : b ≠ a := fun z => by
    subst z
    rcases r with r | ⟨o', r⟩
    · rw [h] at r; cases r; exact h2 _ _ rfl
    · rw [h] at r; cases r; exact h1 _ rfl
  unfold Rd
  rw [del_ne ne]
  exact r
mutual
theorem IsD.unf (h : G a = some (.frz o (.dK kws))) : ∀ {d : D} {v : V}, IsD K φ G d v → IsD K φ (del G a) d v
  | .non, _, q => by simpa only [IsD] using q
  | .bl _, _, q => by simpa only [IsD] using q
  | .int _, _, q => by simpa only [IsD] using q
  | .str _, _, q => by simpa only [IsD] using q
  | .tup ds, v, q => by
    simp only [IsD] at q ⊢
    obtain ⟨b, xs, h1, h2, h3⟩ := q
    exact ⟨b, xs, h1, h2.imp (fun r => rd_unf h r (fun _ z => nomatch z) fun _ _ z => nomatch z) id, IsDs.unf h h3⟩
  | .lst ds, v, q => by
    simp only [IsD] at q ⊢
    obtain ⟨b, xs, h1, h2, h3⟩ := q
    have ne : b ≠ a := fun z => by subst z; rw [h] at h2; cases h2
    exact ⟨b, xs, h1, by rw [del_ne ne]; exact h2, IsDs.unf h h3⟩
  | .scr ns, v, q => by
    simp only [IsD] at q ⊢
    obtain ⟨b, h1, h2⟩ := q
    exact ⟨b, h1, h2.imp (fun r => rd_unf h r (fun _ z => nomatch z) fun _ _ z => nomatch z) id⟩
  | .ref i, v, q => by
    simp only [IsD] at q ⊢
    exact q
  | .cls x, v, q => by simpa only [IsD] using q
theorem IsDs.unf (h : G a = some (.frz o (.dK kws))) : ∀ {ds : List D} {vs : List V}, IsDs K φ G ds vs → IsDs K φ (del G a) ds vs
  | [], _, q => by simpa only [IsDs] using q
  | d :: ds, vs, q => by
    simp only [IsDs] at q ⊢
    obtain ⟨v, r, h1, h2, h3⟩ := q
    exact ⟨v, r, h1, IsD.unf h h2, IsDs.unf h h3⟩
end
theorem FsD.unf (h : G a = some (.frz o (.dK kws))) : ∀ {fs : List (Str × D)} {vs : List (Str × V)}, FsD K φ G fs vs → FsD K φ (del G a) fs vs
  | [], _, q => q
  | (n, d) :: fs, _, ⟨v, r, h1, h2, h3⟩ => ⟨v, r, h1, h2.unf h, FsD.unf h h3⟩
theorem KsD.unf (h : G a = some (.frz o (.dK kws))) : ∀ {fs : List (Key × D)} {vs : List (Key × V)}, KsD K φ G fs vs → KsD K φ (del G a) fs vs
  | [], _, q => q
  | (n, d) :: fs, _, ⟨v, r, h1, h2, h3⟩ => ⟨v, r, h1, h2.unf h, KsD.unf h h3⟩
end
/-- where the classes stand; what else is known of the stable part -/
structure Cl where
  at_ : Nat → Addr
  inv : Hp → Prop
  mono : ∀ G G', Ex G G' → inv G → inv G'
  unf : ∀ G a o kws, G a = some (.frz o (.dK kws)) → inv G → inv (del G a)
  hd : Option (Nat × Addr)
def CellOk (K : PySem.W.Frag) (cl : Cl) (φ : List Addr) (G H : Hp) (a : Addr) : Cell → Prop
  | .lst ds => ∃ vs, H a = some (.lst vs) ∧ IsDs K φ G ds vs
  | .dK kvs => ∃ kws, H a = some (.dK kws) ∧ KsD K φ G kvs kws
  | .dF kvs => ∃ o kws, G a = some (.frz o (.dK kws)) ∧ KsD K φ G kvs kws
  | .ins c fs => ∃ dx fv, H a = some (.ins (cl.at_ c) dx fv) ∧ FsD K φ G fs fv
  | .dead => True
structure Wd (K : PySem.W.Frag) (cl : Cl) (φ : List Addr) (S : Store) (G H : Hp) : Prop where
  len : φ.length = S.length
  sub : Ex G H
  nd : φ.Nodup
  tr : ∀ a ∈ φ, H a ≠ none
  ap : ∀ (i : Nat) (c : Cell) (a : Addr), S[i]? = some c → φ[i]? = some a → c.live = true → G a = none
  ok : ∀ (i : Nat) (c : Cell) (a : Addr), S[i]? = some c → φ[i]? = some a → CellOk K cl φ G H a c
  iv : cl.inv G
structure Step (φ : List Addr) (G H : Hp) (φ' : List Addr) (G' H' : Hp) : Prop where
  pre : φ <+: φ'
  ex : Ex G G'
  gn : ∀ a, G' a ≠ none → G a ≠ none ∨ H a = none ∨ a ∈ φ
  keep : ∀ a o, H a = some o → a ∉ φ → H' a = some o
  new : ∀ a ∈ φ', a ∈ φ ∨ H a = none
theorem Step.refl (φ : List Addr) (G H : Hp) : Step φ G H φ G H := ⟨List.prefix_refl _, Ex.refl _, fun _ h => .inl h, fun _ _ h _ => h, fun _ h => .inl h⟩
theorem Step.trans {φ φ1 φ2 : List Addr} {G G1 G2 H H1 H2 : Hp} (a : Step φ G H φ1 G1 H1) (b : Step φ1 G1 H1 φ2 G2 H2) : Step φ G H φ2 G2 H2 where
  pre := a.pre.trans b.pre
  ex := a.ex.trans b.ex
  gn := fun x h => by
    rcases b.gn x h with h | h | h
    · exact a.gn x h
    · by_cases hx : x ∈ φ
      · exact .inr (.inr hx)
      · refine .inr (.inl ?_)
        cases q : H x with
        | none => rfl
        | some o => rw [a.keep x o q hx] at h; cases h
    · rcases a.new x h with h | h
      · exact .inr (.inr h)
      · exact .inr (.inl h)
  keep := fun x o h hx => b.keep x o (a.keep x o h hx) fun hm => by
    rcases a.new x hm with z | z
    · exact hx z
    · rw [h] at z; cases z
  new := fun x h => by
    rcases b.new x h with h | h
    · exact a.new x h
    · by_cases hx : x ∈ φ
      · exact .inl hx
      · refine .inr ?_
        cases q : H x with
        | none => rfl
        | some o => rw [a.keep x o q hx] at h; cases h
structure Sl (K : PySem.W.Frag) (cl : Cl) (φ : List Addr) (G : Hp) (g : Gm) (σ : St) : Prop where
  len : σ.length = g.length
  at_ : ∀ (i : Nat) (d : D), g[i]? = some (some d) → ∃ v, σ[i]? = some (some v) ∧ IsD K φ G d v
  hd : ∀ (i : Nat) (a : Addr), cl.hd = some (i, a) → g[i]? = some none → σ[i]? = some (some (.ref a))
theorem Sl.step {K : PySem.W.Frag} {cl : Cl} {φ φ' : List Addr} {G G' H H' : Hp} {g : Gm} {σ : St} (s : Sl K cl φ G g σ) (e : Step φ G H φ' G' H') : Sl K cl φ' G' g σ := ⟨s.len, fun i d h =>
  let ⟨v, h1, h2⟩ := s.at_ i d h
  ⟨v, h1, h2.mono e.pre e.ex⟩, s.hd⟩
theorem Sl.set {K : PySem.W.Frag} {cl : Cl} {φ : List Addr} {G : Hp} {g : Gm} {σ : St} {i : Nat} {d : D} {v : V} (s : Sl K cl φ G g σ) (h : IsD K φ G d v) : Sl K cl φ G (g.set i (some d)) (σ.set i (some v)) := ⟨by simp [s.len], fun j e hj => by
  by_cases q : i = j
  · subst q
    rw [List.getElem?_set] at hj
    simp at hj
    obtain ⟨hl, rfl⟩ := hj
    exact ⟨v, by rw [List.getElem?_set_self (by rw [s.len]; exact hl)], h⟩
  · rw [List.getElem?_set_ne q] at hj
    obtain ⟨w, h1, h2⟩ := s.at_ j e hj
    exact ⟨w, by rw [List.getElem?_set_ne q]; exact h1, h2⟩, fun j x hj hg => by
  by_cases q : i = j
  · subst q
    rw [List.getElem?_set] at hg
    simp at hg
  · rw [List.getElem?_set_ne q] at hg ⊢
    exact s.hd j x hj hg⟩
theorem Sl.wipe {K : PySem.W.Frag} {cl : Cl} (hh : cl.hd = none) {φ : List Addr} {G : Hp} {g : Gm} {σ : St} {i : Nat} (s : Sl K cl φ G g σ) : Sl K cl φ G (g.set i none) (σ.set i none) := ⟨by simp [s.len], fun j e hj => by
  by_cases q : i = j
  · subst q
    rw [List.getElem?_set] at hj
    simp at hj
  · rw [List.getElem?_set_ne q] at hj
    obtain ⟨w, h1, h2⟩ := s.at_ j e hj
    exact ⟨w, by rw [List.getElem?_set_ne q]; exact h1, h2⟩, fun j x hj hg => by rw [hh] at hj; cases hj⟩
/-- an exception: class c of the table, its fields -/
def ExcOk (K : PySem.W.Frag) (cl : Cl) (G : Hp) (c : Nat) (fs : List (Str × D)) (cls : Value) (dd : Option Addr) : Prop :=
  cls = .ref (cl.at_ c) ∧ ((fs = [] ∧ dd = none) ∨ ∃ dx fv, dd = some dx ∧ G dx = some (.xd fv) ∧ FsD K [] G fs fv)
def wE (K : PySem.W.Frag) (cl : Cl) (φ : List Addr) (G H : Hp) (S' : Store) (c : Nat) (fs : List (Str × D)) (cls : Value) (dd : Option Addr) (φ' : List Addr) (G' H' : Hp) : Prop :=
  Step φ G H φ' G' H' ∧ Wd K cl φ' S' G' H' ∧ ExcOk K cl G' c fs cls dd
def wOf (K : PySem.W.Frag) (cl : Cl) (φ : List Addr) (G H : Hp) (g : Gm) (S' : Store) (c : Nat) (fs : List (Str × D)) : WX := fun cls dd σ H' =>
  ∃ φ' G', wE K cl φ G H S' c fs cls dd φ' G' H' ∧ Sl K cl φ' G' g σ
theorem wOf.step {K : PySem.W.Frag} {cl : Cl} {φ φ1 : List Addr} {G H G1 H1 : Hp} {g : Gm} {S' : Store} {c : Nat} {fs : List (Str × D)} (e : Step φ G H φ1 G1 H1) {cls : Value} {dd : Option Addr} {σ : St} {H' : Hp} (h : wOf K cl φ1 G1 H1 g S' c fs cls dd σ H') :
    wOf K cl φ G H g S' c fs cls dd σ H' := by
  obtain ⟨φ', G', ⟨h1, h2, h3⟩, h4⟩ := h
  exact ⟨φ', G', ⟨e.trans h1, h2, h3⟩, h4⟩
/-- what is wished for an exception may be wished for by a weaker word -/
def TkOk (tk : WX → Prop) : Prop := ∀ W W' : WX, tk W → (∀ c d σ H, W' c d σ H → W c d σ H) → tk W'
theorem tkX (X : Cx) : TkOk (Takes X) := fun _ _ t h => t.imp h
theorem tk0 : TkOk (fun _ => False) := fun _ _ t _ => t

/-- the end of a reading that gives an α: r, S' are known; at every state that may be behind, Q -/
def Ko {α : Type} (K : PySem.W.Frag) (cl : Cl) (tk : WX → Prop) (φ : List Addr) (G H : Hp) (g : Gm) (r : R α) (S' : Store) (Q : List Addr → Hp → Hp → α → Prop) : Prop :=
  match r with
  | .ok a => ∀ φ' G' H', Step φ G H φ' G' H' → Wd K cl φ' S' G' H' → Q φ' G' H' a
  | .exc c fs => tk (wOf K cl φ G H g S' c fs)
theorem Ko.step {α : Type} {K : PySem.W.Frag} {cl : Cl} {tk : WX → Prop} (ht : TkOk tk) {φ φ1 : List Addr} {G H G1 H1 : Hp} {g : Gm} {r : R α} {S' : Store} {Q : List Addr → Hp → Hp → α → Prop} (e : Step φ G H φ1 G1 H1) (h : Ko K cl tk φ G H g r S' Q) :
    Ko K cl tk φ1 G1 H1 g r S' Q := by
  cases r with
  | ok a => exact fun φ' G' H' s w => h φ' G' H' (e.trans s) w
  | exc c fs => exact ht _ _ h fun _ _ _ _ q => q.step e
theorem Ko.imp {α : Type} {K : PySem.W.Frag} {cl : Cl} {tk : WX → Prop} {φ : List Addr} {G H : Hp} {g : Gm} {r : R α} {S' : Store} {Q Q' : List Addr → Hp → Hp → α → Prop} (h : Ko K cl tk φ G H g r S' Q)
    (i : ∀ φ' G' H' a, Step φ G H φ' G' H' → Wd K cl φ' S' G' H' → Q φ' G' H' a → Q' φ' G' H' a) : Ko K cl tk φ G H g r S' Q' := by
  cases r with
  | ok a => exact fun φ' G' H' s w => i _ _ _ _ s w (h φ' G' H' s w)
  | exc c fs => exact h

/-! ### readings by data -/
def tM (K : PySem.W.Frag) (cl : Cl) (tk : WX → Prop) (m : M D) : TE := fun σ H Q => ∃ φ G g S r S', Wd K cl φ S G H ∧ Sl K cl φ G g σ ∧ m g S = some (r, S') ∧ Ko K cl tk φ G H g r S' fun φ' G' H' d => ∀ v, IsD K φ' G' d v → Q v H'
def tMT (K : PySem.W.Frag) (cl : Cl) (tk : WX → Prop) (m : M Bool) : TT := fun σ H Q => ∃ φ G g S r S', Wd K cl φ S G H ∧ Sl K cl φ G g σ ∧ m g S = some (r, S') ∧ Ko K cl tk φ G H g r S' fun _ _ H' b => Q b H'
def tMA (K : PySem.W.Frag) (cl : Cl) (tk : WX → Prop) (m : M (List D)) : TA := fun σ H Q => ∃ φ G g S r S', Wd K cl φ S G H ∧ Sl K cl φ G g σ ∧ m g S = some (r, S') ∧ Ko K cl tk φ G H g r S' fun φ' G' H' ds => ∀ vs, IsDs K φ' G' ds vs → Q vs H'
/-- a statement's end -/
def Kos (K : PySem.W.Frag) (cl : Cl) (tk : WX → Prop) (φ : List Addr) (G H : Hp) (o : Out) (S' : Store) (D : Ends) : Prop :=
  match o with
  | .nx g => ∀ φ' G' H', Step φ G H φ' G' H' → Wd K cl φ' S' G' H' → ∀ σ, Sl K cl φ' G' g σ → D.nx σ H'
  | .rt d => ∀ φ' G' H', Step φ G H φ' G' H' → Wd K cl φ' S' G' H' → ∀ v, IsD K φ' G' d v → D.rt v H'
  | .bk g => ∀ φ' G' H', Step φ G H φ' G' H' → Wd K cl φ' S' G' H' → ∀ σ, Sl K cl φ' G' g σ → D.bk σ H'
  | .ct g => ∀ φ' G' H', Step φ G H φ' G' H' → Wd K cl φ' S' G' H' → ∀ σ, Sl K cl φ' G' g σ → D.ct σ H'
  | .ex g c fs => tk (wOf K cl φ G H g S' c fs)
theorem Kos.step {K : PySem.W.Frag} {cl : Cl} {tk : WX → Prop} (ht : TkOk tk) {φ φ1 : List Addr} {G H G1 H1 : Hp} {o : Out} {S' : Store} {D : Ends} (e : Step φ G H φ1 G1 H1) (h : Kos K cl tk φ G H o S' D) : Kos K cl tk φ1 G1 H1 o S' D := by
  cases o with
  | nx g => exact fun φ' G' H' s w => h φ' G' H' (e.trans s) w
  | rt g => exact fun φ' G' H' s w => h φ' G' H' (e.trans s) w
  | bk g => exact fun φ' G' H' s w => h φ' G' H' (e.trans s) w
  | ct g => exact fun φ' G' H' s w => h φ' G' H' (e.trans s) w
  | ex g2 c fs => exact ht _ _ h fun _ _ _ _ q => q.step e
def tMS (K : PySem.W.Frag) (cl : Cl) (tk : WX → Prop) (m : MS) : TS := fun D σ H => ∃ φ G g S o S', Wd K cl φ S G H ∧ Sl K cl φ G g σ ∧ m g S = some (o, S') ∧ Kos K cl tk φ G H o S' D
end Mi
namespace Mi
open PySem L2

/-! ### what may be wished -/
class Tk (X : Cx) (tk : WX → Prop) : Prop where
  ok : TkOk tk
  tk : ∀ W, tk W → Takes X W
instance (X : Cx) : Tk X (Takes X) := ⟨tkX X, fun _ h => h⟩
instance (X : Cx) : Tk X (fun _ => False) := ⟨tk0, fun _ h => h.elim⟩

abbrev RE (X : Cx) (cl : Cl) (tk : WX → Prop) (a : Expr) (m : M D) : Prop := PE X a (tM X.K cl tk m)
abbrev RT (X : Cx) (cl : Cl) (tk : WX → Prop) (a : Expr) (m : M Bool) : Prop := PT X a (tMT X.K cl tk m)
abbrev RW (X : Cx) (cl : Cl) (tk : WX → Prop) (a : Expr) (m : M Bool) : Prop := PW X a (tMT X.K cl tk m)
abbrev RA (X : Cx) (cl : Cl) (tk : WX → Prop) (a : List Expr) (m : M (List D)) : Prop := PA X a (tMA X.K cl tk m)
abbrev RS (X : Cx) (cl : Cl) (tk : WX → Prop) (a : Stmt) (m : MS) : Prop := PS X a (tMS X.K cl tk m)
abbrev RSs (X : Cx) (cl : Cl) (tk : WX → Prop) (a : List Stmt) (m : MS) : Prop := PSs X a (tMS X.K cl tk m)

theorem pe_imp {X : Cx} {a : Expr} {t t' : TE} (h : PE X a t) (i : ∀ σ H Q, t' σ H Q → t σ H Q) : PE X a t' := ⟨fun pins s σ H Q I q => h.run pins s σ H Q I (i σ H Q q)⟩
theorem pt_imp {X : Cx} {a : Expr} {t t' : TT} (h : PT X a t) (i : ∀ σ H Q, t' σ H Q → t σ H Q) : PT X a t' := ⟨fun pins s σ H Q I q => h.run pins s σ H Q I (i σ H Q q)⟩
theorem pw_imp {X : Cx} {a : Expr} {t t' : TT} (h : PW X a t) (i : ∀ σ H Q, t' σ H Q → t σ H Q) : PW X a t' := ⟨fun wh pins s σ H Q I q => h.run wh pins s σ H Q I (i σ H Q q)⟩
theorem pa_imp {X : Cx} {a : List Expr} {t t' : TA} (h : PA X a t) (i : ∀ σ H Q, t' σ H Q → t σ H Q) : PA X a t' := ⟨fun p pins s σ H Q I q => h.run p pins s σ H Q I (i σ H Q q)⟩
theorem ps_imp {X : Cx} {a : Stmt} {t t' : TS} (h : PS X a t) (i : ∀ D σ H, t' D σ H → t D σ H) : PS X a t' := ⟨fun pins s σ H D I q => h.run pins s σ H D I (i D σ H q)⟩
theorem pss_imp {X : Cx} {a : List Stmt} {t t' : TS} (h : PSs X a t) (i : ∀ D σ H, t' D σ H → t D σ H) : PSs X a t' := ⟨fun pins s σ H D I q => h.run pins s σ H D I (i D σ H q)⟩
theorem pi_imp {X : Cx} {tg a : Expr} {t t' : TI} (h : PI X tg a t) (i : ∀ σ H R, t' σ H R → t σ H R) : PI X tg a t' := ⟨fun pins s σ H Q I q => h.run pins s σ H Q I (i σ H Q q)⟩

/-! ### new stable objects -/
section
variable {K : PySem.W.Frag} {cl : Cl} {φ : List Addr} {S : Store} {G H : Hp}
theorem Ex.new {H : Hp} {p : Addr} {o : HO} (h : H p = none) : Ex H (upd H p o) := fun a u e => by
  rw [upd_ne (ne_of_none e h)]
  exact e
theorem Wd.gnone (w : Wd K cl φ S G H) {p : Addr} (hp : H p = none) : G p = none := by
  cases q : G p with
  | none => rfl
  | some o => rw [w.sub p o q] at hp; cases hp
theorem fresh_step (w : Wd K cl φ S G H) {p : Addr} (hp : H p = none) (o : HO) : Step φ G H φ (upd G p o) (upd H p o) where
  pre := List.prefix_refl _
  ex := Ex.new (w.gnone hp)
  gn := fun a h => by
    by_cases e : a = p
    · subst e; exact .inr (.inl hp)
    · rw [upd_ne e] at h; exact .inl h
  keep := fun a u h _ => Ex.new hp a u h
  new := fun a h => .inl h
theorem CellOk.mono {φ' : List Addr} {G' H' : Hp} {a : Addr} {c : Cell} (p : φ <+: φ') (e : Ex G G') (h : ∀ o, H a = some o → H' a = some o) (k : CellOk K cl φ G H a c) : CellOk K cl φ' G' H' a c := by
  cases c with
  | lst ds => obtain ⟨vs, h1, h2⟩ := k; exact ⟨vs, h _ h1, h2.mono p e⟩
  | dK ds => obtain ⟨vs, h1, h2⟩ := k; exact ⟨vs, h _ h1, h2.mono p e⟩
  | dF ds => obtain ⟨o, vs, h1, h2⟩ := k; exact ⟨o, vs, e _ _ h1, h2.mono p e⟩
  | ins c fs => obtain ⟨dx, vs, h1, h2⟩ := k; exact ⟨dx, vs, h _ h1, h2.mono p e⟩
  | dead => trivial
theorem fresh_wd (w : Wd K cl φ S G H) {p : Addr} (hp : H p = none) (o : HO) : Wd K cl φ S (upd G p o) (upd H p o) where
  len := w.len
  sub := fun a u h => by
    by_cases e : a = p
    · subst e; rw [upd_same] at h ⊢; exact h
    · rw [upd_ne e] at h ⊢; exact w.sub a u h
  nd := w.nd
  tr := fun a h => by
    by_cases e : a = p
    · subst e; rw [upd_same]; simp
    · rw [upd_ne e]; exact w.tr a h
  ap := fun i c a h1 h2 h3 => by
    by_cases e : a = p
    · subst e; exact absurd hp (w.tr a (List.mem_of_getElem? h2))
    · rw [upd_ne e]; exact w.ap i c a h1 h2 h3
  ok := fun i c a h1 h2 => (w.ok i c a h1 h2).mono (List.prefix_refl _) (Ex.new (w.gnone hp)) (Ex.new hp a)
  iv := cl.mono _ _ (Ex.new (w.gnone hp)) w.iv
theorem new_lst (w : Wd K cl φ S G H) {ds : List D} {vs : List V} (h : IsDs K φ G ds vs) {Q : VK} (k : ∀ φ' G' H', Step φ G H φ' G' H' → Wd K cl φ' S G' H' → ∀ v, IsD K φ' G' (.lst ds) v → Q v H') : ∀ p, H p = none → Q (.ref p) (upd H p (.lst vs)) := fun p hp => by
  refine k _ _ _ (fresh_step w hp _) (fresh_wd w hp _) _ ?_
  simp only [IsD]
  exact ⟨p, vs, rfl, upd_same, h.mono (List.prefix_refl _) (Ex.new (w.gnone hp))⟩
theorem new_tup (w : Wd K cl φ S G H) {ds : List D} {vs : List V} (h : IsDs K φ G ds vs) {Q : VK} (k : ∀ φ' G' H', Step φ G H φ' G' H' → Wd K cl φ' S G' H' → ∀ v, IsD K φ' G' (.tup ds) v → Q v H') : ∀ p, H p = none → Q (.ref p) (upd H p (.tup vs)) := fun p hp => by
  refine k _ _ _ (fresh_step w hp _) (fresh_wd w hp _) _ ?_
  simp only [IsD]
  exact ⟨p, vs, rfl, .inl (.inl upd_same), h.mono (List.prefix_refl _) (Ex.new (w.gnone hp))⟩
end

/-! ### binding -/
def mB {α β : Type} (m : M α) (f : α → M β) : M β := fun g S =>
  match m g S with
  | some (.ok a, S1) => f a g S1
  | some (.exc c fs, S1) => some (.exc c fs, S1)
  | none => none
def mP {α : Type} (a : α) : M α := fun _ S => some (.ok a, S)
def mL {α : Type} (f : Store → Option α) : M α := fun _ S => (f S).map fun a => (.ok a, S)
def mOp1 (f : Store → D → Option D) (m : M D) : M D := mB m fun d => mL fun S => f S d
def mOp2 (f : Store → D → D → Option D) (m1 m2 : M D) : M D := mB m1 fun d => mB m2 fun e => mL fun S => f S d e
def mVar (i : Nat) : M D := fun g S => match g[i]? with
  | some (some d) => some (.ok d, S)
  | _ => none
theorem mB_ok {α β : Type} {m : M α} {f : α → M β} {g : Gm} {S S' : Store} {r : R β} (h : mB m f g S = some (r, S')) :
    (∃ a S1, m g S = some (.ok a, S1) ∧ f a g S1 = some (r, S')) ∨ (∃ c fs, m g S = some (.exc c fs, S') ∧ r = .exc c fs) := by
  unfold mB at h
  split at h
  · exact .inl ⟨_, _, by assumption, h⟩
  · cases h; exact .inr ⟨_, _, by assumption, rfl⟩
  · cases h
theorem mL_ok {α : Type} {f : Store → Option α} {g : Gm} {S S' : Store} {r : R α} (h : mL f g S = some (r, S')) : ∃ a, f S = some a ∧ r = .ok a ∧ S' = S := by
  unfold mL at h
  cases e : f S with
  | none => rw [e] at h; cases h
  | some a => rw [e] at h; cases h; exact ⟨a, rfl, rfl, rfl⟩

section
variable {X : Cx} {cl : Cl} {tk : WX → Prop} [T : Tk X tk]
variable {K : PySem.W.Frag}

/-- a part's reading, then what follows it -/
theorem tM_bind {m : M D} {β : Type} {f : D → M β} {σ : St} {φ : List Addr} {G H : Hp} {g : Gm} {S S' : Store} {r : R β} {Qβ : List Addr → Hp → Hp → β → Prop} {Q : VK} (ht : TkOk tk)
    (w : Wd K cl φ S G H) (s : Sl K cl φ G g σ) (e : mB m f g S = some (r, S')) (k : Ko K cl tk φ G H g r S' Qβ)
    (h : ∀ d φ1 G1 H1 S1 v, Step φ G H φ1 G1 H1 → Wd K cl φ1 S1 G1 H1 → Sl K cl φ1 G1 g σ → IsD K φ1 G1 d v → f d g S1 = some (r, S') → Ko K cl tk φ1 G1 H1 g r S' Qβ → Q v H1) : tM K cl tk m σ H Q := by
  rcases mB_ok e with ⟨d, S1, e1, e2⟩ | ⟨c, fs, e1, rfl⟩
  · exact ⟨φ, G, g, S, _, _, w, s, e1, fun φ1 G1 H1 st w1 v hv => h d φ1 G1 H1 S1 v st w1 (s.step st) hv e2 (k.step ht st)⟩
  · exact ⟨φ, G, g, S, _, _, w, s, e1, k⟩
theorem tMT_bind {m : M Bool} {β : Type} {f : Bool → M β} {σ : St} {φ : List Addr} {G H : Hp} {g : Gm} {S S' : Store} {r : R β} {Qβ : List Addr → Hp → Hp → β → Prop} {Q : Bool → Hp → Prop} (ht : TkOk tk)
    (w : Wd K cl φ S G H) (s : Sl K cl φ G g σ) (e : mB m f g S = some (r, S')) (k : Ko K cl tk φ G H g r S' Qβ)
    (h : ∀ d φ1 G1 H1 S1, Step φ G H φ1 G1 H1 → Wd K cl φ1 S1 G1 H1 → Sl K cl φ1 G1 g σ → f d g S1 = some (r, S') → Ko K cl tk φ1 G1 H1 g r S' Qβ → Q d H1) : tMT K cl tk m σ H Q := by
  rcases mB_ok e with ⟨d, S1, e1, e2⟩ | ⟨c, fs, e1, rfl⟩
  · exact ⟨φ, G, g, S, _, _, w, s, e1, fun φ1 G1 H1 st w1 => h d φ1 G1 H1 S1 st w1 (s.step st) e2 (k.step ht st)⟩
  · exact ⟨φ, G, g, S, _, _, w, s, e1, k⟩
theorem tMA_bind {m : M (List D)} {β : Type} {f : List D → M β} {σ : St} {φ : List Addr} {G H : Hp} {g : Gm} {S S' : Store} {r : R β} {Qβ : List Addr → Hp → Hp → β → Prop} {Q : List V → Hp → Prop} (ht : TkOk tk)
    (w : Wd K cl φ S G H) (s : Sl K cl φ G g σ) (e : mB m f g S = some (r, S')) (k : Ko K cl tk φ G H g r S' Qβ)
    (h : ∀ d φ1 G1 H1 S1 v, Step φ G H φ1 G1 H1 → Wd K cl φ1 S1 G1 H1 → Sl K cl φ1 G1 g σ → IsDs K φ1 G1 d v → f d g S1 = some (r, S') → Ko K cl tk φ1 G1 H1 g r S' Qβ → Q v H1) : tMA K cl tk m σ H Q := by
  rcases mB_ok e with ⟨d, S1, e1, e2⟩ | ⟨c, fs, e1, rfl⟩
  · exact ⟨φ, G, g, S, _, _, w, s, e1, fun φ1 G1 H1 st w1 v hv => h d φ1 G1 H1 S1 v st w1 (s.step st) hv e2 (k.step ht st)⟩
  · exact ⟨φ, G, g, S, _, _, w, s, e1, k⟩
/-- a value that is there at once -/
theorem Ko.now {α : Type} {φ : List Addr} {G H : Hp} {g : Gm} {a : α} {S : Store} {Q : List Addr → Hp → Hp → α → Prop} (k : Ko K cl tk φ G H g (.ok a) S Q) (w : Wd K cl φ S G H) : Q φ G H a := k φ G H (Step.refl _ _ _) w

/-! ### names, constants -/
theorem re_var {i : Nat} {x : Str} {pos : Pos} (hN : X.N[i]? = some x := by rfl) (hv : Vis X.env.scope x := by first | exact Or.inl rfl | exact Or.inr (Or.inl rfl) | exact Or.inr (Or.inr rfl)) (hd : (x == ("__debug__" : Str)) = false := by decide)
    (hcd : (x == ("__classdict__" : Str)) = false := by decide) : RE X cl tk (.Name x pos) (mVar i) := by
  refine pe_imp (pe_var hN hv hd hcd) fun σ H Q ⟨φ, G, g, S, r, S', w, s, e, k⟩ => ?_
  unfold mVar at e
  split at e
  · cases e
    obtain ⟨v, h1, h2⟩ := s.at_ _ _ (by assumption)
    exact ⟨v, h1, k.now w v h2⟩
  · cases e
theorem re_c {a : Expr} {v : V} {d : D} (h : PE X a (tC v)) (hd : ∀ φ G, IsD X.K φ G d v) : RE X cl tk a (mP d) := by
  refine pe_imp h fun σ H Q ⟨φ, G, g, S, r, S', w, s, e, k⟩ => ?_
  cases e
  exact k.now w v (hd φ G)
theorem re_int {i j pos} : RE X cl tk (.Constant (.int i) j pos) (mP (.int i)) := re_c pe_int fun _ _ => by simp only [IsD]
theorem re_bl {i j pos} : RE X cl tk (.Constant (.bool i) j pos) (mP (.bl i)) := re_c pe_bl fun _ _ => by simp only [IsD]
theorem re_str {i j pos} : RE X cl tk (.Constant (.str i) j pos) (mP (.str i)) := re_c pe_str fun _ _ => by simp only [IsD]
theorem re_non {j pos} : RE X cl tk (.Constant .none j pos) (mP .non) := re_c pe_non fun _ _ => by simp only [IsD]
theorem re_glob {x : Str} {v : V} {u : Value} {d : D} {pos : Pos} (hm : X.mg x = some u) (r : RelV v u) (hd : ∀ φ G, IsD X.K φ G d v) (hg : Gl X x := by rfl) (hdb : (x == ("__debug__" : Str)) = false := by decide) : RE X cl tk (.Name x pos) (mP d) := re_c (pe_glob hg hm r hdb) hd

/-! ### operators by values -/
/-- what r asks is given by f -/
def OpS (K : PySem.W.Frag) (cl : Cl) (r : R2) (f : Store → D → D → Option D) : Prop :=
  ∀ (φ : List Addr) (S : Store) (G H : Hp) (x y : V) (d e z : D) (Q : VK), Wd K cl φ S G H → IsD K φ G d x → IsD K φ G e y → f S d e = some z →
    (∀ φ' G' H', Step φ G H φ' G' H' → Wd K cl φ' S G' H' → ∀ v, IsD K φ' G' z v → Q v H') → r x y H Q
def UnS (K : PySem.W.Frag) (cl : Cl) (r : V → Hp → VK → Prop) (f : Store → D → Option D) : Prop :=
  ∀ (φ : List Addr) (S : Store) (G H : Hp) (x : V) (d z : D) (Q : VK), Wd K cl φ S G H → IsD K φ G d x → f S d = some z →
    (∀ φ' G' H', Step φ G H φ' G' H' → Wd K cl φ' S G' H' → ∀ v, IsD K φ' G' z v → Q v H') → r x H Q
def CallS (K : PySem.W.Frag) (cl : Cl) (r : List V → Hp → VK → Prop) (f : Store → List D → Option D) : Prop :=
  ∀ (φ : List Addr) (S : Store) (G H : Hp) (xs : List V) (ds : List D) (z : D) (Q : VK), Wd K cl φ S G H → IsDs K φ G ds xs → f S ds = some z →
    (∀ φ' G' H', Step φ G H φ' G' H' → Wd K cl φ' S G' H' → ∀ v, IsD K φ' G' z v → Q v H') → r xs H Q
theorem tOp_of {r : R2} {f : Store → D → D → Option D} {ma mb : M D} (hs : OpS K cl r f) (ht : TkOk tk) {σ : St} {H : Hp} {Q : VK} (h : tM K cl tk (mOp2 f ma mb) σ H Q) : tOp r (tM K cl tk ma) (tM K cl tk mb) σ H Q := by
  obtain ⟨φ, G, g, S, r, S', w, s, e, k⟩ := h
  refine tM_bind ht w s e k fun d φ1 G1 H1 S1 x st1 w1 s1 hx e1 k1 => ?_
  refine tM_bind ht w1 s1 e1 k1 fun d2 φ2 G2 H2 S2 y st2 w2 s2 hy e2 k2 => ?_
  obtain ⟨z, ez, rfl, rfl⟩ := mL_ok e2
  exact hs _ _ _ _ _ _ _ _ _ _ w2 (hx.mono st2.pre st2.ex) hy ez k2
theorem re_op2 {op : Operator} {r : R2} {f : Store → D → D → Option D} {a b : Expr} {pos : Pos} {ma mb : M D} (ho : OpR X (binaryOp op) r) (hs : OpS X.K cl r f) (ha : RE X cl tk a ma) (hb : RE X cl tk b mb) : RE X cl tk (.BinOp a op b pos) (mOp2 f ma mb) :=
  pe_imp (pe_op ho ha hb) fun _ _ _ h => tOp_of hs T.ok h
theorem re_op1 {op : UnaryOp} {r : V → Hp → VK → Prop} {f : Store → D → Option D} {a : Expr} {pos : Pos} {ma : M D} (ho : UnR X (unaryOp op) r) (hs : UnS X.K cl r f) (ha : RE X cl tk a ma) : RE X cl tk (.UnaryOp op a pos) (mOp1 f ma) := by
  refine pe_imp (pe_un ho ha) fun σ H Q ⟨φ, G, g, S, r, S', w, s, e, k⟩ => ?_
  refine tM_bind T.ok w s e k fun d φ1 G1 H1 S1 x st1 w1 s1 hx e1 k1 => ?_
  obtain ⟨z, ez, rfl, rfl⟩ := mL_ok e1
  exact hs _ _ _ _ _ _ _ _ w1 hx ez k1
theorem re_cmp {op : CmpOp} {r : R2} {f : Store → D → D → Option D} {a b : Expr} {pos : Pos} {ma mb : M D} (ho : OpR X (compareOp op) r) (hs : OpS X.K cl r f) (ha : RE X cl tk a ma) (hb : RE X cl tk b mb) (hm : behindInMarks op b = false := by first | exact nomark _ | rfl) :
    RE X cl tk (.Compare a [op] [b] pos) (mOp2 f ma mb) := pe_imp (pe_cmpR ho ha hb hm) fun _ _ _ h => tOp_of hs T.ok h
/-- a bool as a test -/
def mT (m : M D) : M Bool := mB m fun d => mL fun _ => match d with
  | .bl b => some b
  | _ => none
theorem mT_ok {m : M D} {g : Gm} {S S' : Store} {r : R Bool} (h : mT m g S = some (r, S')) : (∃ b, m g S = some (.ok (.bl b), S') ∧ r = .ok b) ∨ (∃ c fs, m g S = some (.exc c fs, S') ∧ r = .exc c fs) := by
  rcases mB_ok h with ⟨d, S1, e1, e2⟩ | ⟨c, fs, e1, rfl⟩
  · obtain ⟨z, ez, rfl, rfl⟩ := mL_ok e2
    cases d <;> first | (cases ez; exact .inl ⟨_, e1, rfl⟩) | cases ez
  · exact .inr ⟨c, fs, e1, rfl⟩
theorem tTest_of {m : M D} {t : TE} {σ : St} {H : Hp} {Q : Bool → Hp → Prop} (h : tMT K cl tk (mT m) σ H Q) (i : ∀ Q, tM K cl tk m σ H Q → t σ H Q) : tTest t σ H Q := by
  obtain ⟨φ, G, g, S, r, S', w, s, e, k⟩ := h
  refine i _ ?_
  rcases mT_ok e with ⟨b, e1, rfl⟩ | ⟨c, fs, e1, rfl⟩
  · refine ⟨φ, G, g, S, _, _, w, s, e1, fun φ1 G1 H1 st w1 v hv => ?_⟩
    simp only [IsD] at hv
    exact ⟨b, hv, k φ1 G1 H1 st w1⟩
  · exact ⟨φ, G, g, S, _, _, w, s, e1, k⟩
theorem rt_cmp {op : CmpOp} {r : R2} {f : Store → D → D → Option D} {a b : Expr} {pos : Pos} {ma mb : M D} (ho : OpR X (compareOp op) r) (hs : OpS X.K cl r f) (ha : RE X cl tk a ma) (hb : RE X cl tk b mb) (hm : behindInMarks op b = false := by first | exact nomark _ | rfl) :
    RT X cl tk (.Compare a [op] [b] pos) (mT (mOp2 f ma mb)) := pt_imp (pt_cmpR ho ha hb hm) fun _ _ _ h => tTest_of h fun _ q => tOp_of hs T.ok q
/-- an expression that gives a bool, as a test -/
theorem rt_val {e : Expr} {m : M D} (h : RE X cl tk e m) (he : ∀ whole, isTrue e X.env whole = (do let v ← whole; standAt e.pos; holding [v] (truthy v)) := by intro _; rfl) : RT X cl tk e (mT m) :=
  pt_imp (pt_val h he) fun _ _ _ h => tTest_of h fun _ q => q
/-- a <= b < c -/
def mCh (f f' : Store → D → D → Option D) (ma mb mc : M D) : M D := mB ma fun x => mB mb fun y => mB (mL fun S => f S x y) fun z => match z with
  | .bl true => mB mc fun u => mL fun S => f' S y u
  | .bl false => mP (.bl false)
  | _ => fun _ _ => none
/-- a two-place relation that gives a bool and leaves all as it is -/
def RelS (K : PySem.W.Frag) (cl : Cl) (r : R2) (f : Store → D → D → Option D) : Prop :=
  ∀ (φ : List Addr) (S : Store) (G H : Hp) (x y : V) (d e z : D) (Q : VK), Wd K cl φ S G H → IsD K φ G d x → IsD K φ G e y → f S d e = some z → (∃ b, z = .bl b ∧ (Q (.bl b) H → r x y H Q))
theorem RelS.op {r : R2} {f : Store → D → D → Option D} (h : RelS K cl r f) : OpS K cl r f := fun φ S G H x y d e z Q w h1 h2 h3 k => by
  obtain ⟨b, rfl, i⟩ := h φ S G H x y d e z Q w h1 h2 h3
  exact i (k φ G H (Step.refl _ _ _) w _ (by simp only [IsD]))
theorem tChain_of {r r' : R2} {f f' : Store → D → D → Option D} {ma mb mc : M D} (hs : RelS K cl r f) (hs' : RelS K cl r' f') (ht : TkOk tk) {σ : St} {H : Hp} {Q : VK} (h : tM K cl tk (mCh f f' ma mb mc) σ H Q) :
    tChain r r' (tM K cl tk ma) (tM K cl tk mb) (tM K cl tk mc) σ H Q := by
  obtain ⟨φ, G, g, S, r, S', w, s, e, k⟩ := h
  refine tM_bind ht w s e k fun d φ1 G1 H1 S1 x st1 w1 s1 hx e1 k1 => ?_
  refine tM_bind ht w1 s1 e1 k1 fun d2 φ2 G2 H2 S2 y st2 w2 s2 hy e2 k2 => ?_
  rcases mB_ok e2 with ⟨z, S3, e3, e4⟩ | ⟨c, fs, e3, rfl⟩
  · obtain ⟨z', ez, e5, rfl⟩ := mL_ok e3
    cases e5
    obtain ⟨b, rfl, i⟩ := hs _ _ _ _ _ _ _ _ _ _ w2 (hx.mono st2.pre st2.ex) hy ez
    refine i ⟨b, rfl, ?_⟩
    cases b with
    | true =>
      rw [if_pos rfl]
      refine tM_bind ht w2 s2 e4 k2 fun d3 φ3 G3 H3 S3 u st3 w3 s3 hu e6 k3 => ?_
      obtain ⟨z, ez', rfl, rfl⟩ := mL_ok e6
      exact hs'.op _ _ _ _ _ _ _ _ _ _ w3 (hy.mono st3.pre st3.ex) hu ez' k3
    | false =>
      rw [if_neg Bool.false_ne_true]
      cases e4
      exact k2.now w2 _ (by simp only [IsD])
  · obtain ⟨_, _, q, _⟩ := mL_ok e3
    cases q
theorem re_chain {op op' : CmpOp} {r r' : R2} {f f' : Store → D → D → Option D} {a b c : Expr} {pos : Pos} {ma mb mc : M D} (ho : OpR X (compareOp op) r) (ho' : OpR X (compareOp op') r') (hs : RelS X.K cl r f) (hs' : RelS X.K cl r' f')
    (ha : RE X cl tk a ma) (hb : RE X cl tk b mb) (hc : RE X cl tk c mc) (hm : lastMarks [op, op'] [b, c] = false := by with_unfolding_all rfl) :
    RE X cl tk (.Compare a [op, op'] [b, c] pos) (mCh f f' ma mb mc) := by
  refine pe_imp (pe_chain ho ho' ha hb hc hm) fun _ _ _ h => tChain_of hs hs' T.ok h
theorem rt_chain {op op' : CmpOp} {r r' : R2} {f f' : Store → D → D → Option D} {a b c : Expr} {pos : Pos} {ma mb mc : M D} (ho : OpR X (compareOp op) r) (ho' : OpR X (compareOp op') r') (hs : RelS X.K cl r f) (hs' : RelS X.K cl r' f')
    (ha : RE X cl tk a ma) (hb : RE X cl tk b mb) (hc : RE X cl tk c mc) (hm : lastMarks [op, op'] [b, c] = false := by with_unfolding_all rfl) :
    RT X cl tk (.Compare a [op, op'] [b, c] pos) (mT (mCh f f' ma mb mc)) :=
  pt_imp (pt_chain ho ho' ha hb hc hm) fun _ _ _ h => tTest_of h fun _ q => tChain_of hs hs' T.ok q
end
end Mi
namespace Mi
open PySem L2
section
variable {X : Cx} {cl : Cl} {tk : WX → Prop} [T : Tk X tk]
variable {K : PySem.W.Frag}

/-! ### and, or, not, if as an expression -/
def mAndT (m n : M Bool) : M Bool := mB m fun b => if b = true then n else mP false
def mOrT (m n : M Bool) : M Bool := mB m fun b => if b = true then mP true else n
def mNotT (m : M Bool) : M Bool := mB m fun b => mP (!b)
theorem rw_and1 {a : Expr} {pos : Pos} {m : M Bool} (ha : RT X cl tk a m) : RW X cl tk (.BoolOp .And [a] pos) m := pw_and1 ha
theorem rw_or1 {a : Expr} {pos : Pos} {m : M Bool} (ha : RT X cl tk a m) : RW X cl tk (.BoolOp .Or [a] pos) m := pw_or1 ha
theorem rw_and {a b : Expr} {rest : List Expr} {pos : Pos} {m n : M Bool} (ha : RT X cl tk a m) (hb : RW X cl tk (.BoolOp .And (b :: rest) pos) n) : RW X cl tk (.BoolOp .And (a :: b :: rest) pos) (mAndT m n) := by
  refine pw_imp (pw_and ha hb) fun σ H Q ⟨φ, G, g, S, r, S', w, s, e, k⟩ => ?_
  refine tMT_bind T.ok w s e k fun d φ1 G1 H1 S1 st1 w1 s1 e1 k1 => ?_
  cases d with
  | true =>
    rw [if_pos rfl] at e1 ⊢
    exact ⟨_, _, _, _, _, _, w1, s1, e1, k1⟩
  | false =>
    rw [if_neg Bool.false_ne_true] at e1 ⊢
    cases e1
    exact k1.now w1
theorem rw_or {a b : Expr} {rest : List Expr} {pos : Pos} {m n : M Bool} (ha : RT X cl tk a m) (hb : RW X cl tk (.BoolOp .Or (b :: rest) pos) n) : RW X cl tk (.BoolOp .Or (a :: b :: rest) pos) (mOrT m n) := by
  refine pw_imp (pw_or ha hb) fun σ H Q ⟨φ, G, g, S, r, S', w, s, e, k⟩ => ?_
  refine tMT_bind T.ok w s e k fun d φ1 G1 H1 S1 st1 w1 s1 e1 k1 => ?_
  cases d with
  | true =>
    rw [if_pos rfl] at e1 ⊢
    cases e1
    exact k1.now w1
  | false =>
    rw [if_neg Bool.false_ne_true] at e1 ⊢
    exact ⟨_, _, _, _, _, _, w1, s1, e1, k1⟩
theorem rt_w {a : Expr} {m : M Bool} (h : RW X cl tk a m) : RT X cl tk a m := h.pt
theorem rt_not {a : Expr} {pos : Pos} {m : M Bool} (ha : RT X cl tk a m) : RT X cl tk (.UnaryOp .Not a pos) (mNotT m) := by
  refine pt_imp (pt_not ha) fun σ H Q ⟨φ, G, g, S, r, S', w, s, e, k⟩ => ?_
  refine tMT_bind T.ok w s e k fun d φ1 G1 H1 S1 st1 w1 s1 e1 k1 => ?_
  cases e1
  exact k1.now w1
/-- as values (bools) -/
def mBl (m : M D) (f : Bool → M D) : M D := mB m fun d => match d with
  | .bl b => f b
  | _ => fun _ _ => none
def mAndV (m n : M D) : M D := mBl m fun b => if b = true then n else mP (.bl false)
def mOrV (m n : M D) : M D := mBl m fun b => if b = true then mP (.bl true) else n
def mNotV (m : M D) : M D := mBl m fun b => mP (.bl (!b))
theorem re_one {op} {a : Expr} {pos : Pos} {m : M D} (h : RE X cl tk a m) : RE X cl tk (.BoolOp op [a] pos) m := pe_one h
theorem tM_bl {m : M D} {f : Bool → M D} {σ : St} {φ : List Addr} {G H : Hp} {g : Gm} {S S' : Store} {r : R D} {Qβ : List Addr → Hp → Hp → D → Prop} {Q : VK} (ht : TkOk tk)
    (w : Wd K cl φ S G H) (s : Sl K cl φ G g σ) (e : mBl m f g S = some (r, S')) (k : Ko K cl tk φ G H g r S' Qβ)
    (h : ∀ b φ1 G1 H1 S1, Step φ G H φ1 G1 H1 → Wd K cl φ1 S1 G1 H1 → Sl K cl φ1 G1 g σ → f b g S1 = some (r, S') → Ko K cl tk φ1 G1 H1 g r S' Qβ → Q (.bl b) H1) : tM K cl tk m σ H Q :=
  tM_bind ht w s e k fun d φ1 G1 H1 S1 v st1 w1 s1 hv e1 k1 => by
    cases d <;> first | (cases e1; done) | (simp only [IsD] at hv; subst hv; exact h _ _ _ _ _ st1 w1 s1 e1 k1)
theorem re_and {a b : Expr} {rest : List Expr} {pos : Pos} {m n : M D} (ha : RE X cl tk a m) (hb : RE X cl tk (.BoolOp .And (b :: rest) pos) n) : RE X cl tk (.BoolOp .And (a :: b :: rest) pos) (mAndV m n) := by
  refine pe_imp (pe_and ha hb) fun σ H Q ⟨φ, G, g, S, r, S', w, s, e, k⟩ => ?_
  refine tM_bl T.ok w s e k fun d φ1 G1 H1 S1 st1 w1 s1 e1 k1 => ⟨d, rfl, ?_⟩
  cases d with
  | true =>
    rw [if_pos rfl] at e1 ⊢
    exact ⟨_, _, _, _, _, _, w1, s1, e1, k1⟩
  | false =>
    rw [if_neg Bool.false_ne_true] at e1 ⊢
    cases e1
    exact k1.now w1 _ (by simp only [IsD])
theorem re_or {a b : Expr} {rest : List Expr} {pos : Pos} {m n : M D} (ha : RE X cl tk a m) (hb : RE X cl tk (.BoolOp .Or (b :: rest) pos) n) : RE X cl tk (.BoolOp .Or (a :: b :: rest) pos) (mOrV m n) := by
  refine pe_imp (pe_or ha hb) fun σ H Q ⟨φ, G, g, S, r, S', w, s, e, k⟩ => ?_
  refine tM_bl T.ok w s e k fun d φ1 G1 H1 S1 st1 w1 s1 e1 k1 => ⟨d, rfl, ?_⟩
  cases d with
  | true =>
    rw [if_pos rfl] at e1 ⊢
    cases e1
    exact k1.now w1 _ (by simp only [IsD])
  | false =>
    rw [if_neg Bool.false_ne_true] at e1 ⊢
    exact ⟨_, _, _, _, _, _, w1, s1, e1, k1⟩
theorem re_not {a : Expr} {pos : Pos} {m : M D} (ha : RE X cl tk a m) : RE X cl tk (.UnaryOp .Not a pos) (mNotV m) := by
  refine pe_imp (pe_not ha) fun σ H Q ⟨φ, G, g, S, r, S', w, s, e, k⟩ => ?_
  refine tM_bl T.ok w s e k fun d φ1 G1 H1 S1 st1 w1 s1 e1 k1 => ⟨d, rfl, ?_⟩
  cases e1
  exact k1.now w1 _ (by simp only [IsD])
def mIf (c : M Bool) (m n : M D) : M D := mB c fun b => if b = true then m else n
theorem re_if {c a b : Expr} {pos : Pos} {mc : M Bool} {m n : M D} (hc : RT X cl tk c mc) (ha : RE X cl tk a m) (hb : RE X cl tk b n) : RE X cl tk (.IfExp c a b pos) (mIf mc m n) := by
  refine pe_imp (pe_ifExp hc ha hb) fun σ H Q ⟨φ, G, g, S, r, S', w, s, e, k⟩ => ?_
  refine tMT_bind T.ok w s e k fun d φ1 G1 H1 S1 st1 w1 s1 e1 k1 => ?_
  cases d with
  | true =>
    rw [if_pos rfl] at e1 ⊢
    exact ⟨_, _, _, _, _, _, w1, s1, e1, k1⟩
  | false =>
    rw [if_neg Bool.false_ne_true] at e1 ⊢
    exact ⟨_, _, _, _, _, _, w1, s1, e1, k1⟩

/-! ### argument lists, displays -/
def mNil : M (List D) := mP []
def mCons (m : M D) (n : M (List D)) : M (List D) := mB m fun d => mB n fun ds => mP (d :: ds)
theorem ra_nil : RA X cl tk [] mNil := by
  refine pa_imp pa_nil fun σ H Q ⟨φ, G, g, S, r, S', w, s, e, k⟩ => ?_
  cases e
  exact k.now w _ .nil
theorem ra_cons {a : Expr} {es : List Expr} {m : M D} {n : M (List D)} (ha : RE X cl tk a m) (hr : RA X cl tk es n) (hs : starEach (a :: es) X.env = (false, eval a X.env) :: starEach es X.env := by rfl) : RA X cl tk (a :: es) (mCons m n) := by
  refine pa_imp (pa_cons ha hr hs) fun σ H Q ⟨φ, G, g, S, r, S', w, s, e, k⟩ => ?_
  refine tM_bind T.ok w s e k fun d φ1 G1 H1 S1 x st1 w1 s1 hx e1 k1 => ?_
  refine tMA_bind T.ok w1 s1 e1 k1 fun ds φ2 G2 H2 S2 xs st2 w2 s2 hxs e2 k2 => ?_
  cases e2
  exact k2.now w2 _ (.cons (hx.mono st2.pre st2.ex) hxs)
/-- a bound, not to be run by the kernel -/
noncomputable def cdec (p : Prop) : Bool := @decide p (Classical.propDecidable p)
theorem cdec_iff {p : Prop} : cdec p = true ↔ p := @decide_eq_true_iff p (Classical.propDecidable p)
@[simp] theorem cdec_eq {p : Prop} : (cdec p = true) = p := propext cdec_iff
noncomputable def szOk (n : Nat) : Bool := cdec (n ≤ 16777216)
theorem szOk_le {n : Nat} (h : szOk n = true) : n ≤ sizeLine := by rw [sizeLine_eq]; exact cdec_iff.mp h
noncomputable def fTup : Store → List D → Option D := fun _ ds => if szOk ds.length = true then some (.tup ds) else none
noncomputable def fLst : Store → List D → Option D := fun _ ds => if szOk ds.length = true then some (.lst ds) else none
def mOpA (f : Store → List D → Option D) (m : M (List D)) : M D := mB m fun ds => mL fun S => f S ds
theorem re_tup {es : List Expr} {k : Nat} {pos : Pos} {m : M (List D)} (h : RA X cl tk es m) : RE X cl tk (.Tuple es k pos) (mOpA fTup m) := by
  refine pe_imp (pe_tup h) fun σ H Q ⟨φ, G, g, S, r, S', w, s, e, k⟩ => ?_
  refine tMA_bind T.ok w s e k fun d φ1 G1 H1 S1 x st1 w1 s1 hx e1 k1 => ?_
  obtain ⟨z, ez, rfl, rfl⟩ := mL_ok e1
  unfold fTup at ez
  split at ez
  · rename_i hz
    cases ez
    exact ⟨by rw [← hx.length]; exact szOk_le hz, new_tup w1 hx k1⟩
  · cases ez
theorem re_lst {es : List Expr} {pos : Pos} {m : M (List D)} (h : RA X cl tk es m) : RE X cl tk (.List es pos) (mOpA fLst m) := by
  refine pe_imp (pe_lst h) fun σ H Q ⟨φ, G, g, S, r, S', w, s, e, k⟩ => ?_
  refine tMA_bind T.ok w s e k fun d φ1 G1 H1 S1 x st1 w1 s1 hx e1 k1 => ?_
  obtain ⟨z, ez, rfl, rfl⟩ := mL_ok e1
  unfold fLst at ez
  split at ez
  · rename_i hz
    cases ez
    exact ⟨by rw [← hx.length]; exact szOk_le hz, new_lst w1 hx k1⟩
  · cases ez

/-! ### new cells -/
theorem cell_step (w : Wd K cl φ S G H) {p : Addr} (hp : H p = none) (o : HO) : Step φ G H (φ ++ [p]) G (upd H p o) where
  pre := List.prefix_append _ _
  ex := Ex.refl _
  gn := fun a h => .inl h
  keep := fun a u h _ => Ex.new hp a u h
  new := fun a h => by
    rcases List.mem_append.mp h with h | h
    · exact .inl h
    · rw [List.mem_singleton.mp h]; exact .inr hp
theorem cell_wd {φ : List Addr} {S : Store} {G H : Hp} (w : Wd K cl φ S G H) {p : Addr} (hp : H p = none) {o : HO} {c : Cell} (hc : ∀ φ' G' H', φ <+: φ' → Ex G G' → H' p = some o → CellOk K cl φ' G' H' p c) : Wd K cl (φ ++ [p]) (S ++ [c]) G (upd H p o) where
  len := by simp [w.len]
  iv := w.iv
  sub := fun a u h => Ex.new hp a u (w.sub a u h)
  nd := by
    refine List.nodup_append.mpr ⟨w.nd, by simp, fun a ha b hb e => ?_⟩
    rw [List.mem_singleton.mp hb] at e
    exact w.tr a ha (by rw [e]; exact hp)
  tr := fun a h => by
    by_cases e : a = p
    · subst e; rw [upd_same]; simp
    · rw [upd_ne e]
      rcases List.mem_append.mp h with h | h
      · exact w.tr a h
      · exact absurd (List.mem_singleton.mp h) e
  ap := fun i c' a h1 h2 h3 => by
    by_cases hi : i < S.length
    · rw [List.getElem?_append_left hi] at h1
      rw [List.getElem?_append_left (by rw [w.len]; exact hi)] at h2
      exact w.ap i c' a h1 h2 h3
    · rw [List.getElem?_append_right (by rw [w.len]; omega)] at h2
      have : i - φ.length = 0 := by
        have := (List.getElem?_eq_some_iff.mp h2).1
        simp at this; omega
      rw [this] at h2
      simp at h2; subst h2
      exact w.gnone hp
  ok := fun i c' a h1 h2 => by
    by_cases hi : i < S.length
    · rw [List.getElem?_append_left hi] at h1
      rw [List.getElem?_append_left (by rw [w.len]; exact hi)] at h2
      exact (w.ok i c' a h1 h2).mono (List.prefix_append _ _) (Ex.refl _) (Ex.new hp a)
    · rw [List.getElem?_append_right (by omega)] at h1
      rw [List.getElem?_append_right (by rw [w.len]; omega)] at h2
      have e0 : i - S.length = 0 := by
        have := (List.getElem?_eq_some_iff.mp h1).1
        simp at this; omega
      rw [w.len, e0] at h2
      rw [e0] at h1
      simp at h1 h2; subst h1 h2
      exact hc _ _ _ (List.prefix_append _ _) (Ex.refl _) upd_same
theorem cell_ref {φ : List Addr} {G : Hp} {p : Addr} {n : Nat} (h : φ.length = n) : IsD K (φ ++ [p]) G (.ref n) (.ref p) := by
  simp only [IsD]
  exact ⟨p, rfl, by rw [List.getElem?_append_right (by omega)]; simp [h]⟩
/-- [..] as a cell of the store -/
noncomputable def mNewL (m : M (List D)) : M D := mB m fun ds => fun _ S => if szOk ds.length = true then some (.ok (.ref S.length), S ++ [.lst ds]) else none
theorem re_lstM {es : List Expr} {pos : Pos} {m : M (List D)} (h : RA X cl tk es m) : RE X cl tk (.List es pos) (mNewL m) := by
  refine pe_imp (pe_lst h) fun σ H Q ⟨φ, G, g, S, r, S', w, s, e, k⟩ => ?_
  refine tMA_bind T.ok w s e k fun d φ1 G1 H1 S1 x st1 w1 s1 hx e1 k1 => ?_
  split at e1
  · rename_i hz
    cases e1
    refine ⟨by rw [← hx.length]; exact szOk_le hz, fun p hp => ?_⟩
    exact k1 _ _ _ (cell_step w1 hp _) (cell_wd w1 hp fun φ' G' H' p1 p2 h3 => ⟨_, h3, hx.mono p1 p2⟩) _ (cell_ref w1.len)
  · cases e1

/-! ### subscripts -/
def asL (S : Store) : D → Option (List D)
  | .lst l => some l
  | .tup l => some l
  | .ref i => match S[i]? with
    | some (.lst l) => some l
    | _ => none
  | _ => none
def asLL (S : Store) : D → Option (List D)
  | .lst l => some l
  | .ref i => match S[i]? with
    | some (.lst l) => some l
    | _ => none
  | _ => none
theorem asLL_sq {φ : List Addr} {S : Store} {G H : Hp} (w : Wd K cl φ S G H) {d : D} {v : V} {l : List D} (h : IsD K φ G d v) (e : asLL S d = some l) :
    ∃ a xs, v = .ref a ∧ H a = some (.lst xs) ∧ IsDs K φ G l xs := by
  cases d <;> simp only [asLL] at e <;> try (cases e; done)
  · cases e
    simp only [IsD] at h
    obtain ⟨a, xs, h1, h2, h3⟩ := h
    exact ⟨a, xs, h1, w.sub _ _ h2, h3⟩
  · split at e
    · cases e
      rename_i i l hi
      simp only [IsD] at h
      obtain ⟨a, h1, h2⟩ := h
      obtain ⟨vs, h3, h4⟩ := w.ok _ _ _ hi h2
      exact ⟨a, vs, h1, h3, h4⟩
    · cases e
theorem asL_sq {φ : List Addr} {S : Store} {G H : Hp} (w : Wd K cl φ S G H) {d : D} {v : V} {l : List D} (h : IsD K φ G d v) (e : asL S d = some l) :
    ∃ a xs, v = .ref a ∧ (SqL K H a xs ∨ SqT K H a xs) ∧ IsDs K φ G l xs := by
  cases d <;> simp only [asL] at e <;> try (cases e; done)
  · cases e
    simp only [IsD] at h
    obtain ⟨a, xs, h1, h2, h3⟩ := h
    exact ⟨a, xs, h1, .inr (Ex.t w.sub h2), h3⟩
  · cases e
    simp only [IsD] at h
    obtain ⟨a, xs, h1, h2, h3⟩ := h
    exact ⟨a, xs, h1, .inl (SqL.of (w.sub _ _ h2)), h3⟩
  · split at e
    · cases e
      rename_i i l hi
      simp only [IsD] at h
      obtain ⟨a, h1, h2⟩ := h
      obtain ⟨vs, h3, h4⟩ := w.ok _ _ _ hi h2
      exact ⟨a, vs, h1, .inl (SqL.of h3), h4⟩
    · cases e
noncomputable def fIx : Store → D → D → Option D := fun S d e => match d, e with
  | .str z, .int i => if szOk z.length = true then (atI z.cps.toList i).map fun c => .str ⟨#[c]⟩ else none
  | d, .int i => (asL S d).bind fun l => atI l i
  | _, _ => none
theorem atI_of {l : List D} {xs : List V} {i : Int} {d : D} {φ : List Addr} {G : Hp} (h : IsDs K φ G l xs) (e : atI l i = some d) : ∃ v, atI xs i = some v ∧ IsD K φ G d v := by
  unfold atI at e ⊢
  rw [← h.length]
  cases q : ixN l.length i with
  | none => rw [q] at e; cases e
  | some j =>
    rw [q] at e
    exact h.get e
theorem fIx_ok : OpS K cl (rIx K) fIx := fun φ S G H x y d0 e z Q w h1 h2 h3 k => by
  unfold fIx at h3
  split at h3
  · rename_i z' i
    split at h3
    · rename_i hz
      simp only [IsD] at h1 h2
      subst h1 h2
      cases q : atI z'.cps.toList i with
      | none => rw [q] at h3; cases h3
      | some c =>
        rw [q] at h3
        cases h3
        exact .inr (.inr ⟨z', i, c, rfl, rfl, szOk_le hz, q, k _ _ _ (Step.refl _ _ _) w _ (by simp only [IsD])⟩)
    · cases h3
  · rename_i d i _
    simp only [IsD] at h2
    subst h2
    cases q : asL S d0 with
    | none => rw [q] at h3; cases h3
    | some l =>
      rw [q] at h3
      have h3' : atI l i = some z := h3
      obtain ⟨a, xs, rfl, h4, h5⟩ := asL_sq w h1 q
      obtain ⟨v, h6, h7⟩ := atI_of h5 h3'
      rcases h4 with h4 | h4
      · exact .inl ⟨a, xs, i, v, rfl, rfl, h4, h6, k _ _ _ (Step.refl _ _ _) w _ h7⟩
      · exact .inr (.inl ⟨a, xs, i, v, rfl, rfl, h4, h6, k _ _ _ (Step.refl _ _ _) w _ h7⟩)
  · cases h3
theorem re_ix {a b : Expr} {pos : Pos} {ma mb : M D} (ha : RE X cl tk a ma) (hb : RE X cl tk b mb) (hs : PlainIx b := by exact fun _ _ => rfl) : RE X cl tk (.Subscript a b pos) (mOp2 fIx ma mb) :=
  pe_imp (pe_ix ix_seq ha hb hs) fun _ _ _ h => tOp_of fIx_ok T.ok h

/-! ### slices -/
abbrev RO (X : Cx) (cl : Cl) (tk : WX → Prop) (a : Option Expr) (m : M (Option Int)) : Prop :=
  PO X a fun σ H Q => ∃ φ G g S r S', Wd X.K cl φ S G H ∧ Sl X.K cl φ G g σ ∧ m g S = some (r, S') ∧ Ko X.K cl tk φ G H g r S' fun _ _ H' o => Q o H'
def mPart (m : M D) : M (Option Int) := mB m fun d => mL fun _ => match d with
  | .int i => some (some i)
  | _ => none
theorem po_imp {a : Option Expr} {t t' : TO} (h : PO X a t) (i : ∀ σ H Q, t' σ H Q → t σ H Q) : PO X a t' := ⟨fun pins s σ H Q I q => h.run pins s σ H Q I (i σ H Q q)⟩
theorem ro_none : RO X cl tk none (mP none) := by
  refine po_imp po_none fun σ H Q ⟨φ, G, g, S, r, S', w, s, e, k⟩ => ?_
  cases e
  exact k.now w
theorem ro_some {a : Expr} {m : M D} (h : RE X cl tk a m) : RO X cl tk (some a) (mPart m) := by
  refine po_imp (po_some h) fun σ H Q ⟨φ, G, g, S, r, S', w, s, e, k⟩ => ?_
  refine tM_bind T.ok w s e k fun d φ1 G1 H1 S1 x st1 w1 s1 hx e1 k1 => ?_
  obtain ⟨z, ez, rfl, rfl⟩ := mL_ok e1
  cases d <;> first | (cases ez; done) | skip
  cases ez
  simp only [IsD] at hx
  exact ⟨_, hx, k1.now w1⟩
def cutD (xs : List D) (lo hi : Option Int) : List D := (xs.drop (HT.sIx xs.length 0 lo)).take (HT.sIx xs.length xs.length hi - HT.sIx xs.length 0 lo)
noncomputable def fSl (S : Store) (d : D) (lo hi : Option Int) : Option D := match d with
  | .str z => if szOk z.length = true then some (.str (cutS z lo hi)) else none
  | .tup l => if HT.sIx l.length 0 lo = 0 ∧ HT.sIx l.length l.length hi = l.length then none else some (.tup (cutD l lo hi))
  | d => (asLL S d).map fun l => .lst (cutD l lo hi)
theorem IsDs.cut {φ : List Addr} {G : Hp} {l : List D} {xs : List V} (lo hi : Option Int) (h : IsDs K φ G l xs) : IsDs K φ G (cutD l lo hi) (cutV xs lo hi) := by
  unfold cutD cutV
  rw [← h.length]
  exact (h.drop _).take _
def rSl (K : PySem.W.Frag) : V → Option Int → Option Int → Hp → VK → Prop := fun x lo hi H Q => rSlL K x lo hi H Q ∨ rSlT K x lo hi H Q ∨ rSlS x lo hi H Q
theorem sl_seq : SlR X (rSl X.K) := sl_list.or (sl_tup.or sl_str)
noncomputable def mSl (m : M D) (lo hi : M (Option Int)) : M D := mB m fun d => mB lo fun l => mB hi fun h => mL fun S => fSl S d l h
theorem fSl_ok {φ : List Addr} {S : Store} {G H : Hp} {x : V} {d z : D} {lo hi : Option Int} {Q : VK} (w : Wd K cl φ S G H) (h1 : IsD K φ G d x) (h3 : fSl S d lo hi = some z)
    (k : ∀ φ' G' H', Step φ G H φ' G' H' → Wd K cl φ' S G' H' → ∀ v, IsD K φ' G' z v → Q v H') : rSl K x lo hi H Q := by
  unfold fSl at h3
  split at h3
  · split at h3
    · rename_i hz
      cases h3
      simp only [IsD] at h1
      exact .inr (.inr ⟨_, h1, szOk_le hz, k _ _ _ (Step.refl _ _ _) w _ (by simp only [IsD])⟩)
    · cases h3
  · split at h3
    · cases h3
    · rename_i l hz
      cases h3
      simp only [IsD] at h1
      obtain ⟨a, xs, rfl, h4, h5⟩ := h1
      refine .inr (.inl ⟨a, xs, rfl, Ex.t w.sub h4, by rw [← h5.length]; exact hz, new_tup w (h5.cut lo hi) k⟩)
  · cases q : asLL S d with
    | none => rw [q] at h3; cases h3
    | some l =>
      rw [q] at h3
      cases h3
      obtain ⟨a, xs, rfl, h4, h5⟩ := asLL_sq w h1 q
      exact .inl ⟨a, xs, rfl, SqL.of h4, new_lst w (h5.cut lo hi) k⟩
theorem re_sl {a : Expr} {lo hi : Option Expr} {p2 pos : Pos} {m : M D} {ml mh : M (Option Int)} (ha : RE X cl tk a m) (hl : RO X cl tk lo ml) (hh : RO X cl tk hi mh) : RE X cl tk (.Subscript a (.Slice lo hi none p2) pos) (mSl m ml mh) := by
  refine pe_imp (pe_slice sl_seq ha hl hh) fun σ H Q ⟨φ, G, g, S, r, S', w, s, e, k⟩ => ?_
  refine tM_bind T.ok w s e k fun d φ1 G1 H1 S1 x st1 w1 s1 hx e1 k1 => ?_
  rcases mB_ok e1 with ⟨l, S2, e2, e3⟩ | ⟨c, fs, e2, rfl⟩
  · refine ⟨φ1, G1, g, S1, _, _, w1, s1, e2, fun φ2 G2 H2 st2 w2 => ?_⟩
    rcases mB_ok e3 with ⟨h, S3, e4, e5⟩ | ⟨c, fs, e4, rfl⟩
    · refine ⟨φ2, G2, g, S2, _, _, w2, s1.step st2, e4, fun φ3 G3 H3 st3 w3 => ?_⟩
      obtain ⟨z, ez, rfl, rfl⟩ := mL_ok e5
      exact fSl_ok w3 (hx.mono (st2.trans st3).pre (st2.trans st3).ex) ez (k1.step T.ok (st2.trans st3))
    · exact ⟨φ2, G2, g, S2, _, _, w2, s1.step st2, e4, k1.step T.ok st2⟩
  · exact ⟨φ1, G1, g, S1, _, _, w1, s1, e2, k1⟩
end
end Mi
namespace Mi
open PySem L2
open PyProof.Rows (envOfC)

/-! ### a def's promise -/
/-- def f promises what m gives -/
def spM (K : PySem.W.Frag) (cl : Cl) (m : MF) : Sp := fun vs H Q E => ∃ φ G S ds r S', Wd K cl φ S G H ∧ IsDs K φ G ds vs ∧ m ds S = some (r, S') ∧
  match r with
  | .ok d => ∀ φ' G' H', Step φ G H φ' G' H' → Wd K cl φ' S' G' H' → ∀ v, IsD K φ' G' d v → Q v H'
  | .exc c fs => ∀ cls dd φ' G' H', wE K cl φ G H S' c fs cls dd φ' G' H' → E cls dd H'
/-- N names, the first np the parameters -/
def mFn (N np : Nat) (b : MS) : MF := fun ds S => if ds.length = np then
    match b (ds.map some ++ List.replicate (N - np) none) S with
    | some (.rt d, S') => some (.ok d, S')
    | some (.nx _, S') => some (.ok .non, S')
    | some (.ex _ c fs, S') => some (.exc c fs, S')
    | _ => none
  else none
theorem sl_start {K : PySem.W.Frag} {cl : Cl} (hh : cl.hd = none) {φ : List Addr} {G : Hp} {N : List Str} : ∀ {ds : List D} {vs : List V}, IsDs K φ G ds vs → Sl K cl φ G (ds.map some ++ List.replicate (N.length - vs.length) none) (L2.start N vs) := fun {ds vs} h => by
  unfold L2.start
  refine ⟨by simp [h.length], fun i d e => ?_, fun i a hj => by rw [hh] at hj; cases hj⟩
  by_cases hi : i < ds.length
  · rw [List.getElem?_append_left (by simpa using hi), List.getElem?_map] at e
    rw [List.getElem?_append_left (by simpa [← h.length] using hi), List.getElem?_map]
    cases q : ds[i]? with
    | none => rw [q] at e; cases e
    | some d' =>
      rw [q] at e
      cases e
      obtain ⟨v, h1, h2⟩ := h.get q
      exact ⟨v, by rw [h1]; rfl, h2⟩
  · rw [List.getElem?_append_right (by simpa using hi), List.getElem?_replicate] at e
    split at e <;> cases e
theorem fn_ok {P : Program} {w : World} {K : PySem.W.Frag} {mg : Str → Option Value} {base : Heap} {cl : Cl} {x qual : Str} {st : Stmt} {f : Addr} {fd : FuncData} {N ps : List Str} {k : Nat} {mb : MS}
    (hh : cl.hd = none) (F : Fun K x qual st f fd) (S : FnScope N ps (defScope st))
    (hb : ∀ (cdv : Value) (A : Around) (outer : List Env) (s : Shared) (H : Hp) (E : XK), Room k (A.deeper (envOfC qual (defScope st) s.heap.objs.size f cdv)) →
      RSs (cxOf (L2.CX P w) P w K mg base N qual (defScope st) f cdv A outer s H E) cl (Takes (cxOf (L2.CX P w) P w K mg base N qual (defScope st) f cdv A outer s H E)) (defBody st) mb) :
    FnOk P w K mg base (L2.CX P w) (k + 1) f fd ps (spM K cl (mFn N.length ps.length mb)) := by
  refine F.okX S (fun vs H Q E h => ?_) (fun cdv A outer s H vs Q E hr h => ⟨_, hb cdv A outer s H E hr, ?_⟩)
  · obtain ⟨φ, G, S, ds, r, S', w, hd, e, _⟩ := h
    unfold mFn at e
    split at e
    · rename_i hl; rw [← hd.length]; exact hl
    · cases e
  · obtain ⟨φ, G, S, ds, r, S', w, hd, e, k⟩ := h
    unfold mFn at e
    split at e
    · rename_i hl
      have sl := sl_start (N := N) hh hd
      rw [← hd.length, hl] at sl
      split at e
      · rename_i d S1 q
        cases e
        exact ⟨φ, G, _, S, _, _, w, sl, q, fun φ' G' H' st w' v hv => k φ' G' H' st w' v hv⟩
      · rename_i d S1 q
        cases e
        exact ⟨φ, G, _, S, _, _, w, sl, q, fun φ' G' H' st w' v hv => k φ' G' H' st w' _ (by simp only [IsD])⟩
      · rename_i c fs S1 q
        cases e
        refine ⟨φ, G, _, S, _, _, w, sl, q, ?_⟩
        exact Takes.imp (takes_of (E := E) rfl rfl rfl rfl) fun cls d σ H' ⟨φ', G', hw, _⟩ => k cls d φ' G' H' hw
      · cases e
    · cases e

section
variable {X : Cx} {cl : Cl} {tk : WX → Prop} [T : Tk X tk]
variable {K : PySem.W.Frag}
/-! ### a call -/
def mCall (mf : MF) (ma : M (List D)) : M D := mB ma fun ds => fun _ S => mf ds S
def EofR (K : PySem.W.Frag) (cl : Cl) (φ : List Addr) (G H : Hp) (S' : Store) : R D → XK
  | .ok _ => fun _ _ _ => False
  | .exc c fs => fun cls dd H' => ∃ φ' G', wE K cl φ G H S' c fs cls dd φ' G' H'
theorem run_fnM {k : Nat} {f : Addr} {fd : FuncData} {ps : List Str} {mf : MF} {ds : List D} {us : List Value} {vs : List V} {pins : List (Addr × Obj)} {σ : St} {φ : List Addr} {S S' : Store} {G H : Hp} {s : Shared} {r : R D} {Q : VK}
    (F : FnOk X.prog X.w X.K X.mg X.base (L2.CX X.prog X.w) k f fd ps (spM X.K cl mf)) (hr : Room k X.A) {dsv : List Value} {dvs : List V} {dds : List D} (hb : Binds X.K fd ps dsv) (hd : Vals dvs dsv) (hdd : IsDs X.K φ G dds dvs)
    (I : Inv X pins σ H s) (rv : Vals vs us) {g : Gm} (sl : Sl X.K cl φ G g σ) (w : Wd X.K cl φ S G H) (h : IsDs X.K φ G ds vs) (e : mf (ds ++ dds) S = some (r, S')) (kq : Ko X.K cl tk φ G H g r S' fun φ' G' H' d => ∀ v, IsD X.K φ' G' d v → Q v H') :
    wpAny (model X.prog X.w) X.A (call (.ref f) us) (EP X pins σ Q) X.xe s := by
  have r2 : Vals (vs ++ dvs) (us ++ dsv) := rv.append hd
  let E : XK := EofR X.K cl φ G H S' r
  have sp : spM X.K cl mf (vs ++ dvs) H Q E := by
    refine ⟨φ, G, S, ds ++ dds, r, S', w, h.append hdd, e, ?_⟩
    cases r with
    | ok d => exact kq
    | exc c fs => exact fun cls dd φ' G' H' q => ⟨φ', G', q⟩
  have hl : (us ++ dsv).length = ps.length := by rw [← r2.length]; exact F.len _ _ _ _ sp
  refine wpAny_call (codeAny_mono (F.run X.A X.stack s H ⟨us, []⟩ (us ++ dsv) (vs ++ dvs) Q E hr I.env0 (hb s us I.kIn hl) r2 sp) fun r' s' hq => ?_)
  cases r' with
  | error e' =>
    cases r with
    | ok d =>
      obtain ⟨_, _, _, _, _, _, _, _, _, _, _, _, z⟩ := (show L2.CX X.prog X.w X.stack H s E e' s' from hq)
      exact z.elim
    | exc c fs => exact T.tk _ kq e' s' (XE.of_call (E := EofR X.K cl φ G H S' (.exc c fs)) I (fun cls d H' ⟨φ', G', q⟩ => ⟨φ', G', q, sl.step q.1⟩) hq)
  | ok fl =>
    cases fl with
    | ret u => exact I.after hq
    | next => exact False.elim hq
    | brk => exact False.elim hq
    | cont => exact False.elim hq
/-- the defaults that fill up -/
def withD (mf : MF) (dds : List D) : MF := fun ds S => mf (ds ++ dds) S
theorem re_call {k : Nat} {f : Addr} {fd : FuncData} {ps : List Str} {mf : MF} {x : Str} {p pos : Pos} {e : Expr} {es : List Expr} {ma : M (List D)} {dsv : List Value} {dvs : List V} {dds : List D}
    (F : FnOk X.prog X.w X.K X.mg X.base (L2.CX X.prog X.w) k f fd ps (spM X.K cl mf)) (hr : Room k X.A) (hm : X.mg x = some (.ref f)) (hk : PySem.W.keepIn X.K (.ref f) = true) (hb : Binds X.K fd ps dsv) (hd : Vals dvs dsv) (hdd : ∀ φ G, IsDs X.K φ G dds dvs)
    (ha : RA X cl tk (e :: es) ma) (hg : Gl X x := by rfl) (hdb : (x == ("__debug__" : Str)) = false := by decide) (he : starEach (e :: es) X.env = (false, eval e X.env) :: starEach es X.env := by rfl) (hpl : (backTo pos (starEach es X.env)).any (·.1) = false := by rfl) :
    RE X cl tk (.Call (.Name x p) (e :: es) [] pos) (mCall (withD mf dds) ma) := by
  refine ⟨fun pins s σ H Q I h => ?_⟩
  obtain ⟨φ, G, g, S, r, S', w, sl, e1, kq⟩ := h
  refine wpAny_Call_Name_kw (ld_glob I hg hm ?_ hdb)
  refine PySem.W.callWith_K (h₀ := X.base) I.ok.mod.kin hk (thn (ha.run pos pins s σ H (fun vs H1 => ∃ φ1 G1 S1 ds, Sl X.K cl φ1 G1 g σ ∧ Wd X.K cl φ1 S1 G1 H1 ∧ IsDs X.K φ1 G1 ds vs ∧ withD mf dds ds S1 = some (r, S') ∧ Ko X.K cl tk φ1 G1 H1 g r S' fun φ' G' H' d => ∀ v, IsD X.K φ' G' d v → Q v H') I ?_) fun us s1 ⟨vs, H1, I1, rv, φ1, G1, S1, ds, sl1, w1, hds, e2, k2⟩ => ⟨I1.kIn, ?_⟩) he hpl
  · exact tMA_bind T.ok w sl e1 kq fun d φ1 G1 H1 S1 v st1 w1 s1 hx e2 k2 => ⟨φ1, G1, S1, d, s1, w1, hx, e2, k2⟩
  · exact run_fnM F hr hb hd (hdd _ _) I1 rv sl1 w1 hds e2 k2
theorem re_call0 {k : Nat} {f : Addr} {fd : FuncData} {ps : List Str} {mf : MF} {x : Str} {p pos : Pos} {dsv : List Value} {dvs : List V} {dds : List D}
    (F : FnOk X.prog X.w X.K X.mg X.base (L2.CX X.prog X.w) k f fd ps (spM X.K cl mf)) (hr : Room k X.A) (hm : X.mg x = some (.ref f)) (hk : PySem.W.keepIn X.K (.ref f) = true) (hb : Binds X.K fd ps dsv) (hd : Vals dvs dsv) (hdd : ∀ φ G, IsDs X.K φ G dds dvs)
    (hg : Gl X x := by rfl) (hdb : (x == ("__debug__" : Str)) = false := by decide) :
    RE X cl tk (.Call (.Name x p) [] [] pos) (mCall (withD mf dds) mNil) := by
  refine ⟨fun pins s σ H Q I h => ?_⟩
  obtain ⟨φ, G, g, S, r, S', w, sl, e1, kq⟩ := h
  refine wpAny_Call_Name_kw (ld_glob I hg hm ?_ hdb)
  exact PySem.W.callWith_K0 I.kIn hk (run_fnM (us := []) (vs := []) (ds := []) F hr hb hd (hdd _ _) I .nil sl w .nil e1 kq)

theorem withD_nil (mf : MF) : withD mf [] = mf := by funext ds S; simp [withD]
theorem re_callN {k : Nat} {f : Addr} {fd : FuncData} {ps : List Str} {mf : MF} {x : Str} {p pos : Pos} {e : Expr} {es : List Expr} {ma : M (List D)}
    (F : FnOk X.prog X.w X.K X.mg X.base (L2.CX X.prog X.w) k f fd ps (spM X.K cl mf)) (hr : Room k X.A) (hm : X.mg x = some (.ref f)) (hk : PySem.W.keepIn X.K (.ref f) = true) (hb : Binds X.K fd ps [])
    (ha : RA X cl tk (e :: es) ma) (hg : Gl X x := by rfl) (hdb : (x == ("__debug__" : Str)) = false := by decide) (he : starEach (e :: es) X.env = (false, eval e X.env) :: starEach es X.env := by rfl) (hpl : (backTo pos (starEach es X.env)).any (·.1) = false := by rfl) :
    RE X cl tk (.Call (.Name x p) (e :: es) [] pos) (mCall mf ma) := by
  have h := re_call (T := T) (p := p) F hr hm hk hb .nil (fun _ _ => .nil) ha hg hdb he hpl
  rwa [withD_nil] at h
theorem re_callN0 {k : Nat} {f : Addr} {fd : FuncData} {ps : List Str} {mf : MF} {x : Str} {p pos : Pos}
    (F : FnOk X.prog X.w X.K X.mg X.base (L2.CX X.prog X.w) k f fd ps (spM X.K cl mf)) (hr : Room k X.A) (hm : X.mg x = some (.ref f)) (hk : PySem.W.keepIn X.K (.ref f) = true) (hb : Binds X.K fd ps [])
    (hg : Gl X x := by rfl) (hdb : (x == ("__debug__" : Str)) = false := by decide) : RE X cl tk (.Call (.Name x p) [] [] pos) (mCall mf mNil) := by
  have h := re_call0 (T := T) (cl := cl) (p := p) (pos := pos) F hr hm hk hb .nil (fun _ _ => .nil) hg hdb
  rwa [withD_nil] at h

/-! ### built-ins by name, methods of built-in types -/
theorem tCB_of {r : List V → Hp → VK → Prop} {f : Store → List D → Option D} {ma : M (List D)} (hs : CallS K cl r f) (ht : TkOk tk) {σ : St} {H : Hp} {Q : VK} (h : tM K cl tk (mOpA f ma) σ H Q) : tCB r (tMA K cl tk ma) σ H Q := by
  obtain ⟨φ, G, g, S, r, S', w, s, e, k⟩ := h
  refine tMA_bind ht w s e k fun d φ1 G1 H1 S1 x st1 w1 s1 hx e1 k1 => ?_
  obtain ⟨z, ez, rfl, rfl⟩ := mL_ok e1
  exact hs _ _ _ _ _ _ _ _ w1 hx ez k1
theorem re_callB {x : Str} {id : String} {p pos : Pos} {e : Expr} {es : List Expr} {r : List V → Hp → VK → Prop} {f : Store → List D → Option D} {ma : M (List D)} (hc : CallR X (.builtin id) r) (hs : CallS X.K cl r f) (hm : X.mg x = none) (hv : bootBuiltins x = some (.builtin id))
    (ha : RA X cl tk (e :: es) ma) (hg : Gl X x := by rfl) (hn : x ≠ "__name__" := by decide) (hdb : (x == ("__debug__" : Str)) = false := by decide)
    (he : starEach (e :: es) X.env = (false, eval e X.env) :: starEach es X.env := by rfl) (hpl : (backTo pos (starEach es X.env)).any (·.1) = false := by rfl) : RE X cl tk (.Call (.Name x p) (e :: es) [] pos) (mOpA f ma) :=
  pe_imp (pe_callB hc hg hm hv ha hn hdb he hpl) fun _ _ _ h => tCB_of hs T.ok h
theorem re_callTy {x : Str} {Ty : String} {p pos : Pos} {e : Expr} {es : List Expr} {r : List V → Hp → VK → Prop} {f : Store → List D → Option D} {ma : M (List D)} (hc : CallR X (.type Ty) r) (hs : CallS X.K cl r f) (hm : X.mg x = none) (hv : bootBuiltins x = some (.type Ty))
    (ha : RA X cl tk (e :: es) ma) (hg : Gl X x := by rfl) (hn : x ≠ "__name__" := by decide) (hdb : (x == ("__debug__" : Str)) = false := by decide)
    (he : starEach (e :: es) X.env = (false, eval e X.env) :: starEach es X.env := by rfl) (hpl : (backTo pos (starEach es X.env)).any (·.1) = false := by rfl) : RE X cl tk (.Call (.Name x p) (e :: es) [] pos) (mOpA f ma) :=
  pe_imp (pe_callTy hc hg hm hv ha hn hdb he hpl) fun _ _ _ h => tCB_of hs T.ok h

/-! ### statements -/
theorem rss_nil : RSs X cl tk [] (fun g S => some (.nx g, S)) := by
  refine pss_imp pss_nil fun D σ H ⟨φ, G, g, S, o, S', w, s, e, k⟩ => ?_
  cases e
  exact k φ G H (Step.refl _ _ _) w σ s
def mSeq (m n : MS) : MS := fun g S => match m g S with
  | some (.nx g1, S1) => n g1 S1
  | r => r
theorem rss_cons {st : Stmt} {rest : List Stmt} {m n : MS} (h1 : RS X cl tk st m) (h2 : RSs X cl tk rest n) : RSs X cl tk (st :: rest) (mSeq m n) := by
  refine pss_imp (pss_cons h1 h2) fun D σ H ⟨φ, G, g, S, o, S', w, s, e, k⟩ => ?_
  unfold mSeq at e
  split at e
  · rename_i g1 S1 q
    exact ⟨φ, G, g, S, _, _, w, s, q, fun φ1 G1 H1 st1 w1 σ1 s1 => ⟨φ1, G1, g1, S1, o, S', w1, s1, e, k.step T.ok st1⟩⟩
  · rename_i hn
    refine ⟨φ, G, g, S, o, S', w, s, e, ?_⟩
    cases o with
    | nx g1 => exact absurd e (hn g1 S')
    | rt d => exact k
    | bk g1 => exact k
    | ct g1 => exact k
    | ex g2 c fs => exact k
theorem rss_one {st : Stmt} {m : MS} (h1 : RS X cl tk st m) : RSs X cl tk [st] m := pss_one h1
def mSet (i : Nat) (m : M D) : MS := fun g S => match m g S with
  | some (.ok d, S1) => some (.nx (g.set i (some d)), S1)
  | some (.exc c fs, S1) => some (.ex g c fs, S1)
  | none => none
/-- e, then a statement's rest -/
theorem tM_stmt {m : M D} {f : D → Gm → Store → Option (Out × Store)} {σ : St} {φ : List Addr} {G H : Hp} {g : Gm} {S S' : Store} {o : Out} {Dn : Ends} {Q : VK}
    (w : Wd K cl φ S G H) (s : Sl K cl φ G g σ) (e : (match m g S with | some (.ok d, S1) => f d g S1 | some (.exc c fs, S1) => some (.ex g c fs, S1) | none => none) = some (o, S')) (k : Kos K cl tk φ G H o S' Dn) (ht : TkOk tk)
    (h : ∀ d φ1 G1 H1 S1 v, Step φ G H φ1 G1 H1 → Wd K cl φ1 S1 G1 H1 → Sl K cl φ1 G1 g σ → IsD K φ1 G1 d v → f d g S1 = some (o, S') → Kos K cl tk φ1 G1 H1 o S' Dn → Q v H1) : tM K cl tk m σ H Q := by
  split at e
  · rename_i d S1 q
    exact ⟨φ, G, g, S, _, _, w, s, q, fun φ1 G1 H1 st w1 v hv => h d φ1 G1 H1 S1 v st w1 (s.step st) hv e (k.step ht st)⟩
  · rename_i c fs S1 q
    cases e
    exact ⟨φ, G, g, S, _, _, w, s, q, k⟩
  · cases e
theorem tAsg_of {i : Nat} {m : M D} {Dn : Ends} {σ : St} {H : Hp} (ht : TkOk tk) (h : tMS K cl tk (mSet i m) Dn σ H) : tAsg (tM K cl tk m) (gName i) Dn σ H := by
  obtain ⟨φ, G, g, S, o, S', w, s, e, k⟩ := h
  refine tM_stmt (f := fun d g S1 => some (.nx (g.set i (some d)), S1)) w s e k ht fun d φ1 G1 H1 S1 v st1 w1 s1 hv e1 k1 => ?_
  cases e1
  exact k1 φ1 G1 H1 (Step.refl _ _ _) w1 _ (s1.set hv)
theorem rs_set {i : Nat} {x : Str} {e : Expr} {pos pos' : Pos} {m : M D} (hN : X.N.Nodup) (he : RE X cl tk e m) (hi : X.N[i]? = some x := by rfl) (hx : Loc X.env.scope x := by first | exact Or.inl rfl | exact Or.inr rfl)
    (hs : swapsWith e (some (.Name x pos')) pos.line X.env = pure false := by rfl) (hf : X.fn x = true ∨ X.env.scope.names.lookup x = some .local := by first | exact .inl rfl | exact .inr rfl | assumption) : RS X cl tk (.Assign [.Name x pos'] e pos) (mSet i m) :=
  ps_imp (ps_set hN hi hx he hs hf) fun _ _ _ h => tAsg_of T.ok h
def mEx (m : M D) : MS := fun g S => match m g S with
  | some (.ok _, S1) => some (.nx g, S1)
  | some (.exc c fs, S1) => some (.ex g c fs, S1)
  | none => none
theorem rs_expr {e : Expr} {pos : Pos} {m : M D} (he : RE X cl tk e m) (hs : swapsWith e none pos.line X.env = pure false := by rfl) : RS X cl tk (.Expr e pos) (mEx m) := by
  refine ps_imp (ps_expr he hs) fun Dn σ H ⟨φ, G, g, S, o, S', w, s, e, k⟩ => ?_
  refine tM_stmt (f := fun d g S1 => some (.nx g, S1)) w s e k T.ok fun d φ1 G1 H1 S1 v st1 w1 s1 hv e1 k1 => ?_
  cases e1
  exact k1 φ1 G1 H1 (Step.refl _ _ _) w1 _ s1
def mRet (m : M D) : MS := fun g S => match m g S with
  | some (.ok d, S1) => some (.rt d, S1)
  | some (.exc c fs, S1) => some (.ex g c fs, S1)
  | none => none
theorem rs_ret {e : Expr} {pos : Pos} {m : M D} (he : RE X cl tk e m) : RS X cl tk (.Return (some e) pos) (mRet m) := by
  refine ps_imp (ps_ret he) fun Dn σ H ⟨φ, G, g, S, o, S', w, s, e, k⟩ => ?_
  refine tM_stmt (f := fun d g S1 => some (.rt d, S1)) w s e k T.ok fun d φ1 G1 H1 S1 v st1 w1 s1 hv e1 k1 => ?_
  cases e1
  exact k1 φ1 G1 H1 (Step.refl _ _ _) w1 v hv
theorem rs_retN {pos : Pos} : RS X cl tk (.Return none pos) (fun _ S => some (.rt .non, S)) := by
  refine ps_imp ps_retN fun Dn σ H ⟨φ, G, g, S, o, S', w, s, e, k⟩ => ?_
  cases e
  exact k φ G H (Step.refl _ _ _) w _ (by simp only [IsD])
theorem rs_pass {pos : Pos} : RS X cl tk (.Pass pos) (fun g S => some (.nx g, S)) := by
  refine ps_imp ps_pass fun D σ H ⟨φ, G, g, S, o, S', w, s, e, k⟩ => ?_
  cases e
  exact k φ G H (Step.refl _ _ _) w σ s
theorem rs_break {pos : Pos} : RS X cl tk (.Break pos) (fun g S => some (.bk g, S)) := by
  refine ps_imp ps_break fun D σ H ⟨φ, G, g, S, o, S', w, s, e, k⟩ => ?_
  cases e
  exact k φ G H (Step.refl _ _ _) w σ s
theorem rs_cont {pos : Pos} : RS X cl tk (.Continue pos) (fun g S => some (.ct g, S)) := by
  refine ps_imp ps_continue fun D σ H ⟨φ, G, g, S, o, S', w, s, e, k⟩ => ?_
  cases e
  exact k φ G H (Step.refl _ _ _) w σ s
def mIfS (c : M Bool) (m n : MS) : MS := fun g S => match c g S with
  | some (.ok b, S1) => if b = true then m g S1 else n g S1
  | some (.exc c fs, S1) => some (.ex g c fs, S1)
  | none => none
theorem rs_if {c : Expr} {a b : List Stmt} {pos : Pos} {mc : M Bool} {m n : MS} (hc : RT X cl tk c mc) (ha : RSs X cl tk a m) (hb : RSs X cl tk b n) : RS X cl tk (.If c a b pos) (mIfS mc m n) := by
  refine ps_imp (ps_if hc ha hb) fun Dn σ H ⟨φ, G, g, S, o, S', w, s, e, k⟩ => ?_
  unfold mIfS at e
  split at e
  · rename_i b S1 q
    refine ⟨φ, G, g, S, _, _, w, s, q, fun φ1 G1 H1 st1 w1 => ?_⟩
    cases b with
    | true =>
      rw [if_pos rfl] at e ⊢
      exact ⟨φ1, G1, g, S1, o, S', w1, s.step st1, e, k.step T.ok st1⟩
    | false =>
      rw [if_neg Bool.false_ne_true] at e ⊢
      exact ⟨φ1, G1, g, S1, o, S', w1, s.step st1, e, k.step T.ok st1⟩
  · rename_i c fs S1 q
    cases e
    exact ⟨φ, G, g, S, _, _, w, s, q, k⟩
  · cases e
/-- code that the mirror never comes to -/
def mNo : MS := fun _ _ => none
theorem rss_no {st : List Stmt} : RSs X cl tk st mNo := pss_imp pss_never fun D σ H ⟨φ, G, g, S, o, S', w, s, e, k⟩ => by cases e
theorem rs_no {st : Stmt} : RS X cl tk st mNo := ps_imp ps_never fun D σ H ⟨φ, G, g, S, o, S', w, s, e, k⟩ => by cases e
end
end Mi
namespace Mi
open PySem L2

/-! ### what is walked: its items; a list cell must stand as it is -/
abbrev Src := List D × Option (Nat × List D)
def srcOk (S : Store) (src : Src) : Prop := match src.2 with
  | none => True
  | some (i, l) => S[i]? = some (.lst l)
structure WalkD (K : PySem.W.Frag) (cl : Cl) (J : It) (φ : List Addr) (G H : Hp) (src : Src) : Prop where
  ex : ∃ Gd Y, Walk J src.1.length Gd Y ∧
    (∀ φ' S' G' H', Step φ G H φ' G' H' → Wd K cl φ' S' G' H' → srcOk S' src → Gd H') ∧
    (∀ φ' S' G' H' i d x H2, Step φ G H φ' G' H' → Wd K cl φ' S' G' H' → srcOk S' src → src.1[i]? = some d → Y i H' x H2 → ∃ G2, Step φ' G' H' φ' G2 H2 ∧ Wd K cl φ' S' G2 H2 ∧ IsD K φ' G2 d x)
def tI (K : PySem.W.Frag) (cl : Cl) (tk : WX → Prop) (m : M Src) : TI := fun σ H R => ∃ φ G g S r S', Wd K cl φ S G H ∧ Sl K cl φ G g σ ∧ m g S = some (r, S') ∧
  Ko K cl tk φ G H g r S' fun φ1 G1 H1 src => ∀ J, WalkD K cl J φ1 G1 H1 src → R J H1
abbrev RI (X : Cx) (cl : Cl) (tk : WX → Prop) (tg a : Expr) (m : M Src) : Prop := PI X tg a (tI X.K cl tk m)
/-- targets -/
abbrev Bind := D → Gm → Option Gm
def tG (K : PySem.W.Frag) (cl : Cl) (b : Bind) : TG := fun v σ H Q => ∃ φ G g S d g', Wd K cl φ S G H ∧ Sl K cl φ G g σ ∧ IsD K φ G d v ∧ b d g = some g' ∧ ∀ σ', Sl K cl φ G g' σ' → Q σ' H
abbrev RG (X : Cx) (cl : Cl) (tg : Expr) (b : Bind) : Prop := PG X tg (tG X.K cl b)
abbrev Binds := List D → Gm → Option Gm
def tGs (K : PySem.W.Frag) (cl : Cl) (b : Binds) : TGs := fun vs σ H Q => ∃ φ G g S ds g', Wd K cl φ S G H ∧ Sl K cl φ G g σ ∧ IsDs K φ G ds vs ∧ b ds g = some g' ∧ ∀ σ', Sl K cl φ G g' σ' → Q σ' H
abbrev RGs (X : Cx) (cl : Cl) (tg : List Expr) (b : Binds) : Prop := PGs X tg (tGs X.K cl b)
def bN (i : Nat) : Bind := fun d g => some (g.set i (some d))
def bNil : Binds := fun ds g => match ds with
  | [] => some g
  | _ => none
def bCons (b : Bind) (bs : Binds) : Binds := fun ds g => match ds with
  | d :: r => (b d g).bind fun g' => bs r g'
  | [] => none
def bTup (n : Nat) (bs : Binds) : Bind := fun d g => match d with
  | .tup l => if l.length = n then bs l g else none
  | _ => none
theorem pg_imp {X : Cx} {a : Expr} {t t' : TG} (h : PG X a t) (i : ∀ v σ H Q, t' v σ H Q → t v σ H Q) : PG X a t' := ⟨fun pins s σ H v u Q I r q => h.run pins s σ H v u Q I r (i v σ H Q q)⟩
theorem pgs_imp {X : Cx} {a : List Expr} {t t' : TGs} (h : PGs X a t) (i : ∀ v σ H Q, t' v σ H Q → t v σ H Q) : PGs X a t' := ⟨fun pins s σ H v u Q I r q => h.run pins s σ H v u Q I r (i v σ H Q q)⟩
section
variable {X : Cx} {cl : Cl} {tk : WX → Prop} [T : Tk X tk]
variable {K : PySem.W.Frag}
theorem rg_name {i : Nat} {x : Str} {pos : Pos} (hN : X.N.Nodup) (hi : X.N[i]? = some x := by rfl) (hx : Loc X.env.scope x := by first | exact Or.inl rfl | exact Or.inr rfl) (hf : X.fn x = true ∨ X.env.scope.names.lookup x = some .local := by first | exact .inl rfl | exact .inr rfl | assumption) : RG X cl (.Name x pos) (bN i) := by
  refine pg_imp (pg_name hN hi hx hf) fun v σ H Q ⟨φ, G, g, S, d, g', w, s, hv, e, k⟩ => ?_
  cases e
  exact k _ (s.set hv)
theorem rgs_nil : RGs X cl [] bNil := by
  refine pgs_imp pgs_nil fun v σ H Q ⟨φ, G, g, S, d, g', w, s, hv, e, k⟩ => ?_
  cases d <;> cases e
  exact ⟨hv.nil_inv, k _ s⟩
theorem rgs_cons {a : Expr} {es : List Expr} {b : Bind} {bs : Binds} (h1 : RG X cl a b) (h2 : RGs X cl es bs) (hs : (assignEach (a :: es) X.env).map (·.2) = assign a X.env :: (assignEach es X.env).map (·.2) := by rfl) : RGs X cl (a :: es) (bCons b bs) := by
  refine pgs_imp (pgs_cons h1 h2 hs) fun v σ H Q ⟨φ, G, g, S, ds, g', w, s, hv, e, k⟩ => ?_
  cases ds with
  | nil => cases e
  | cons d r =>
    obtain ⟨v1, r1, rfl, h3, h4⟩ := hv.cons_inv
    unfold bCons at e
    cases q : b d g with
    | none => simp only [q] at e; cases e
    | some g1 =>
      simp only [q] at e
      exact ⟨v1, r1, rfl, φ, G, g, S, d, g1, w, s, h3, q, fun σ1 s1 => ⟨φ, G, g1, S, r, g', w, s1, h4, e, k⟩⟩
theorem rg_tup {es : List Expr} {kk : Nat} {pos : Pos} {bs : Binds} {n : Nat} (h : RGs X cl es bs) (hc : X.calm = true := by rfl) (hn : (assignEach es X.env).length = n := by rfl) (hst : (assignEach es X.env).findIdx? (·.1) = none := by rfl) : RG X cl (.Tuple es kk pos) (bTup n bs) := by
  refine pg_imp (pg_tup hc h hn hst) fun v σ H Q ⟨φ, G, g, S, d, g', w, s, hv, e, k⟩ => ?_
  cases d <;> try (cases e; done)
  rename_i l
  unfold bTup at e
  simp only at e
  split at e
  · rename_i hl
    simp only [IsD] at hv
    obtain ⟨a, xs, rfl, h3, h4⟩ := hv
    exact ⟨a, xs, rfl, Ex.t w.sub h3, by rw [← h4.length]; exact hl, φ, G, g, S, l, g', w, s, h4, e, k⟩
  · cases e

/-! ### for -/
open Classical in
noncomputable def forGo (src : Src) (b : Bind) (body : MS) : List D → MS
  | [] => fun g S => if srcOk S src then some (.nx g, S) else none
  | d :: ds => fun g S => if srcOk S src then
      match b d g with
      | none => none
      | some g1 => match body g1 S with
        | some (.nx g2, S2) => forGo src b body ds g2 S2
        | some (.ct g2, S2) => forGo src b body ds g2 S2
        | some (.bk g2, S2) => some (.nx g2, S2)
        | some (.rt d, S2) => some (.rt d, S2)
        | some (.ex g2 c fs, S2) => some (.ex g2 c fs, S2)
        | none => none
    else none
noncomputable def mFor (mi : M Src) (b : Bind) (body : MS) : MS := fun g S => match mi g S with
  | some (.ok src, S1) => forGo src b body src.1 g S1
  | some (.exc c fs, S1) => some (.ex g c fs, S1)
  | none => none
theorem drop_get {α : Type} {l : List α} {i : Nat} {d : α} {r : List α} (h : l.drop i = d :: r) : l[i]? = some d ∧ l.drop (i + 1) = r ∧ i < l.length := by
  have hi : i < l.length := by
    by_cases q : i < l.length
    · exact q
    · rw [List.drop_eq_nil_of_le (by omega)] at h; cases h
  rw [List.drop_eq_getElem_cons hi] at h
  injection h with h1 h2
  exact ⟨by rw [List.getElem?_eq_getElem hi, h1], h2, hi⟩
theorem rs_for {tg iter : Expr} {body : List Stmt} {pos : Pos} {mi : M Src} {b : Bind} {mb : MS} (hp : PassesOwn (model X.prog X.w) X.A X.env X.xe) (hi : RI X cl tk tg iter mi) (hg : RG X cl tg b) (hb : RSs X cl tk body mb)
    (hc : X.calm = true := by rfl) (hs : ∀ x, foldedSetIterable iter X.env x = pure x := by intro _; rfl) : RS X cl tk (.For tg iter body [] pos) (mFor mi b mb) := by
  refine ps_imp (ps_for hp hc hi hg hb hs) fun Dn σ H ⟨φ, G, g, S, o, S', w, s, e, k⟩ => ?_
  unfold mFor at e
  split at e
  · rename_i src S1 q
    refine ⟨φ, G, g, S, _, _, w, s, q, fun φ1 G1 H1 st1 w1 J wj => ?_⟩
    obtain ⟨Gd, Y, wk, hG, hY⟩ := wj.ex
    refine ⟨fun i m σ' H' => m = src.1.length - i ∧ i ≤ src.1.length ∧ ∃ φ' G' g' S2, Step φ1 G1 H1 φ' G' H' ∧ Wd X.K cl φ' S2 G' H' ∧ Sl X.K cl φ' G' g' σ' ∧ forGo src b mb (src.1.drop i) g' S2 = some (o, S'),
      ⟨_, rfl, Nat.zero_le _, φ1, G1, g, S1, Step.refl _ _ _, w1, s.step st1, e⟩, ?_⟩
    rintro i m σ' H' ⟨rfl, hle, φ', G', g', S2, st2, w2, s2, e2⟩
    cases hd : src.1.drop i with
    | nil =>
      have hi : i = src.1.length := by
        have := congrArg List.length hd
        simp at this; omega
      subst hi
      rw [hd] at e2
      unfold forGo at e2
      split at e2
      · rename_i hok
        cases e2
        exact .inl ⟨wk.stops _ (hG _ _ _ _ st2 w2 hok), k.step T.ok (st1.trans st2) φ' G' H' (Step.refl _ _ _) w2 _ s2⟩
      · cases e2
    | cons d ds =>
      obtain ⟨hd1, hd2, hlt⟩ := drop_get hd
      rw [hd] at e2
      unfold forGo at e2
      split at e2
      · rename_i hok
        split at e2
        · cases e2
        · rename_i g1 hb1
          refine .inr ⟨wk.goes _ _ hlt (hG _ _ _ _ st2 w2 hok), fun σ3 H3 => ∃ φ3 G3 g3 S3, Step φ1 G1 H1 φ3 G3 H3 ∧ Wd X.K cl φ3 S3 G3 H3 ∧ Sl X.K cl φ3 G3 g3 σ3 ∧ forGo src b mb ds g3 S3 = some (o, S'), fun σ3 H3 ⟨φ3, G3, g3, S3, a1, a2, a3, a4⟩ => ⟨src.1.length - (i + 1), by omega, rfl, hlt, φ3, G3, g3, S3, a1, a2, a3, by rw [hd2]; exact a4⟩, fun x H3 hy => ?_⟩
          obtain ⟨G3, st3, w3, hx⟩ := hY _ _ _ _ i d x H3 st2 w2 hok hd1 (wk.yields _ _ _ _ hlt (hG _ _ _ _ st2 w2 hok) hy)
          refine ⟨φ', G3, g', S2, d, g1, w3, s2.step st3, hx, hb1, fun σ4 s4 => ?_⟩
          have k3 := k.step T.ok ((st1.trans st2).trans st3)
          split at e2
          · rename_i g2 S3 q3
            exact ⟨φ', G3, g1, S2, _, _, w3, s4, q3, fun φ4 G4 H4 st4 w4 σ5 s5 => ⟨φ4, G4, g2, S3, (st2.trans st3).trans st4, w4, s5, e2⟩⟩
          · rename_i g2 S3 q3
            exact ⟨φ', G3, g1, S2, _, _, w3, s4, q3, fun φ4 G4 H4 st4 w4 σ5 s5 => ⟨φ4, G4, g2, S3, (st2.trans st3).trans st4, w4, s5, e2⟩⟩
          · rename_i g2 S3 q3
            cases e2
            exact ⟨φ', G3, g1, S2, _, _, w3, s4, q3, k3⟩
          · rename_i d2 S3 q3
            cases e2
            exact ⟨φ', G3, g1, S2, _, _, w3, s4, q3, k3⟩
          · rename_i c fs S3 q3
            cases e2
            exact ⟨φ', G3, g1, S2, _, _, w3, s4, q3, k3⟩
          · cases e2
      · cases e2
  · rename_i c fs S1 q
    cases e
    exact ⟨φ, G, g, S, _, _, w, s, q, k⟩
  · cases e

/-! ### while: by fuel -/
def whileGo (c : M Bool) (body : MS) : Nat → MS
  | 0 => fun _ _ => none
  | n + 1 => fun g S => match c g S with
    | some (.ok true, S1) => match body g S1 with
      | some (.nx g2, S2) => whileGo c body n g2 S2
      | some (.ct g2, S2) => whileGo c body n g2 S2
      | some (.bk g2, S2) => some (.nx g2, S2)
      | some (.rt d, S2) => some (.rt d, S2)
      | some (.ex g2 c fs, S2) => some (.ex g2 c fs, S2)
      | none => none
    | some (.ok false, S1) => some (.nx g, S1)
    | some (.exc c fs, S1) => some (.ex g c fs, S1)
    | none => none
theorem rs_while {c : Expr} {body : List Stmt} {pos : Pos} {mc : M Bool} {mb : MS} (n : Nat) (hp : PassesOwn (model X.prog X.w) X.A X.env X.xe) (hc : RT X cl tk c mc) (hb : RSs X cl tk body mb) : RS X cl tk (.While c body [] pos) (whileGo mc mb n) := by
  refine ps_imp (ps_while hp hc hb) fun Dn σ H ⟨φ, G, g, S, o, S', w, s, e, k⟩ => ?_
  refine ⟨fun m σ' H' => ∃ φ' G' g' S2, Step φ G H φ' G' H' ∧ Wd X.K cl φ' S2 G' H' ∧ Sl X.K cl φ' G' g' σ' ∧ whileGo mc mb m g' S2 = some (o, S'), ⟨n, φ, G, g, S, Step.refl _ _ _, w, s, e⟩, ?_⟩
  rintro m σ' H' ⟨φ', G', g', S2, st2, w2, s2, e2⟩
  cases m with
  | zero => cases e2
  | succ m =>
    unfold whileGo at e2
    have k2 := k.step T.ok st2
    split at e2
    · rename_i S3 q
      refine ⟨φ', G', g', S2, _, _, w2, s2, q, fun φ3 G3 H3 st3 w3 => ?_⟩
      show (if true = true then _ else _)
      rw [if_pos rfl]
      have k3 := k2.step T.ok st3
      refine ⟨fun σ4 H4 => ∃ φ4 G4 g4 S4, Step φ G H φ4 G4 H4 ∧ Wd X.K cl φ4 S4 G4 H4 ∧ Sl X.K cl φ4 G4 g4 σ4 ∧ whileGo mc mb m g4 S4 = some (o, S'), fun σ4 H4 q4 => ⟨m, Nat.lt_succ_self _, q4⟩, ?_⟩
      split at e2
      · rename_i g2 S4 q3
        exact ⟨φ3, G3, g', S3, _, _, w3, s2.step st3, q3, fun φ4 G4 H4 st4 w4 σ5 s5 => ⟨φ4, G4, g2, S4, (st2.trans st3).trans st4, w4, s5, e2⟩⟩
      · rename_i g2 S4 q3
        exact ⟨φ3, G3, g', S3, _, _, w3, s2.step st3, q3, fun φ4 G4 H4 st4 w4 σ5 s5 => ⟨φ4, G4, g2, S4, (st2.trans st3).trans st4, w4, s5, e2⟩⟩
      · rename_i g2 S4 q3
        cases e2
        exact ⟨φ3, G3, g', S3, _, _, w3, s2.step st3, q3, k3⟩
      · rename_i g2 S4 q3
        cases e2
        exact ⟨φ3, G3, g', S3, _, _, w3, s2.step st3, q3, k3⟩
      · rename_i c fs S4 q3
        cases e2
        exact ⟨φ3, G3, g', S3, _, _, w3, s2.step st3, q3, k3⟩
      · cases e2
    · rename_i S3 q
      cases e2
      refine ⟨φ', G', g', S2, _, _, w2, s2, q, fun φ3 G3 H3 st3 w3 => ?_⟩
      show (if false = true then _ else _)
      rw [if_neg Bool.false_ne_true]
      exact k2.step T.ok st3 φ3 G3 H3 (Step.refl _ _ _) w3 _ (s2.step st3)
    · rename_i c fs S3 q
      cases e2
      exact ⟨φ', G', g', S2, _, _, w2, s2, q, k2⟩
    · cases e2

/-! ### what may be walked -/
def mSrc (f : D → Option (List D)) (m : M D) : M Src := mB m fun d => mL fun _ => (f d).map fun l => (l, none)
theorem walk_at {J : It} {φ : List Addr} {G H : Hp} {src : Src} {Gd : Hp → Prop} {Y : Nat → Hp → V → Hp → Prop} (wk : Walk J src.1.length Gd Y)
    (hG : ∀ φ' S' G' H', Step φ G H φ' G' H' → Wd K cl φ' S' G' H' → srcOk S' src → Gd H') (hY : ∀ φ' S' G' H' i d x H2, Step φ G H φ' G' H' → Wd K cl φ' S' G' H' → srcOk S' src → src.1[i]? = some d → Y i H' x H2 → H2 = H' ∧ IsD K φ' G' d x) : WalkD K cl J φ G H src :=
  ⟨Gd, Y, wk, hG, fun φ' S' G' H' i d x H2 st w ok hd y => by
    obtain ⟨rfl, h⟩ := hY φ' S' G' H' i d x H2 st w ok hd y
    exact ⟨G', Step.refl _ _ _, w, h⟩⟩
/-- a list: frozen, the script, or a cell -/
def mIL (m : M D) : M Src := mB m fun d => mL fun S => match d with
  | .lst l => some (l, none)
  | .scr l => some (l.map D.int, none)
  | .ref i => match S[i]? with
    | some (.lst l) => some (l, some (i, l))
    | _ => none
  | _ => none
theorem ri_list {tg a : Expr} {m : M D} (h : RE X cl tk a m) : RI X cl tk tg a (mIL m) := by
  refine pi_imp (pi_list h) fun σ H R ⟨φ, G, g, S, r, S', w, s, e, k⟩ => ?_
  refine tM_bind T.ok w s e k fun d φ1 G1 H1 S1 x st1 w1 s1 hx e1 k1 => ?_
  obtain ⟨z, ez, rfl, rfl⟩ := mL_ok e1
  cases d <;> try (cases ez; done)
  · cases ez
    rename_i l
    simp only [IsD] at hx
    obtain ⟨a', xs, rfl, h1, h2⟩ := hx
    refine ⟨a', rfl, ⟨xs, SqL.of (w1.sub _ _ h1)⟩, k1.now w1 _ ?_⟩
    refine walk_at (Gd := fun H => SqL X.K H a' xs) (Y := YAt xs) (by show Walk _ l.length _ _; rw [h2.length]; exact walk_list) (fun φ' S' G' H' st w' _ => SqL.of (w'.sub _ _ (st.ex _ _ h1))) fun φ' S' G' H' i d x H2 st w' _ hd ⟨y1, y2⟩ => ⟨y1, ?_⟩
    obtain ⟨v, h3, h4⟩ := h2.get hd
    rw [y2] at h3; cases h3
    exact h4.mono st.pre st.ex
  · cases ez
    rename_i l
    simp only [IsD] at hx
    obtain ⟨a', rfl, h1⟩ := hx
    refine ⟨a', rfl, ⟨_, Ex.l w1.sub h1⟩, k1.now w1 _ ?_⟩
    refine walk_at (Gd := fun H => SqL X.K H a' (l.map V.int)) (Y := YAt (l.map V.int)) (by show Walk _ (l.map D.int).length _ _; rw [List.length_map, ← List.length_map (f := V.int)]; exact walk_list) (fun φ' S' G' H' st w' _ => Ex.l (st.ex.trans w'.sub) h1) fun φ' S' G' H' i d x H2 st w' _ hd ⟨y1, y2⟩ => ⟨y1, ?_⟩
    simp only [List.getElem?_map] at hd y2
    cases q : l[i]? with
    | none => rw [q] at y2; cases y2
    | some n =>
      rw [q] at y2 hd
      cases y2; cases hd
      simp only [IsD]
  · rename_i i
    simp only [IsD] at hx
    obtain ⟨a', rfl, h1⟩ := hx
    simp only at ez
    split at ez
    · cases ez
      rename_i l hi
      obtain ⟨vs, h3, h4⟩ := w1.ok _ _ _ hi h1
      refine ⟨a', rfl, ⟨vs, SqL.of h3⟩, k1.now w1 _ ?_⟩
      refine ⟨fun H => ∃ ws, SqL X.K H a' ws ∧ ws.length = l.length, fun n H x H' => H' = H ∧ ∀ ws, SqL X.K H a' ws → ws[n]? = some x, ⟨fun n H hn ⟨ws, q1, q2⟩ => ⟨ws, ws[n], q1, by simp [q2, hn]⟩, fun H ⟨ws, q1, q2⟩ => ⟨ws, q1, by show ws.length ≤ l.length; omega⟩, fun n H x H' hn ⟨ws, q1, q2⟩ y => y⟩, fun φ' S' G' H' st w' ok => ?_, fun φ' S' G' H' n d x H2 st w' ok hd ⟨y1, y2⟩ => ?_⟩
      · obtain ⟨us, q1, q2⟩ := w'.ok _ _ _ ok (pre_get st.pre h1)
        exact ⟨us, SqL.of q1, by rw [← q2.length]⟩
      · subst y1
        obtain ⟨us, q1, q2⟩ := w'.ok _ _ _ ok (pre_get st.pre h1)
        obtain ⟨v, h5, h6⟩ := q2.get hd
        rw [y2 us (SqL.of q1)] at h5; cases h5
        exact ⟨G', Step.refl _ _ _, w', h6⟩
    · cases ez
end
end Mi
namespace Mi
open PySem L2
section
variable {X : Cx} {cl : Cl} {tk : WX → Prop} [T : Tk X tk]
variable {K : PySem.W.Frag}

/-! ### anything that may be walked by its value -/
def chars (z : Str) : List D := z.cps.toList.map fun c => .str ⟨#[c]⟩
def mI (m : M D) : M Src := mB m fun d => mL fun S => match d with
  | .lst l => some (l, none)
  | .scr l => some (l.map D.int, none)
  | .tup l => some (l, none)
  | .str z => some (chars z, none)
  | .ref i => match S[i]? with
    | some (.lst l) => some (l, some (i, l))
    | _ => none
  | _ => none
theorem walk_tupD {φ : List Addr} {G H : Hp} {a' : Addr} {xs : List V} {l : List D} (h1 : SqT K G a' xs) (h2 : IsDs K φ G l xs) : WalkD K cl (Itt K a') φ G H (l, none) :=
  walk_at (Gd := fun H => SqT K H a' xs) (Y := YAt xs) (by show Walk _ l.length _ _; rw [h2.length]; exact walk_tup) (fun φ' S' G' H' st w' _ => Ex.t (st.ex.trans w'.sub) h1) fun φ' S' G' H' i d x H2 st w' _ hd ⟨y1, y2⟩ => ⟨y1, by
    obtain ⟨v, h3, h4⟩ := h2.get hd
    rw [y2] at h3; cases h3
    exact h4.mono st.pre st.ex⟩
theorem walk_strD {φ : List Addr} {G H : Hp} {z : Str} : WalkD K cl (Its z) φ G H (chars z, none) :=
  walk_at (src := (chars z, none)) (Gd := fun _ => True) (Y := fun i H v H' => H' = H ∧ ∃ c, z.cps[i]? = some c ∧ v = .str ⟨#[c]⟩) (by have e : (chars z).length = z.cps.size := by simp [chars]
                                                                                                                                       show Walk _ (chars z).length _ _; rw [e]; exact walk_str) (fun _ _ _ _ _ _ _ => trivial) fun φ' S' G' H' i d x H2 st w' _ hd ⟨y1, c, y2, y3⟩ => ⟨y1, by
    have hd' : (chars z)[i]? = some d := hd
    unfold chars at hd'
    rw [List.getElem?_map, Array.getElem?_toList, y2] at hd'
    cases hd'
    subst y3
    simp only [IsD]⟩
theorem ri_any {tg a : Expr} {m : M D} (h : RE X cl tk a m) : RI X cl tk tg a (mI m) := by
  refine ⟨fun pins s σ H R I q => ?_⟩
  obtain ⟨φ, G, g, S, r, S', w, sl, e, k⟩ := q
  have lst : mIL m g S = some (r, S') → wpAny (model X.prog X.w) X.A (eval a X.env) (fun v s1 => wpAny (model X.prog X.w) X.A (pyIter v) (PIE X pins σ tg R) X.xe s1) X.xe s := fun e' =>
    (ri_list h).run pins s σ H R I ⟨φ, G, g, S, r, S', w, sl, e', k⟩
  rcases mB_ok e with ⟨d, S1, e1, e2⟩ | ⟨c, fs, e1, rfl⟩
  · obtain ⟨z, ez, rfl, rfl⟩ := mL_ok e2
    cases d with
    | lst l => exact lst (by unfold mIL mB; rw [e1]; exact e2)
    | scr l => exact lst (by unfold mIL mB; rw [e1]; exact e2)
    | ref i => exact lst (by unfold mIL mB; rw [e1]; exact e2)
    | tup l =>
      cases ez
      refine (pi_tup h).run pins s σ H R I ⟨φ, G, g, S, _, _, w, sl, e1, fun φ1 G1 H1 st1 w1 v hv => ?_⟩
      simp only [IsD] at hv
      obtain ⟨a', xs, rfl, h1, h2⟩ := hv
      exact ⟨a', rfl, ⟨xs, Ex.t w1.sub h1⟩, k φ1 G1 H1 st1 w1 _ (walk_tupD h1 h2)⟩
    | str z =>
      cases ez
      refine (pi_str h).run pins s σ H R I ⟨φ, G, g, S, _, _, w, sl, e1, fun φ1 G1 H1 st1 w1 v hv => ?_⟩
      simp only [IsD] at hv
      exact ⟨z, hv, k φ1 G1 H1 st1 w1 _ walk_strD⟩
    | non => cases ez
    | bl b => cases ez
    | int b => cases ez
    | cls b => cases ez
  · exact lst (by unfold mIL mB; rw [e1])
/-- range -/
def rngD (lo : Int) (n : Nat) : List D := (List.range n).map fun (i : Nat) => .int (lo + (i : Int))
theorem walk_rngD {φ : List Addr} {G H : Hp} {lo : Int} {n : Nat} : WalkD K cl (Itr lo n) φ G H (rngD lo n, none) :=
  walk_at (src := (rngD lo n, none)) (Gd := fun _ => True) (Y := YFn fun i => .int (lo + i)) (by have e : (rngD lo n).length = n := by simp [rngD]
                                                                                                 show Walk _ (rngD lo n).length _ _; rw [e]; exact walk_range) (fun _ _ _ _ _ _ _ => trivial) fun φ' S' G' H' i d x H2 st w' _ hd ⟨y1, y2⟩ => ⟨y1, by
    have hd' : (rngD lo n)[i]? = some d := hd
    unfold rngD at hd'
    rw [List.getElem?_map] at hd'
    cases q : (List.range n)[i]? with
    | none => rw [q] at hd'; cases hd'
    | some j =>
      rw [q] at hd'
      cases hd'
      obtain ⟨h1, h2⟩ := List.getElem?_eq_some_iff.mp q
      simp at h2
      subst h2 y2
      simp only [IsD]⟩
noncomputable def big62 (i : Int) : Bool := cdec (-(2 ^ 62) ≤ i ∧ i < 2 ^ 62)
noncomputable def mRng (m : M (List D)) : M Src := mB m fun ds => mL fun _ => match ds with
  | [.int j] => if big62 j = true then some (rngD 0 j.toNat, none) else none
  | [.int i, .int j] => if big62 i = true ∧ big62 j = true then some (rngD i (j - i).toNat, none) else none
  | _ => none
theorem ri_range1 {tg a : Expr} {p pos : Pos} {m : M (List D)} (hm : X.mg "range" = none) (h : RA X cl tk [a] m) (hl : ∀ g S r S', m g S = some (.ok r, S') → r.length = 1) (hg : Gl X "range" := by rfl) (hs : starEach [a] X.env = [(false, eval a X.env)] := by rfl) : RI X cl tk tg (.Call (.Name "range" p) [a] [] pos) (mRng m) := by
  refine pi_imp (pi_range1 hg hm h hs) fun σ H R ⟨φ, G, g, S, r, S', w, s, e, k⟩ => ?_
  rcases mB_ok e with ⟨ds, S1, e1, e2⟩ | ⟨c, fs, e1, rfl⟩
  · refine ⟨φ, G, g, S, _, _, w, s, e1, fun φ1 G1 H1 st1 w1 vs hv => ?_⟩
    obtain ⟨z, ez, rfl, rfl⟩ := mL_ok e2
    have hl1 := hl _ _ _ _ e1
    split at ez
    · split at ez
      · rename_i j hj
        cases ez
        obtain ⟨v, t, rfl, h1, h2⟩ := hv.cons_inv
        rw [h2.nil_inv]
        simp only [IsD] at h1
        subst h1
        have hb := cdec_iff.mp hj
        exact ⟨j, rfl, hb.1, hb.2, k φ1 G1 H1 st1 w1 _ walk_rngD⟩
      · cases ez
    · cases hl1
    · cases ez
  · exact ⟨φ, G, g, S, _, _, w, s, e1, k⟩
theorem ri_range2 {tg a b : Expr} {p pos : Pos} {m : M (List D)} (hm : X.mg "range" = none) (h : RA X cl tk [a, b] m) (hl : ∀ g S r S', m g S = some (.ok r, S') → r.length = 2) (hg : Gl X "range" := by rfl) (hs : starEach [a, b] X.env = [(false, eval a X.env), (false, eval b X.env)] := by rfl) (hs2 : starEach [b] X.env = [(false, eval b X.env)] := by rfl) :
    RI X cl tk tg (.Call (.Name "range" p) [a, b] [] pos) (mRng m) := by
  refine pi_imp (pi_range2 hg hm h hs hs2) fun σ H R ⟨φ, G, g, S, r, S', w, s, e, k⟩ => ?_
  rcases mB_ok e with ⟨ds, S1, e1, e2⟩ | ⟨c, fs, e1, rfl⟩
  · refine ⟨φ, G, g, S, _, _, w, s, e1, fun φ1 G1 H1 st1 w1 vs hv => ?_⟩
    obtain ⟨z, ez, rfl, rfl⟩ := mL_ok e2
    have hl1 := hl _ _ _ _ e1
    split at ez
    · cases hl1
    · split at ez
      · rename_i i j hj
        cases ez
        obtain ⟨v, t, rfl, h1, h2⟩ := hv.cons_inv
        obtain ⟨v2, t2, rfl, h3, h4⟩ := h2.cons_inv
        rw [h4.nil_inv]
        simp only [IsD] at h1 h3
        subst h1 h3
        have hb := cdec_iff.mp hj.1
        have hb2 := cdec_iff.mp hj.2
        exact ⟨i, j, rfl, ⟨hb.1, hb.2, hb2.1, hb2.2⟩, k φ1 G1 H1 st1 w1 _ walk_rngD⟩
      · cases ez
    · cases ez
  · exact ⟨φ, G, g, S, _, _, w, s, e1, k⟩
theorem len_cons {m : M D} {n : M (List D)} {k : Nat} (h : ∀ g S r S', n g S = some (.ok r, S') → r.length = k) : ∀ g S r S', mCons m n g S = some (.ok r, S') → r.length = k + 1 := fun g S r S' e => by
  rcases mB_ok e with ⟨d, S1, e1, e2⟩ | ⟨c, fs, e1, q⟩
  · rcases mB_ok e2 with ⟨ds, S2, e3, e4⟩ | ⟨c, fs, e3, q⟩
    · cases e4
      rw [List.length_cons, h _ _ _ _ e3]
    · cases q
  · cases q
theorem len_nil : ∀ g S r S', mNil g S = some (.ok r, S') → r.length = 0 := fun g S r S' e => by cases e; rfl
/-- enumerate of a list -/
def enumD (l : List D) : List D := (List.range l.length).zipWith (fun (i : Nat) d => .tup [.int i, d]) l

/-! ### a comprehension -/
open Classical in
noncomputable def lcGo (src : Src) (b : Bind) (mt : M Bool) (me : M D) (g0 : Gm) : List D → List D → Store → Option (List D × Store)
  | [], acc, S => if srcOk S src then some (acc, S) else none
  | d :: ds, acc, S => if srcOk S src then
      match b d g0 with
      | none => none
      | some g1 => match mt g1 S with
        | some (.ok true, S1) => match me g1 S1 with
          | some (.ok z, S2) => if szOk (acc.length + 1) = true then lcGo src b mt me g0 ds (acc ++ [z]) S2 else none
          | _ => none
        | some (.ok false, S1) => lcGo src b mt me g0 ds acc S1
        | _ => none
    else none
def wipeG (g : Gm) : List Nat → Gm
  | [] => g
  | v :: vs => (wipeG g vs).set v none
noncomputable def mLc (vs : List Nat) (mi : M Src) (b : Bind) (mt : M Bool) (me : M D) : M D := mB mi fun src => fun g S =>
  match lcGo src b mt me (wipeG g vs) src.1 [] S with
  | some (l, S1) => some (.ok (.lst l), S1)
  | none => none
theorem sl_wipe (hh : cl.hd = none) {φ : List Addr} {G : Hp} {g : Gm} {σ : St} (s : Sl K cl φ G g σ) : ∀ vs : List Nat, Sl K cl φ G (wipeG g vs) (wipe σ vs)
  | [] => s
  | v :: vs => (sl_wipe hh s vs).wipe hh
theorem wipe_get (σ : St) (i : Nat) : ∀ vs : List Nat, (wipe σ vs)[i]? = if i ∈ vs then (σ[i]?).map (fun _ => none) else σ[i]?
  | [] => by simp [wipe]
  | v :: vs => by
    unfold wipe
    rw [List.getElem?_set]
    by_cases h : v = i
    · subst h
      rw [if_pos rfl, if_pos List.mem_cons_self, wipe_length]
      by_cases hl : v < σ.length
      · rw [if_pos hl, List.getElem?_eq_getElem hl]; rfl
      · rw [if_neg hl, List.getElem?_eq_none (by omega)]; rfl
    · rw [if_neg h, wipe_get σ i vs]
      have e : (i ∈ v :: vs) ↔ i ∈ vs := by simp [Ne.symm h]
      simp only [e]
theorem wipe_twice (σ : St) (vs : List Nat) : wipe (wipe σ vs) vs = wipe σ vs := by
  apply List.ext_getElem?
  intro i
  rw [wipe_get, wipe_get]
  split
  · cases σ[i]? <;> rfl
  · rfl
theorem wipe_set (σ : St) (vs : List Nat) {i : Nat} (x : Option V) (h : i ∈ vs) : wipe (σ.set i x) vs = wipe σ vs := by
  apply List.ext_getElem?
  intro j
  rw [wipe_get, wipe_get]
  split
  · rw [List.getElem?_set]
    split
    · rename_i e; subst e
      split
      · rename_i hl; rw [List.getElem?_eq_getElem hl]; rfl
      · rename_i hl; rw [List.getElem?_eq_none (by omega)]
    · rfl
  · rename_i hn
    rw [List.getElem?_set_ne (fun e : i = j => hn (by rw [← e]; exact h))]
/-- targets of a block: the block's own names alone -/
def tGw (K : PySem.W.Frag) (cl : Cl) (vs : List Nat) (b : Bind) : TG := fun v σ H Q => ∃ φ G g S d g', Wd K cl φ S G H ∧ Sl K cl φ G g σ ∧ IsD K φ G d v ∧ b d g = some g' ∧ ∀ σ', Sl K cl φ G g' σ' → wipe σ' vs = wipe σ vs → Q σ' H
def tGsw (K : PySem.W.Frag) (cl : Cl) (vs : List Nat) (b : Binds) : TGs := fun v σ H Q => ∃ φ G g S d g', Wd K cl φ S G H ∧ Sl K cl φ G g σ ∧ IsDs K φ G d v ∧ b d g = some g' ∧ ∀ σ', Sl K cl φ G g' σ' → wipe σ' vs = wipe σ vs → Q σ' H
abbrev RGw (X : Cx) (cl : Cl) (vs : List Nat) (tg : Expr) (b : Bind) : Prop := PG X tg (tGw X.K cl vs b)
abbrev RGsw (X : Cx) (cl : Cl) (vs : List Nat) (tg : List Expr) (b : Binds) : Prop := PGs X tg (tGsw X.K cl vs b)
theorem rgw_name {vs : List Nat} {i : Nat} {x : Str} {pos : Pos} (hN : X.N.Nodup) (hv : i ∈ vs := by decide) (hi : X.N[i]? = some x := by rfl) (hx : Loc X.env.scope x := by first | exact Or.inl rfl | exact Or.inr rfl) (hf : X.fn x = true ∨ X.env.scope.names.lookup x = some .local := by first | exact .inl rfl | exact .inr rfl | assumption) : RGw X cl vs (.Name x pos) (bN i) := by
  refine pg_imp (pg_name hN hi hx hf) fun v σ H Q ⟨φ, G, g, S, d, g', w, s, hv', e, k⟩ => ?_
  cases e
  exact k _ (s.set hv') (wipe_set _ _ _ hv)
theorem rgsw_nil {vs : List Nat} : RGsw X cl vs [] bNil := by
  refine pgs_imp pgs_nil fun v σ H Q ⟨φ, G, g, S, d, g', w, s, hv, e, k⟩ => ?_
  cases d <;> cases e
  exact ⟨hv.nil_inv, k _ s rfl⟩
theorem rgsw_cons {vs : List Nat} {a : Expr} {es : List Expr} {b : Bind} {bs : Binds} (h1 : RGw X cl vs a b) (h2 : RGsw X cl vs es bs) (hs : (assignEach (a :: es) X.env).map (·.2) = assign a X.env :: (assignEach es X.env).map (·.2) := by rfl) : RGsw X cl vs (a :: es) (bCons b bs) := by
  refine pgs_imp (pgs_cons h1 h2 hs) fun v σ H Q ⟨φ, G, g, S, ds, g', w, s, hv, e, k⟩ => ?_
  cases ds with
  | nil => cases e
  | cons d r =>
    obtain ⟨v1, r1, rfl, h3, h4⟩ := hv.cons_inv
    unfold bCons at e
    cases q : b d g with
    | none => simp only [q] at e; cases e
    | some g1 =>
      simp only [q] at e
      exact ⟨v1, r1, rfl, φ, G, g, S, d, g1, w, s, h3, q, fun σ1 s1 w1 => ⟨φ, G, g1, S, r, g', w, s1, h4, e, fun σ2 s2 w2 => k σ2 s2 (w2.trans w1)⟩⟩
theorem rgw_tup {vs : List Nat} {es : List Expr} {kk : Nat} {pos : Pos} {bs : Binds} {n : Nat} (h : RGsw X cl vs es bs) (hc : X.calm = true := by rfl) (hn : (assignEach es X.env).length = n := by rfl) (hst : (assignEach es X.env).findIdx? (·.1) = none := by rfl) : RGw X cl vs (.Tuple es kk pos) (bTup n bs) := by
  refine pg_imp (pg_tup hc h hn hst) fun v σ H Q ⟨φ, G, g, S, d, g', w, s, hv, e, k⟩ => ?_
  cases d <;> try (cases e; done)
  rename_i l
  unfold bTup at e
  simp only at e
  split at e
  · rename_i hl
    simp only [IsD] at hv
    obtain ⟨a, xs, rfl, h3, h4⟩ := hv
    exact ⟨a, xs, rfl, Ex.t w.sub h3, by rw [← h4.length]; exact hl, φ, G, g, S, l, g', w, s, h4, e, k⟩
  · cases e
structure LcSt (K : PySem.W.Frag) (cl : Cl) (φ1 : List Addr) (G1 H1 : Hp) (S : Store) (acc : List D) (L : Addr) (H : Hp) (φ : List Addr) (G : Hp) : Prop where
  st : Step φ1 G1 H1 φ G H
  w : Wd K cl φ S G H
  g : G L = none
  nφ : L ∉ φ
  at_ : ∃ vs, H L = some (.lst vs) ∧ IsDs K φ G acc vs
theorem LcSt.step {φ1 : List Addr} {G1 H1 : Hp} {S S' : Store} {acc : List D} {L : Addr} {H H' : Hp} {φ φ' : List Addr} {G G' : Hp} (a : LcSt K cl φ1 G1 H1 S acc L H φ G) (st : Step φ G H φ' G' H') (w : Wd K cl φ' S' G' H') : LcSt K cl φ1 G1 H1 S' acc L H' φ' G' := by
  obtain ⟨vs, h1, h2⟩ := a.at_
  refine ⟨a.st.trans st, w, ?_, fun h => ?_, vs, st.keep _ _ h1 a.nφ, h2.mono st.pre st.ex⟩
  · cases q : G' L with
    | none => rfl
    | some o =>
      rcases st.gn L (by rw [q]; simp) with h | h | h
      · exact absurd a.g h
      · rw [h1] at h; cases h
      · exact absurd h a.nφ
  · rcases st.new L h with h | h
    · exact a.nφ h
    · rw [h1] at h; cases h
theorem LcSt.app {φ1 : List Addr} {G1 H1 : Hp} {S : Store} {acc : List D} {L : Addr} {H : Hp} {φ : List Addr} {G : Hp} (hL : H1 L = none) (a : LcSt K cl φ1 G1 H1 S acc L H φ G) {d : D} {v : V} (hv : IsD K φ G d v) :
    ∃ vs, H L = some (.lst vs) ∧ vs.length = acc.length ∧ LcSt K cl φ1 G1 H1 S (acc ++ [d]) L (upd H L (.lst (vs ++ [v]))) φ G := by
  obtain ⟨vs, h1, h2⟩ := a.at_
  refine ⟨vs, h1, h2.length.symm, ⟨a.st.pre, a.st.ex, a.st.gn, fun x o h hx => ?_, a.st.new⟩, ⟨a.w.len, fun x o h => ?_, a.w.nd, fun x hx => ?_, a.w.ap, fun i c x q1 q2 => ?_, a.w.iv⟩, a.g, a.nφ, _, upd_same, h2.append (.cons hv .nil)⟩
  · have ne : x ≠ L := fun z => by rw [z, hL] at h; cases h
    rw [upd_ne ne]; exact a.st.keep x o h hx
  · have ne : x ≠ L := fun z => by rw [z, a.g] at h; cases h
    rw [upd_ne ne]; exact a.w.sub x o h
  · have ne : x ≠ L := fun z => by rw [z] at hx; exact a.nφ hx
    rw [upd_ne ne]; exact a.w.tr x hx
  · have ne : x ≠ L := fun z => by rw [z] at q2; exact a.nφ (List.mem_of_getElem? q2)
    exact (a.w.ok i c x q1 q2).mono (List.prefix_refl _) (Ex.refl _) fun o h => by rw [upd_ne ne]; exact h
/-- the list becomes stable -/
theorem LcSt.fin {φ1 : List Addr} {G1 H1 : Hp} {S : Store} {acc : List D} {L : Addr} {H : Hp} {φ : List Addr} {G : Hp} (hL : H1 L = none) (a : LcSt K cl φ1 G1 H1 S acc L H φ G) :
    ∃ vs, H L = some (.lst vs) ∧ Step φ1 G1 H1 φ (upd G L (.lst vs)) H ∧ Wd K cl φ S (upd G L (.lst vs)) H ∧ IsD K φ (upd G L (.lst vs)) (.lst acc) (.ref L) := by
  obtain ⟨vs, h1, h2⟩ := a.at_
  have ex : Ex G (upd G L (.lst vs)) := Ex.new a.g
  refine ⟨vs, h1, ⟨a.st.pre, a.st.ex.trans ex, fun x h => ?_, a.st.keep, a.st.new⟩, ⟨a.w.len, fun x o h => ?_, a.w.nd, a.w.tr, fun i c x q1 q2 q3 => ?_, fun i c x q1 q2 => (a.w.ok i c x q1 q2).mono (List.prefix_refl _) ex fun o h => h, cl.mono _ _ ex a.w.iv⟩, ?_⟩
  · by_cases e : x = L
    · subst e; exact .inr (.inl hL)
    · rw [upd_ne e] at h; exact a.st.gn x h
  · by_cases e : x = L
    · subst e; rw [upd_same] at h; rw [← h]; exact h1
    · rw [upd_ne e] at h; exact a.w.sub x o h
  · have ne : x ≠ L := fun z => by rw [z] at q2; exact a.nφ (List.mem_of_getElem? q2)
    rw [upd_ne ne]; exact a.w.ap i c x q1 q2 q3
  · simp only [IsD]
    exact ⟨L, vs, rfl, upd_same, h2.mono (List.prefix_refl _) ex⟩
/-- the loop, and what is wanted of the list at its end -/
theorem tLc_core (hh : cl.hd = none) {vs : List Nat} {mi : M Src} {b : Bind} {mt : M Bool} {me : M D} {σ : St} {H : Hp} {Q : VK} {φ : List Addr} {G : Hp} {g : Gm} {S S1 S' : Store} {src : Src} {l : List D} (w : Wd K cl φ S G H) (s : Sl K cl φ G g σ) (e1 : mi g S = some (.ok src, S1))
    (q : lcGo src b mt me (wipeG g vs) src.1 [] S1 = some (l, S')) (fin : ∀ φ1 G1 H1 L φ' G' H', Step φ G H φ1 G1 H1 → H1 L = none → LcSt K cl φ1 G1 H1 S' l L H' φ' G' → Q (.ref L) H') :
    tLc (tI K cl tk mi) (tGw K cl vs b) (tMT K cl (fun _ => False) mt) (tM K cl (fun _ => False) me) vs σ H Q := by
  · refine ⟨φ, G, g, S, _, _, w, s, e1, fun φ1 G1 H1 st1 w1 J wj L hL => ?_⟩
    obtain ⟨Gd, Y, wk, hG, hY⟩ := wj.ex
    · refine ⟨fun i m H' => m = src.1.length - i ∧ i ≤ src.1.length ∧ ∃ φ' G' S2 acc, LcSt K cl φ1 G1 H1 S2 acc L H' φ' G' ∧ lcGo src b mt me (wipeG g vs) (src.1.drop i) acc S2 = some (l, S'), ⟨_, rfl, Nat.zero_le _, φ1, G1, S1, [], ?_, q⟩, ?_⟩
      · refine ⟨⟨List.prefix_refl _, Ex.refl _, fun x h => .inl h, fun x o h _ => Ex.new hL x o h, fun x h => .inl h⟩, ⟨w1.len, w1.sub.trans (Ex.new hL), w1.nd, fun x hx => ?_, w1.ap, fun i c x q1 q2 => (w1.ok i c x q1 q2).mono (List.prefix_refl _) (Ex.refl _) (Ex.new hL x), w1.iv⟩, w1.gnone hL, fun h => w1.tr L h hL, [], upd_same, .nil⟩
        by_cases e : x = L
        · subst e; rw [upd_same]; simp
        · rw [upd_ne e]; exact w1.tr x hx
      · rintro i m H' ⟨rfl, hle, φ', G', S2, acc, a, e3⟩
        cases hd : src.1.drop i with
        | nil =>
          have hi : i = src.1.length := by
            have := congrArg List.length hd
            simp at this; omega
          subst hi
          rw [hd] at e3
          unfold lcGo at e3
          split at e3
          · rename_i hok
            cases e3
            exact .inl ⟨wk.stops _ (hG _ _ _ _ a.st a.w hok), fin _ _ _ _ _ _ _ st1 hL a⟩
          · cases e3
        | cons d ds =>
          obtain ⟨hd1, hd2, hlt⟩ := drop_get hd
          rw [hd] at e3
          unfold lcGo at e3
          split at e3
          · rename_i hok
            split at e3
            · cases e3
            · rename_i g1 hb1
              refine .inr ⟨wk.goes _ _ hlt (hG _ _ _ _ a.st a.w hok), fun H3 => ∃ φ3 G3 S3 acc3, LcSt K cl φ1 G1 H1 S3 acc3 L H3 φ3 G3 ∧ lcGo src b mt me (wipeG g vs) ds acc3 S3 = some (l, S'), fun H3 ⟨φ3, G3, S3, acc3, a1, a2⟩ => ⟨src.1.length - (i + 1), by omega, rfl, hlt, φ3, G3, S3, acc3, a1, by rw [hd2]; exact a2⟩, fun x H3 hy => ?_⟩
              obtain ⟨G3, st3, w3, hx⟩ := hY _ _ _ _ i d x H3 a.st a.w hok hd1 (wk.yields _ _ _ _ hlt (hG _ _ _ _ a.st a.w hok) hy)
              have a3 := a.step st3 w3
              refine ⟨φ', G3, wipeG g vs, S2, d, g1, w3, sl_wipe hh (s.step (st1.trans a3.st)) vs, hx, hb1, fun σ4 s4 hw4 => ?_⟩
              refine ⟨?_, ?_⟩
              · rw [hw4]
                exact wipe_twice σ vs
              split at e3
              · rename_i S3 q3
                refine ⟨φ', G3, g1, S2, _, _, w3, s4, q3, fun φ4 G4 H4 st4 w4 => ?_⟩
                show (if true = true then _ else _)
                rw [if_pos rfl]
                split at e3
                · rename_i z S4 q4
                  refine ⟨φ4, G4, g1, S3, _, _, w4, s4.step st4, q4, fun φ5 G5 H5 st5 w5 v hv => ?_⟩
                  split at e3
                  · rename_i hz
                    have a5 := (a3.step st4 w4).step st5 w5
                    obtain ⟨us, h1, h2, a6⟩ := a5.app hL hv
                    exact ⟨us, h1, by rw [h2]; exact Nat.lt_of_lt_of_le (Nat.lt_succ_self _) (szOk_le hz), φ5, G5, S4, acc ++ [z], a6, e3⟩
                  · cases e3
                · cases e3
              · rename_i S3 q3
                refine ⟨φ', G3, g1, S2, _, _, w3, s4, q3, fun φ4 G4 H4 st4 w4 => ?_⟩
                show (if false = true then _ else _)
                rw [if_neg Bool.false_ne_true]
                exact ⟨φ4, G4, S3, acc, a3.step st4 w4, e3⟩
              · cases e3
          · cases e3
theorem tLc_of (hh : cl.hd = none) {vs : List Nat} {mi : M Src} {b : Bind} {mt : M Bool} {me : M D} (ht : TkOk tk) {σ : St} {H : Hp} {Q : VK}
    (h : tM K cl tk (mLc vs mi b mt me) σ H Q) : tLc (tI K cl tk mi) (tGw K cl vs b) (tMT K cl (fun _ => False) mt) (tM K cl (fun _ => False) me) vs σ H Q := by
  obtain ⟨φ, G, g, S, r, S', w, s, e, k⟩ := h
  rcases mB_ok e with ⟨src, S1, e1, e2⟩ | ⟨c, fs, e1, rfl⟩
  · split at e2
    · rename_i l S2 q
      cases e2
      refine tLc_core hh w s e1 q fun φ1 G1 H1 L φ' G' H' st1 hL a => ?_
      obtain ⟨us, h1, h2, h3, h4⟩ := a.fin hL
      exact k _ _ _ (st1.trans h2) h3 _ h4
    · cases e2
  · exact ⟨φ, G, g, S, _, _, w, s, e1, k⟩
theorem re_lc {elt tg iter : Expr} {ifs : List Expr} {scope : Scope} {own : List (Str × Nat)} {pos : Pos} {mi : M Src} {b : Bind} {mt : M Bool} {me : M D} (hN : X.N.Nodup) (hi : RI X cl tk tg iter mi) (ok : BlkOk X.N X.env.scope scope own)
    (hg : ∀ (s : Shared) (H : Hp) (C : Addr) (cc : List (Str × Addr)) (fp : List Addr), RGw (X.blk s H scope (compEnvC scope cc C X.env) fp) cl (own.map (·.2)) tg b)
    (ht : ∀ (s : Shared) (H : Hp) (C : Addr) (cc : List (Str × Addr)) (fp : List Addr), PTs (X.blk s H scope (compEnvC scope cc C X.env) fp) ifs (tMT X.K cl (fun _ => False) mt))
    (he : ∀ (s : Shared) (H : Hp) (C : Addr) (cc : List (Str × Addr)) (fp : List Addr), RE (X.blk s H scope (compEnvC scope cc C X.env) fp) cl (fun _ => False) elt me) (hc : X.calm = true := by rfl) (hs : ∀ x, foldedSetIterable iter X.env x = pure x := by intro _; rfl) (hh : cl.hd = none := by rfl) :
    RE X cl tk (.ListComp elt [⟨tg, iter, ifs, 0⟩] scope pos) (mLc (own.map (·.2)) mi b mt me) :=
  pe_imp (pe_lc hc hN hi ok hg ht he hs) fun _ _ _ h => tLc_of hh T.ok h
/-- y = [..] on one line -/
theorem rs_setLc {i : Nat} {y : Str} {py : Pos} {elt tg iter : Expr} {ifs : List Expr} {scope : Scope} {own : List (Str × Nat)} {pos spos : Pos} {mi : M Src} {b : Bind} {mt : M Bool} {me : M D} (hN : X.N.Nodup) (hi : RI X cl tk tg iter mi) (ok : BlkOk X.N X.env.scope scope own)
    (hg : ∀ (s : Shared) (H : Hp) (C : Addr) (cc : List (Str × Addr)) (fp : List Addr), RGw (X.blk s H scope (compEnvC scope cc C X.env) fp) cl (own.map (·.2)) tg b)
    (ht : ∀ (s : Shared) (H : Hp) (C : Addr) (cc : List (Str × Addr)) (fp : List Addr), PTs (X.blk s H scope (compEnvC scope cc C X.env) fp) ifs (tMT X.K cl (fun _ => False) mt))
    (he : ∀ (s : Shared) (H : Hp) (C : Addr) (cc : List (Str × Addr)) (fp : List Addr), RE (X.blk s H scope (compEnvC scope cc C X.env) fp) cl (fun _ => False) elt me) (hsw : swapsWith (.ListComp elt [⟨tg, iter, ifs, 0⟩] scope pos) (some (.Name y py)) spos.line X.env = pure true)
    (hy : X.N[i]? = some y := by rfl) (hyl : X.env.scope.names.lookup y = some .local := by rfl) (hc : X.calm = true := by rfl) (hs : ∀ x, foldedSetIterable iter X.env x = pure x := by intro _; rfl) (hh : cl.hd = none := by rfl) :
    RS X cl tk (.Assign [.Name y py] (.ListComp elt [⟨tg, iter, ifs, 0⟩] scope pos) spos) (mSet i (mLc (own.map (·.2)) mi b mt me)) := by
  refine ps_imp (ps_setLc (g := tGw X.K cl (own.map (·.2)) b) (te := tM X.K cl (fun _ => False) me) hc hN hy hyl hsw hi ok hg ht he hs) fun Dn σ H ⟨φ, G, g, S, o, S', w, s, e, k⟩ => ?_
  show tLc _ _ _ _ _ _ _ _
  refine tLc_of hh T.ok ?_
  refine tM_stmt (f := fun d g S1 => some (.nx (g.set i (some d)), S1)) w s e k T.ok fun d φ1 G1 H1 S1 v st1 w1 s1 hv e1 k1 => ?_
  cases e1
  exact k1 φ1 G1 H1 (Step.refl _ _ _) w1 _ (s1.set hv)
theorem rts_nil : PTs X [] (tMT X.K cl tk (mP true)) := ⟨fun pins s σ H Q I h => pts_nil.run pins s σ H Q I (by
  obtain ⟨φ, G, g, S, r, S', w, sl, e, k⟩ := h
  cases e
  exact k.now w)⟩
theorem rts_one {c : Expr} {m : M Bool} (h : RT X cl tk c m) : PTs X [c] (tMT X.K cl tk m) := pts_one h

/-! ### a cell is written -/
theorem set_get {α : Type} {l : List α} {i j : Nat} {c d : α} (h : (l.set i c)[j]? = some d) : (j = i ∧ d = c) ∨ (j ≠ i ∧ l[j]? = some d) := by
  by_cases e : j = i
  · subst e
    rw [List.getElem?_set] at h
    simp at h
    exact .inl ⟨rfl, h.2.symm⟩
  · rw [List.getElem?_set_ne (Ne.symm e)] at h
    exact .inr ⟨e, h⟩
theorem write_step {φ : List Addr} {S : Store} {G H : Hp} (w : Wd K cl φ S G H) {i : Nat} {a : Addr} (hi : φ[i]? = some a) (o : HO) : Step φ G H φ G (upd H a o) where
  pre := List.prefix_refl _
  ex := Ex.refl _
  gn := fun _ h => .inl h
  keep := fun x u h hx => by
    have ne : x ≠ a := fun z => hx (by rw [z]; exact List.mem_of_getElem? hi)
    rw [upd_ne ne]; exact h
  new := fun _ h => .inl h
theorem nodup_at {l : List Addr} (nd : l.Nodup) {i j : Nat} {a : Addr} (h1 : l[i]? = some a) (h2 : l[j]? = some a) : i = j := by
  obtain ⟨p, q⟩ := List.getElem?_eq_some_iff.mp h1
  obtain ⟨p', q'⟩ := List.getElem?_eq_some_iff.mp h2
  exact (List.getElem_inj nd).mp (q.trans q'.symm)
theorem write_wd {φ : List Addr} {S : Store} {G H : Hp} (w : Wd K cl φ S G H) {i : Nat} {a : Addr} {c c' : Cell} (hS : S[i]? = some c') (hl : c'.live = true) (hi : φ[i]? = some a) {o : HO} (hc : CellOk K cl φ G (upd H a o) a c) : Wd K cl φ (S.set i c) G (upd H a o) where
  len := by rw [List.length_set]; exact w.len
  iv := w.iv
  sub := fun x u h => by
    have ne : x ≠ a := fun z => by
      have := w.ap i _ a hS hi hl
      rw [z, this] at h; cases h
    rw [upd_ne ne]; exact w.sub x u h
  nd := w.nd
  tr := fun x h => by
    by_cases e : x = a
    · subst e; rw [upd_same]; simp
    · rw [upd_ne e]; exact w.tr x h
  ap := fun j d x h1 h2 h3 => by
    rcases set_get h1 with ⟨rfl, rfl⟩ | ⟨ne, h1⟩
    · rw [hi] at h2; cases h2
      exact w.ap _ _ _ hS hi hl
    · exact w.ap j d x h1 h2 h3
  ok := fun j d x h1 h2 => by
    rcases set_get h1 with ⟨rfl, rfl⟩ | ⟨ne, h1⟩
    · rw [hi] at h2; cases h2
      exact hc
    · have nx : x ≠ a := fun z => ne (nodup_at w.nd h2 (by rw [z]; exact hi))
      exact (w.ok j d x h1 h2).mono (List.prefix_refl _) (Ex.refl _) fun o h => by rw [upd_ne nx]; exact h
/-- a list cell -/
def atC (S : Store) (d : D) : Option (Nat × List D) := match d with
  | .ref i => match S[i]? with
    | some (.lst l) => some (i, l)
    | _ => none
  | _ => none
theorem atC_ok {φ : List Addr} {S : Store} {G H : Hp} (w : Wd K cl φ S G H) {d : D} {v : V} {i : Nat} {l : List D} (h : IsD K φ G d v) (e : atC S d = some (i, l)) : S[i]? = some (.lst l) ∧ ∃ a xs, v = .ref a ∧ φ[i]? = some a ∧ H a = some (.lst xs) ∧ IsDs K φ G l xs := by
  unfold atC at e
  split at e
  · split at e
    · rename_i i' l' hi
      cases e
      simp only [IsD] at h
      obtain ⟨a, h1, h2⟩ := h
      obtain ⟨vs, h3, h4⟩ := w.ok _ _ _ hi h2
      exact ⟨hi, a, vs, h1, h2, h3, h4⟩
    · cases e
  · cases e
noncomputable def mApp (mo me : M D) : M D := mB mo fun d => mB (mL fun S => atC S d) fun _ => mB me fun e => fun _ S => match atC S d with
  | some (i, l) => if szOk (l.length + 1) = true then some (.ok .non, S.set i (.lst (l ++ [e]))) else none
  | none => none
theorem re_app {o e : Expr} {apos cpos : Pos} {mo me : M D} (ho : RE X cl tk o mo) (he : RE X cl tk e me)
    (hbase : attributeBase o "append" X.env (eval o X.env) = eval o X.env := by rfl)
    (hfew : ((backTo cpos (starEach [e] X.env)).all (fun x => !x.1) && (backToKw cpos (keywordEach [] X.env)).all (fun x => x.1.isSome)
      && decide ([e].length + ([] : List Keyword).length + (if ([] : List Keyword).isEmpty then 0 else 1) < 30)) = true := by rfl)
    (hline : (apos.endLine == cpos.line) = true := by rfl) (hs : starEach [e] X.env = (false, eval e X.env) :: starEach [] X.env := by rfl) (hplain : (backTo cpos (starEach [] X.env)).any (·.1) = false := by rfl) :
    RE X cl tk (.Call (.Attribute o "append" apos) [e] [] cpos) (mApp mo me) := by
  refine pe_imp (pe_bm PySem.F.plainAttrs_list PySem.F.slot_list_append PySem.F.type_list_append mt_append ho (pa_cons he pa_nil hs) hbase hfew hline hs hplain) fun σ H Q ⟨φ, G, g, S, r, S', w, s, e', k⟩ => ?_
  refine tM_bind T.ok w s e' k fun d φ1 G1 H1 S1 x st1 w1 s1 hx e1 k1 => ?_
  rcases mB_ok e1 with ⟨u, S2, e2, e3⟩ | ⟨c, fs, e2, rfl⟩
  · obtain ⟨⟨i0, l0⟩, ez, _, rfl⟩ := mL_ok e2
    obtain ⟨_, a, xs, rfl, hφ, hH, _⟩ := atC_ok w1 hx ez
    refine ⟨.inl ⟨rfl, _, SqL.of hH⟩, ?_⟩
    refine tM_bind T.ok w1 s1 e3 k1 fun y φ2 G2 H2 S3 v st2 w2 s2 hv e4 k2 => ?_
    split at e4
    · rename_i i l q
      split at e4
      · rename_i hz
        cases e4
        obtain ⟨h0, a', xs', e5, h1, h2, h3⟩ := atC_ok w2 (hx.mono st2.pre st2.ex) q
        cases e5
        refine ⟨a, xs', v, rfl, rfl, h2, by rw [← h3.length]; exact Nat.lt_of_lt_of_le (Nat.lt_succ_self _) (szOk_le hz), ?_⟩
        exact k2 _ _ _ (write_step w2 h1 _) (write_wd w2 h0 rfl h1 ⟨_, upd_same, h3.append (.cons hv .nil)⟩) _ (by simp only [IsD])
      · cases e4
    · cases e4
  · obtain ⟨_, _, q, _⟩ := mL_ok e2
    cases q
end
end Mi
namespace Mi
open PySem L2
section
variable {X : Cx} {cl : Cl} {tk : WX → Prop} [T : Tk X tk]
variable {K : PySem.W.Frag}
/-! ### numbers -/
def f2I (C : Int → Int → Bool) (g : Int → Int → D) : Store → D → D → Option D := fun _ d e => match d, e with
  | .int i, .int j => if C i j = true then some (g i j) else none
  | _, _ => none
theorem f2I_inv {C : Int → Int → Bool} {g : Int → Int → D} {S : Store} {d e z : D} (h : f2I C g S d e = some z) : ∃ i j, d = .int i ∧ e = .int j ∧ C i j = true ∧ z = g i j := by
  unfold f2I at h
  split at h
  · split at h
    · rename_i hc; cases h; exact ⟨_, _, rfl, rfl, hc, rfl⟩
    · cases h
  · cases h
theorem s2I {P : Int → Int → Prop} {C : Int → Int → Bool} {g : Int → Int → V} {g' : Int → Int → D} (hC : ∀ i j, C i j = true → P i j) (hg : ∀ i j φ G, IsD K φ G (g' i j) (g i j)) : OpS K cl (rI P g) (f2I C g') := fun φ S G H x y d e z Q w h1 h2 h3 k => by
  obtain ⟨i, j, rfl, rfl, hc, rfl⟩ := f2I_inv h3
  simp only [IsD] at h1 h2
  exact ⟨i, j, h1, h2, hC i j hc, k _ _ _ (Step.refl _ _ _) w _ (hg i j _ _)⟩
theorem s2I0 {g : Int → Int → V} {g' : Int → Int → D} (hg : ∀ i j φ G, IsD K φ G (g' i j) (g i j)) : OpS K cl (rI0 g) (f2I (fun _ _ => true) g') := fun φ S G H x y d e z Q w h1 h2 h3 k => by
  obtain ⟨i, j, rfl, rfl, hc, rfl⟩ := f2I_inv h3
  simp only [IsD] at h1 h2
  exact ⟨i, j, h1, h2, k _ _ _ (Step.refl _ _ _) w _ (hg i j _ _)⟩
def cTrue : Int → Int → Bool := fun _ _ => true
noncomputable def cMul : Int → Int → Bool := fun i j => cdec ((-(2 ^ 64) < i ∧ i < 2 ^ 64) ∨ (-(2 ^ 64) < j ∧ j < 2 ^ 64))
noncomputable def cDiv : Int → Int → Bool := fun i j => cdec (0 < j ∧ j < 1073741824)
noncomputable def cMod : Int → Int → Bool := fun i j => cdec (0 < j)
noncomputable def cPow : Int → Int → Bool := fun i j => cdec (0 ≤ j ∧ j ≤ 1000000 ∧ i.natAbs < 2 ^ 64)
/-- int + int, str + str, list + list -/
noncomputable def fAdd : Store → D → D → Option D := fun S d e => match d, e with
  | .int i, .int j => some (.int (i + j))
  | .str x, .str y => if szOk (x.length + y.length) = true then some (.str (x ++ y)) else none
  | .tup x, .tup y => if x ≠ [] ∧ y ≠ [] ∧ szOk (x.length + y.length) = true then some (.tup (x ++ y)) else none
  | d, e => match asLL S d, asLL S e with
    | some x, some y => if szOk (x.length + y.length) = true then some (.lst (x ++ y)) else none
    | _, _ => none
def rAddA (K : PySem.W.Frag) : R2 := fun x y H Q => (rI0 fun i j => .int (i + j)) x y H Q ∨ (fun x y H Q => ∃ i j, x = .str i ∧ y = .str j ∧ i.length + j.length ≤ sizeLine ∧ Q (.str (i ++ j)) H) x y H Q ∨ rCat x y H Q ∨ rCatT K x y H Q
theorem op_addA : OpR X (binaryOp .Add) (rAddA X.K) := op_add.or (op_add_str.or (op_cat.or op_catT))
theorem fAdd_ok : OpS K cl (rAddA K) fAdd := fun φ S G H x y d0 e0 z Q w h1 h2 h3 k => by
  unfold fAdd at h3
  split at h3
  · cases h3
    simp only [IsD] at h1 h2
    exact .inl ⟨_, _, h1, h2, k _ _ _ (Step.refl _ _ _) w _ (by simp only [IsD])⟩
  · split at h3
    · rename_i hz
      cases h3
      simp only [IsD] at h1 h2
      exact .inr (.inl ⟨_, _, h1, h2, szOk_le hz, k _ _ _ (Step.refl _ _ _) w _ (by simp only [IsD])⟩)
    · cases h3
  · split at h3
    · rename_i x' y' hz
      cases h3
      simp only [IsD] at h1 h2
      obtain ⟨a, xs, e1, e2, e3⟩ := h1
      obtain ⟨b, ys, e4, e5, e6⟩ := h2
      have n0 : xs ≠ [] := fun q => hz.1 (List.length_eq_zero_iff.mp (by rw [e3.length, q]; rfl))
      refine .inr (.inr (.inr ⟨a, b, xs, ys, e1, e4, Ex.t w.sub e2, Ex.t w.sub e5, n0, ?_, ?_⟩))
      · rw [← e3.length, ← e6.length]; exact szOk_le hz.2.2
      · refine ⟨fun q => absurd (List.length_eq_zero_iff.mp (by rw [e6.length, q]; rfl)) hz.2.1, fun _ => new_tup w (e3.append e6) k⟩
    · cases h3
  · split at h3
    · rename_i x' y' q1 q2
      split at h3
      · rename_i hz
        cases h3
        obtain ⟨a, xs, e1, e2, e3⟩ := asLL_sq w h1 q1
        obtain ⟨b, ys, e4, e5, e6⟩ := asLL_sq w h2 q2
        exact .inr (.inr (.inl ⟨a, b, xs, ys, e1, e4, e2, e5, by rw [← e3.length, ← e6.length]; exact szOk_le hz, new_lst w (e3.append e6) k⟩))
      · cases h3
    · cases h3

/-! ### comparisons -/
def flV : D → Option V
  | .non => some .non
  | .bl b => some (.bl b)
  | .int i => some (.int i)
  | .str x => some (.str x)
  | _ => none
theorem flV_ok {φ : List Addr} {G : Hp} {d : D} {v x : V} (h : IsD K φ G d v) (e : flV d = some x) : v = x := by
  cases d <;> simp only [flV] at e <;> first | (cases e; done) | skip
  all_goals (cases e; simp only [IsD] at h; exact h)
mutual
def toP : D → Option PyData
  | .non => some .none
  | .bl b => some (.bool b)
  | .int i => some (.int i)
  | .str x => some (.str x)
  | .tup l => (toPs l).map .tuple
  | .lst l => (toPs l).map .list
  | _ => none
def toPs : List D → Option (List PyData)
  | [] => some []
  | d :: ds => (toP d).bind fun p => (toPs ds).map fun ps => p :: ps
end
mutual
theorem toP_ok {φ : List Addr} {G H : Hp} (e : Ex G H) : ∀ {d : D} {v : V} {p : PyData}, IsD K φ G d v → toP d = some p → Dp K H v p
  | .non, _, _, h, q => by
    simp only [IsD] at h; simp only [toP] at q; cases q; subst h; exact .non
  | .bl b, _, _, h, q => by
    simp only [IsD] at h; simp only [toP] at q; cases q; subst h; exact .bl _
  | .int b, _, _, h, q => by
    simp only [IsD] at h; simp only [toP] at q; cases q; subst h; exact .int _
  | .str b, _, _, h, q => by
    simp only [IsD] at h; simp only [toP] at q; cases q; subst h; exact .str _
  | .tup l, _, _, h, q => by
    simp only [IsD] at h; simp only [toP] at q
    obtain ⟨a, xs, rfl, h1, h2⟩ := h
    cases r : toPs l with
    | none => rw [r] at q; cases q
    | some ps => rw [r] at q; cases q; exact .tup (e.t h1) (toPs_ok e h2 r)
  | .lst l, _, _, h, q => by
    simp only [IsD] at h; simp only [toP] at q
    obtain ⟨a, xs, rfl, h1, h2⟩ := h
    cases r : toPs l with
    | none => rw [r] at q; cases q
    | some ps => rw [r] at q; cases q; exact .lst (SqL.of (e _ _ h1)) (toPs_ok e h2 r)
  | .scr l, _, _, h, q => by simp only [toP] at q; cases q
  | .ref l, _, _, h, q => by simp only [toP] at q; cases q
theorem toPs_ok {φ : List Addr} {G H : Hp} (e : Ex G H) : ∀ {ds : List D} {vs : List V} {ps : List PyData}, IsDs K φ G ds vs → toPs ds = some ps → DpAll K H vs ps
  | [], _, _, h, q => by
    rw [h.nil_inv]; simp only [toPs] at q; cases q; exact .nil
  | d :: ds, _, _, h, q => by
    obtain ⟨v, r, rfl, h1, h2⟩ := h.cons_inv
    simp only [toPs] at q
    cases a : toP d with
    | none => rw [a] at q; cases q
    | some p =>
      rw [a] at q
      cases b : toPs ds with
      | none => simp only [b] at q; cases q
      | some ps => simp only [b] at q; cases q; exact .cons (toP_ok e h1 a) (toPs_ok e h2 b)
end
/-- list cells within are read -/
def dr (S : Store) : Nat → D → D
  | 0, d => d
  | n + 1, d => match d with
    | .ref i => match S[i]? with
      | some (.lst l) => .lst (l.map (dr S n))
      | _ => .ref i
    | .lst l => .lst (l.map (dr S n))
    | .tup l => .tup (l.map (dr S n))
    | d => d
theorem drs_ok {φ : List Addr} {S : Store} {G H : Hp} {n : Nat} (ih : ∀ {d : D} {v : V} {p : PyData}, IsD K φ G d v → toP (dr S n d) = some p → Dp K H v p) :
    ∀ {ds : List D} {vs : List V} {ps : List PyData}, IsDs K φ G ds vs → toPs (ds.map (dr S n)) = some ps → DpAll K H vs ps
  | [], _, _, h, q => by
    rw [h.nil_inv]; simp only [List.map_nil, toPs] at q; cases q; exact .nil
  | d :: ds, _, _, h, q => by
    obtain ⟨v, r, rfl, h1, h2⟩ := h.cons_inv
    simp only [List.map_cons, toPs] at q
    cases a : toP (dr S n d) with
    | none => rw [a] at q; cases q
    | some p =>
      rw [a] at q
      cases b : toPs (ds.map (dr S n)) with
      | none => simp only [b] at q; cases q
      | some ps => simp only [b] at q; cases q; exact .cons (ih h1 a) (drs_ok ih h2 b)
theorem dr_ok {φ : List Addr} {S : Store} {G H : Hp} (w : Wd K cl φ S G H) : ∀ (n : Nat) {d : D} {v : V} {p : PyData}, IsD K φ G d v → toP (dr S n d) = some p → Dp K H v p
  | 0, d, v, p, h, q => toP_ok w.sub h q
  | n + 1, d, v, p, h, q => by
    have ih := fun {d : D} {v : V} {p : PyData} => dr_ok w n (d := d) (v := v) (p := p)
    cases d with
    | ref i =>
      simp only [dr] at q
      split at q
      · rename_i l hl
        simp only [IsD] at h
        obtain ⟨a, rfl, ha⟩ := h
        obtain ⟨xs, h2, h3⟩ := w.ok _ _ _ hl ha
        simp only [toP] at q
        cases r : toPs (l.map (dr S n)) with
        | none => rw [r] at q; cases q
        | some ps => rw [r] at q; cases q; exact .lst (SqL.of h2) (drs_ok ih h3 r)
      · simp only [toP] at q; cases q
    | lst l =>
      simp only [dr, toP] at q
      simp only [IsD] at h
      obtain ⟨a, xs, rfl, h1, h2⟩ := h
      cases r : toPs (l.map (dr S n)) with
      | none => rw [r] at q; cases q
      | some ps => rw [r] at q; cases q; exact .lst (SqL.of (w.sub _ _ h1)) (drs_ok ih h2 r)
    | tup l =>
      simp only [dr, toP] at q
      simp only [IsD] at h
      obtain ⟨a, xs, rfl, h1, h2⟩ := h
      cases r : toPs (l.map (dr S n)) with
      | none => rw [r] at q; cases q
      | some ps => rw [r] at q; cases q; exact .tup (Ex.t w.sub h1) (drs_ok ih h2 r)
    | non => exact toP_ok w.sub h q
    | bl b => exact toP_ok w.sub h q
    | int b => exact toP_ok w.sub h q
    | str b => exact toP_ok w.sub h q
    | scr b => exact toP_ok w.sub h q
    | cls b => exact toP_ok w.sub h q
/-- .. a list cell too -/
def toPS (S : Store) (d : D) : Option PyData := match atC S d with
  | some (_, l) => match toPs l with
    | some ps => some (.list ps)
    | none => (toPs (l.map (dr S 3))).map .list
  | none => match toP d with
    | some p => some p
    | none => toP (dr S 3 d)
theorem toPS_ok {φ : List Addr} {S : Store} {G H : Hp} (w : Wd K cl φ S G H) {d : D} {v : V} {p : PyData} (h : IsD K φ G d v) (e : toPS S d = some p) : Dp K H v p := by
  unfold toPS at e
  split at e
  · rename_i i l q
    obtain ⟨_, a, xs, rfl, h1, h2, h3⟩ := atC_ok w h q
    split at e
    · rename_i ps r
      cases e; exact .lst (SqL.of h2) (toPs_ok w.sub h3 r)
    · cases r : toPs (l.map (dr S 3)) with
      | none => rw [r] at e; cases e
      | some ps => rw [r] at e; cases e; exact .lst (SqL.of h2) (drs_ok (fun {_ _ _} => dr_ok w 3) h3 r)
  · split at e
    · rename_i p' r
      cases e; exact toP_ok w.sub h r
    · exact dr_ok w 3 h e
def eqB (S : Store) (d e : D) : Option Bool := match flV d, flV e with
  | some x, some y => if scal x y = true then some (decide (x = y)) else none
  | _, _ => match toPS S d, toPS S e with
    | some p, some q => if SeqAt.shaped p = true ∧ SeqAt.shaped q = true then some (PyData.eqv p q) else none
    | _, _ => none
def fEq : Store → D → D → Option D := fun S d e => (eqB S d e).map .bl
def fNe : Store → D → D → Option D := fun S d e => (eqB S d e).map fun b => .bl (!b)
def rEqA (K : PySem.W.Frag) : R2 := fun x y H Q => rEq x y H Q ∨ rEqD K x y H Q
def rNeA (K : PySem.W.Frag) : R2 := fun x y H Q => rNe x y H Q ∨ rNeD K x y H Q
theorem op_eqA (hr : Room k X.A) : OpR X (compareOp .Eq) (rEqA X.K) := op_eq.or (op_eqD hr.units)
theorem op_neA (hr : Room k X.A) : OpR X (compareOp .NotEq) (rNeA X.K) := op_ne.or (op_neD hr.units)
theorem fEq_rel : RelS K cl (rEqA K) fEq := fun φ S G H x y d e z Q w h1 h2 h3 => by
  unfold fEq at h3
  cases q : eqB S d e with
  | none => rw [q] at h3; cases h3
  | some b =>
    rw [q] at h3; cases h3
    refine ⟨b, rfl, fun k => ?_⟩
    unfold eqB at q
    split at q
    · rename_i x' y' q1 q2
      split at q
      · rename_i hs
        cases q
        rw [flV_ok h1 q1, flV_ok h2 q2]
        exact .inl ⟨hs, k⟩
      · cases q
    · split at q
      · rename_i p1 p2 q1 q2
        split at q
        · rename_i hs
          cases q
          exact .inr ⟨_, _, toPS_ok w h1 q1, toPS_ok w h2 q2, hs.1, hs.2, k⟩
        · cases q
      · cases q
theorem fNe_rel : RelS K cl (rNeA K) fNe := fun φ S G H x y d e z Q w h1 h2 h3 => by
  unfold fNe at h3
  cases q : eqB S d e with
  | none => rw [q] at h3; cases h3
  | some b =>
    rw [q] at h3; cases h3
    refine ⟨!b, rfl, fun k => ?_⟩
    unfold eqB at q
    split at q
    · rename_i x' y' q1 q2
      split at q
      · rename_i hs
        cases q
        rw [flV_ok h1 q1, flV_ok h2 q2]
        exact .inl ⟨hs, k⟩
      · cases q
    · split at q
      · rename_i p1 p2 q1 q2
        split at q
        · rename_i hs
          cases q
          exact .inr ⟨_, _, toPS_ok w h1 q1, toPS_ok w h2 q2, hs.1, hs.2, k⟩
        · cases q
      · cases q
theorem f2B_rel {g : Int → Int → Bool} : RelS K cl (rI0 fun i j => .bl (g i j)) (f2I cTrue fun i j => .bl (g i j)) := fun φ S G H x y d e z Q w h1 h2 h3 => by
  obtain ⟨i, j, rfl, rfl, hc, rfl⟩ := f2I_inv h3
  simp only [IsD] at h1 h2
  exact ⟨_, rfl, fun k => ⟨i, j, h1, h2, k⟩⟩
def fLt : Store → D → D → Option D := f2I cTrue fun i j => .bl (decide (i < j))
def fLe : Store → D → D → Option D := f2I cTrue fun i j => .bl (decide (i ≤ j))
def fGt : Store → D → D → Option D := f2I cTrue fun i j => .bl (decide (j < i))
def fGe : Store → D → D → Option D := f2I cTrue fun i j => .bl (decide (j ≤ i))
/-- is None: the second is None -/
def isNon : D → Bool
  | .non => true
  | _ => false
def fIsN : Store → D → D → Option D := fun _ d e => match e with
  | .non => some (.bl (isNon d))
  | _ => none
theorem isN_dec {φ : List Addr} {G : Hp} {d : D} {v : V} (h : IsD K φ G d v) : decide (v = .non) = isNon d := by
  cases d <;> simp only [IsD] at h <;> simp only [isNon] <;> first | (subst h; simp) | (obtain ⟨a, _, rfl, _⟩ := h; simp) | (obtain ⟨a, rfl, _⟩ := h; simp)
theorem fIsN_rel : RelS K cl (fun x y H Q => y = .non ∧ Q (.bl (decide (x = .non))) H) fIsN := fun φ S G H x y d e z Q w h1 h2 h3 => by
  unfold fIsN at h3
  split at h3
  · cases h3
    simp only [IsD] at h2
    exact ⟨_, rfl, fun k => ⟨h2, by rw [isN_dec h1]; exact k⟩⟩
  · cases h3
def fNotN : Store → D → D → Option D := fun _ d e => match e with
  | .non => some (.bl (!isNon d))
  | _ => none
theorem fNotN_rel : RelS K cl (fun x y H Q => y = .non ∧ Q (.bl (!decide (x = .non))) H) fNotN := fun φ S G H x y d e z Q w h1 h2 h3 => by
  unfold fNotN at h3
  split at h3
  · cases h3
    simp only [IsD] at h2
    exact ⟨_, rfl, fun k => ⟨h2, by rw [isN_dec h1]; exact k⟩⟩
  · cases h3
/-- in: a sign in a text; in a tuple of flat values; in a list of any data -/
def allFl : List D → Option (List V)
  | [] => some []
  | d :: ds => (flV d).bind fun v => (allFl ds).map fun vs => v :: vs
theorem allFl_ok {φ : List Addr} {G : Hp} : ∀ {ds : List D} {vs ws : List V}, IsDs K φ G ds vs → allFl ds = some ws → vs = ws
  | [], _, _, h, q => by rw [h.nil_inv]; simp only [allFl] at q; cases q; rfl
  | d :: ds, _, _, h, q => by
    obtain ⟨v, r, rfl, h1, h2⟩ := h.cons_inv
    simp only [allFl] at q
    cases a : flV d with
    | none => rw [a] at q; cases q
    | some p =>
      rw [a] at q
      cases b : allFl ds with
      | none => simp only [b] at q; cases q
      | some ps => simp only [b] at q; cases q; rw [flV_ok h1 a, allFl_ok h2 b]
theorem flV_flat {d : D} {v : V} (h : flV d = some v) : flatV v = true := by
  cases d <;> simp only [flV] at h <;> first | (cases h; done) | (cases h; rfl)
theorem allFl_flat : ∀ {ds : List D} {ws : List V}, allFl ds = some ws → ws.all flatV = true
  | [], _, q => by simp only [allFl] at q; cases q; rfl
  | d :: ds, _, q => by
    simp only [allFl] at q
    cases a : flV d with
    | none => rw [a] at q; cases q
    | some p =>
      rw [a] at q
      cases b : allFl ds with
      | none => simp only [b] at q; cases q
      | some ps => simp only [b] at q; cases q; rw [List.all_cons, flV_flat a, allFl_flat b]; rfl
def inB (S : Store) (d e : D) : Option Bool := match d, e with
  | .str x, .str z => if x.cps.size = 1 then some (decide (x.cps.getD 0 0 ∈ z.cps.toList)) else none
  | d, .tup l => (flV d).bind fun v => (allFl l).map fun vs => inV v vs
  | d, e => match toPS S d, toPS S e with
    | some p, some (.list qs) => if SeqAt.shaped p = true ∧ SeqAt.shaped (.list qs) = true then some (qs.any fun z => PyData.eqv z p) else none
    | _, _ => none
def fIn : Store → D → D → Option D := fun S d e => (inB S d e).map .bl
def fNotIn : Store → D → D → Option D := fun S d e => (inB S d e).map fun b => .bl (!b)
def rInA (K : PySem.W.Frag) : R2 := fun x y H Q => (fun x y H Q => ∃ (c : Nat) (z : Str), x = .str ⟨#[c]⟩ ∧ y = .str z ∧ Q (.bl (decide (c ∈ z.cps.toList))) H) x y H Q ∨ rIn K false x y H Q ∨ rInD K x y H Q
def rNotInA (K : PySem.W.Frag) : R2 := fun x y H Q => (fun x y H Q => ∃ (c : Nat) (z : Str), x = .str ⟨#[c]⟩ ∧ y = .str z ∧ Q (.bl (!decide (c ∈ z.cps.toList))) H) x y H Q ∨ rIn K true x y H Q ∨ rNotInD K x y H Q
theorem op_inA (hr : Room k X.A) : OpR X (compareOp .In) (rInA X.K) := op_in_sign.or (op_in_seq.or (op_inD (by have := hr.un; omega)))
theorem op_notInA (hr : Room k X.A) : OpR X (compareOp .NotIn) (rNotInA X.K) := op_notIn_sign.or (op_notIn_seq.or (op_notInD (by have := hr.un; omega)))
theorem one_sign {x : Str} (h : x.cps.size = 1) : x = ⟨#[x.cps.getD 0 0]⟩ := by
  obtain ⟨⟨l⟩⟩ := x
  match l, h with
  | [c], _ => rfl
theorem inB_rel {neg : Bool} {φ : List Addr} {S : Store} {G H : Hp} {x y : V} {d0 e0 : D} {b : Bool} {Q : VK} (w : Wd K cl φ S G H) (h1 : IsD K φ G d0 x) (h2 : IsD K φ G e0 y) (q : inB S d0 e0 = some b) (k : Q (.bl (if neg then !b else b)) H) :
    (∃ (c : Nat) (z : Str), x = .str ⟨#[c]⟩ ∧ y = .str z ∧ Q (.bl (if neg then !decide (c ∈ z.cps.toList) else decide (c ∈ z.cps.toList))) H) ∨ rIn K neg x y H Q ∨
      (∃ d ds, Dp K H x d ∧ Dp K H y (.list ds) ∧ SeqAt.shaped d = true ∧ SeqAt.shaped (.list ds) = true ∧ Q (.bl (if neg then !ds.any fun z => PyData.eqv z d else ds.any fun z => PyData.eqv z d)) H) := by
  unfold inB at q
  split at q
  · split at q
    · rename_i hs
      cases q
      simp only [IsD] at h1 h2
      exact .inl ⟨_, _, by rw [h1]; exact congrArg V.str (one_sign hs), h2, k⟩
    · cases q
  · rename_i l
    cases a : flV d0 with
    | none => rw [a] at q; cases q
    | some v =>
      rw [a] at q
      cases b' : allFl l with
      | none => simp only [b'] at q; cases q
      | some vs =>
        simp only [b'] at q
        cases q
        simp only [IsD] at h2
        obtain ⟨p, xs, rfl, e1, e2⟩ := h2
        rw [allFl_ok e2 b'] at e1
        refine .inr (.inl ⟨p, vs, rfl, .inr (Ex.t w.sub e1), ?_, allFl_flat b', ?_⟩)
        · rw [flV_ok h1 a]; exact flV_flat a
        · rw [flV_ok h1 a]; exact k
  · split at q
    · rename_i p qs q1 q2
      split at q
      · rename_i hs
        cases q
        exact .inr (.inr ⟨p, qs, toPS_ok w h1 q1, toPS_ok w h2 q2, hs.1, hs.2, k⟩)
      · cases q
    · cases q
theorem fIn_rel : RelS K cl (rInA K) fIn := fun φ S G H x y d e z Q w h1 h2 h3 => by
  unfold fIn at h3
  cases q : inB S d e with
  | none => rw [q] at h3; cases h3
  | some b =>
    rw [q] at h3; cases h3
    exact ⟨b, rfl, fun k => inB_rel (neg := false) w h1 h2 q k⟩
theorem fNotIn_rel : RelS K cl (rNotInA K) fNotIn := fun φ S G H x y d e z Q w h1 h2 h3 => by
  unfold fNotIn at h3
  cases q : inB S d e with
  | none => rw [q] at h3; cases h3
  | some b =>
    rw [q] at h3; cases h3
    exact ⟨!b, rfl, fun k => inB_rel (neg := true) w h1 h2 q k⟩
end
end Mi
namespace Mi
open PySem L2
section
variable {X : Cx} {cl : Cl} {tk : WX → Prop} [T : Tk X tk]
variable {K : PySem.W.Frag}
/-! ### built-ins -/
def flat1 {φ : List Addr} {G : Hp} {d : D} {xs : List V} (h : IsDs K φ G [d] xs) : ∃ v, xs = [v] ∧ IsD K φ G d v := by
  obtain ⟨v, r, rfl, h1, h2⟩ := h.cons_inv
  rw [h2.nil_inv]
  exact ⟨v, rfl, h1⟩
noncomputable def cLen : Store → List D → Option D := fun S ds => match ds with
  | [.str z] => if szOk z.length = true then some (.int z.length) else none
  | [d] => (asL S d).map fun l => .int l.length
  | _ => none
def rLenA (K : PySem.W.Frag) : List V → Hp → VK → Prop := fun xs H Q => (∃ p ys, xs = [.ref p] ∧ (SqL K H p ys ∨ SqT K H p ys) ∧ Q (.int ys.length) H) ∨ (∃ z, xs = [.str z] ∧ z.length ≤ sizeLine ∧ Q (.int z.length) H)
theorem call_lenA : CallR X (.builtin "len") (rLenA X.K) := call_len_seq.or call_len_str
theorem cLen_ok : CallS K cl (rLenA K) cLen := fun φ S G H xs ds z Q w h1 h3 k => by
  unfold cLen at h3
  split at h3
  · split at h3
    · rename_i hz
      cases h3
      obtain ⟨v, rfl, h4⟩ := flat1 h1
      simp only [IsD] at h4
      exact .inr ⟨_, by rw [h4], szOk_le hz, k _ _ _ (Step.refl _ _ _) w _ (by simp only [IsD])⟩
    · cases h3
  · rename_i d _
    cases q : asL S d with
    | none => rw [q] at h3; cases h3
    | some l =>
      rw [q] at h3; cases h3
      obtain ⟨v, rfl, h4⟩ := flat1 h1
      obtain ⟨a, ys, rfl, h5, h6⟩ := asL_sq w h4 q
      exact .inl ⟨a, ys, rfl, h5, by rw [← h6.length]; exact k _ _ _ (Step.refl _ _ _) w _ (by simp only [IsD])⟩
  · cases h3
def cAbs : Store → List D → Option D := fun _ ds => match ds with
  | [.int i] => some (.int (if i < 0 then -i else i))
  | _ => none
theorem cAbs_ok : CallS K cl (fun xs H Q => ∃ i, xs = [.int i] ∧ Q (.int (if i < 0 then -i else i)) H) cAbs := fun φ S G H xs ds z Q w h1 h3 k => by
  unfold cAbs at h3
  split at h3
  · cases h3
    obtain ⟨v, rfl, h4⟩ := flat1 h1
    simp only [IsD] at h4
    exact ⟨_, by rw [h4], k _ _ _ (Step.refl _ _ _) w _ (by simp only [IsD])⟩
  · cases h3
noncomputable def cInt : Store → List D → Option D := fun _ ds => match ds with
  | [.int i] => some (.int i)
  | [.str a] => if cdec (a.length ≤ 640) = true then (PySem.intText? a).map .int else none
  | [.bl b] => some (.int (if b = true then 1 else 0))
  | _ => none
def rIntA : List V → Hp → VK → Prop := fun xs H Q => ((∃ i, xs = [.int i] ∧ Q (.int i) H) ∨ ∃ k, xs = [.bl k] ∧ Q (.int (if k then 1 else 0)) H) ∨ (∃ a n, xs = [.str a] ∧ PySem.intText? a = some n ∧ a.length ≤ 640 ∧ Q (.int n) H)
theorem call_intA : CallR X (.type "int") rIntA := call_int1.or call_int_str
theorem cInt_ok : CallS K cl rIntA cInt := fun φ S G H xs ds z Q w h1 h3 k => by
  unfold cInt at h3
  split at h3
  · cases h3
    obtain ⟨v, rfl, h4⟩ := flat1 h1
    simp only [IsD] at h4
    exact .inl (.inl ⟨_, by rw [h4], k _ _ _ (Step.refl _ _ _) w _ (by simp only [IsD])⟩)
  · rename_i a
    split at h3
    · rename_i hl
      cases q : PySem.intText? a with
      | none => rw [q] at h3; cases h3
      | some n =>
        rw [q] at h3; cases h3
        obtain ⟨v, rfl, h4⟩ := flat1 h1
        simp only [IsD] at h4
        exact .inr ⟨a, n, by rw [h4], q, cdec_iff.mp hl, k _ _ _ (Step.refl _ _ _) w _ (by simp only [IsD])⟩
    · cases h3
  · cases h3
    obtain ⟨v, rfl, h4⟩ := flat1 h1
    simp only [IsD] at h4
    exact .inl (.inr ⟨_, by rw [h4], k _ _ _ (Step.refl _ _ _) w _ (by simp only [IsD])⟩)
  · cases h3
noncomputable def cStr : Store → List D → Option D := fun _ ds => match ds with
  | [.int i] => if cdec (i.natAbs.log2 < 1920) = true then some (.str (Str.ofString (toString i))) else none
  | [.str a] => some (.str a)
  | _ => none
def rStrA : List V → Hp → VK → Prop := fun xs H Q => (∃ i, xs = [.int i] ∧ i.natAbs.log2 < 1920 ∧ Q (.str (toString i)) H) ∨ (∃ a, xs = [.str a] ∧ Q (.str a) H)
theorem call_strA : CallR X (.type "str") rStrA := call_str_int.or SkE.call_str_str
theorem cStr_ok : CallS K cl rStrA cStr := fun φ S G H xs ds z Q w h1 h3 k => by
  unfold cStr at h3
  split at h3
  · split at h3
    · rename_i hz
      cases h3
      obtain ⟨v, rfl, h4⟩ := flat1 h1
      simp only [IsD] at h4
      exact .inl ⟨_, by rw [h4], cdec_iff.mp hz, k _ _ _ (Step.refl _ _ _) w _ (by simp only [IsD])⟩
    · cases h3
  · cases h3
    obtain ⟨v, rfl, h4⟩ := flat1 h1
    simp only [IsD] at h4
    exact .inr ⟨_, by rw [h4], k _ _ _ (Step.refl _ _ _) w _ (by simp only [IsD])⟩
  · cases h3
def intsOf : List D → Option (List Int)
  | [] => some []
  | .int i :: ds => (intsOf ds).map fun r => i :: r
  | _ => none
theorem intsOf_eq : ∀ {ds : List D} {ns : List Int}, intsOf ds = some ns → ds = ns.map .int
  | [], _, h => by cases h; rfl
  | .int i :: ds, _, h => by
    simp only [intsOf] at h
    cases q : intsOf ds with
    | none => rw [q] at h; cases h
    | some r => rw [q] at h; cases h; rw [intsOf_eq q]; rfl
  | .non :: ds, _, h => by cases h
  | .bl _ :: ds, _, h => by cases h
  | .str _ :: ds, _, h => by cases h
  | .tup _ :: ds, _, h => by cases h
  | .lst _ :: ds, _, h => by cases h
  | .scr _ :: ds, _, h => by cases h
  | .ref _ :: ds, _, h => by cases h
def blsOf : List D → Option (List Bool)
  | [] => some []
  | .bl i :: ds => (blsOf ds).map fun r => i :: r
  | _ => none
theorem blsOf_eq : ∀ {ds : List D} {ns : List Bool}, blsOf ds = some ns → ds = ns.map .bl
  | [], _, h => by cases h; rfl
  | .bl i :: ds, _, h => by
    simp only [blsOf] at h
    cases q : blsOf ds with
    | none => rw [q] at h; cases h
    | some r => rw [q] at h; cases h; rw [blsOf_eq q]; rfl
  | .non :: ds, _, h => by cases h
  | .int _ :: ds, _, h => by cases h
  | .str _ :: ds, _, h => by cases h
  | .tup _ :: ds, _, h => by cases h
  | .lst _ :: ds, _, h => by cases h
  | .scr _ :: ds, _, h => by cases h
  | .ref _ :: ds, _, h => by cases h
def strsOf : List D → Option (List Str)
  | [] => some []
  | .str i :: ds => (strsOf ds).map fun r => i :: r
  | _ => none
theorem strsOf_eq : ∀ {ds : List D} {ns : List Str}, strsOf ds = some ns → ds = ns.map .str
  | [], _, h => by cases h; rfl
  | .str i :: ds, _, h => by
    simp only [strsOf] at h
    cases q : strsOf ds with
    | none => rw [q] at h; cases h
    | some r => rw [q] at h; cases h; rw [strsOf_eq q]; rfl
  | .non :: ds, _, h => by cases h
  | .int _ :: ds, _, h => by cases h
  | .bl _ :: ds, _, h => by cases h
  | .tup _ :: ds, _, h => by cases h
  | .lst _ :: ds, _, h => by cases h
  | .scr _ :: ds, _, h => by cases h
  | .ref _ :: ds, _, h => by cases h
def cSum : Store → List D → Option D := fun S ds => match ds with
  | [d] => ((asLL S d).bind intsOf).map fun ns => .int ns.sum
  | _ => none
theorem cSum_ok : CallS K cl (rSum K) cSum := fun φ S G H xs ds z Q w h1 h3 k => by
  unfold cSum at h3
  split at h3
  · rename_i d
    cases q : asLL S d with
    | none => rw [q] at h3; cases h3
    | some l =>
      rw [q] at h3
      cases q2 : intsOf l with
      | none => simp only [Option.bind_some, q2] at h3; cases h3
      | some ns =>
        simp only [Option.bind_some, q2] at h3
        cases h3
        obtain ⟨v, rfl, h4⟩ := flat1 h1
        obtain ⟨a, ys, rfl, h5, h6⟩ := asLL_sq w h4 q
        rw [intsOf_eq q2] at h6
        rw [h6.ints] at h5
        exact ⟨a, ns, rfl, SqL.of h5, k _ _ _ (Step.refl _ _ _) w _ (by simp only [IsD])⟩
  · cases h3
def cAll : Store → List D → Option D := fun S ds => match ds with
  | [d] => ((asLL S d).bind blsOf).map fun ns => .bl (ns.all id)
  | _ => none
theorem cAll_ok : CallS K cl (rAll K) cAll := fun φ S G H xs ds z Q w h1 h3 k => by
  unfold cAll at h3
  split at h3
  · rename_i d
    cases q : asLL S d with
    | none => rw [q] at h3; cases h3
    | some l =>
      rw [q] at h3
      cases q2 : blsOf l with
      | none => simp only [Option.bind_some, q2] at h3; cases h3
      | some ns =>
        simp only [Option.bind_some, q2] at h3
        cases h3
        obtain ⟨v, rfl, h4⟩ := flat1 h1
        obtain ⟨a, ys, rfl, h5, h6⟩ := asLL_sq w h4 q
        rw [blsOf_eq q2] at h6
        rw [h6.bls] at h5
        exact ⟨a, ns, rfl, SqL.of h5, k _ _ _ (Step.refl _ _ _) w _ (by simp only [IsD])⟩
  · cases h3
def cAny : Store → List D → Option D := fun S ds => match ds with
  | [d] => ((asLL S d).bind blsOf).map fun ns => .bl (ns.any id)
  | _ => none
theorem cAny_ok : CallS K cl (rAny K) cAny := fun φ S G H xs ds z Q w h1 h3 k => by
  unfold cAny at h3
  split at h3
  · rename_i d
    cases q : asLL S d with
    | none => rw [q] at h3; cases h3
    | some l =>
      rw [q] at h3
      cases q2 : blsOf l with
      | none => simp only [Option.bind_some, q2] at h3; cases h3
      | some ns =>
        simp only [Option.bind_some, q2] at h3
        cases h3
        obtain ⟨v, rfl, h4⟩ := flat1 h1
        obtain ⟨a, ys, rfl, h5, h6⟩ := asLL_sq w h4 q
        rw [blsOf_eq q2] at h6
        rw [h6.bls] at h5
        exact ⟨a, ns, rfl, SqL.of h5, k _ _ _ (Step.refl _ _ _) w _ (by simp only [IsD])⟩
  · cases h3
/-- list(x): a stable list -/
def cList : Store → List D → Option D := fun S ds => match ds with
  | [d] => (asL S d).map .lst
  | _ => none
theorem cList_ok : CallS K cl (fun xs H Q => ∃ p ys, xs = [.ref p] ∧ (SqL K H p ys ∨ SqT K H p ys) ∧ ∀ l, H l = none → Q (.ref l) (upd H l (.lst ys))) cList := fun φ S G H xs ds z Q w h1 h3 k => by
  unfold cList at h3
  split at h3
  · rename_i d
    cases q : asL S d with
    | none => rw [q] at h3; cases h3
    | some l =>
      rw [q] at h3; cases h3
      obtain ⟨v, rfl, h4⟩ := flat1 h1
      obtain ⟨a, ys, rfl, h5, h6⟩ := asL_sq w h4 q
      exact ⟨a, ys, rfl, h5, new_lst w h6 k⟩
  · cases h3
def cTuple : Store → List D → Option D := fun S ds => match ds with
  | [.tup l] => some (.tup l)
  | [d] => (asLL S d).map .tup
  | _ => none
theorem cTuple_ok : CallS K cl (fun xs H Q => ∃ p ys, xs = [.ref p] ∧ ((SqL K H p ys ∧ ∀ l, H l = none → Q (.ref l) (upd H l (.tup ys))) ∨ (SqT K H p ys ∧ Q (.ref p) H))) cTuple := fun φ S G H xs ds z Q w h1 h3 k => by
  unfold cTuple at h3
  split at h3
  · cases h3
    obtain ⟨v, rfl, h4⟩ := flat1 h1
    have h5 := h4
    simp only [IsD] at h4
    obtain ⟨a, ys, rfl, h6, h7⟩ := h4
    exact ⟨a, ys, rfl, .inr ⟨Ex.t w.sub h6, k _ _ _ (Step.refl _ _ _) w _ h5⟩⟩
  · rename_i d _
    cases q : asLL S d with
    | none => rw [q] at h3; cases h3
    | some l =>
      rw [q] at h3; cases h3
      obtain ⟨v, rfl, h4⟩ := flat1 h1
      obtain ⟨a, ys, rfl, h5, h6⟩ := asLL_sq w h4 q
      exact ⟨a, ys, rfl, .inl ⟨SqL.of h5, new_tup w h6 k⟩⟩
  · cases h3
/-- isinstance(x, T), T a built-in class -/
inductive TyT where
  | non | bl | int | str | tup | lst | dct
def TyT.nm : TyT → String
  | .non => "NoneType"
  | .bl => "bool"
  | .int => "int"
  | .str => "str"
  | .tup => "tuple"
  | .lst => "list"
  | .dct => "dict"
def tyN (S : Store) : D → Option TyT
  | .non => some .non
  | .bl _ => some .bl
  | .int _ => some .int
  | .str _ => some .str
  | .tup _ => some .tup
  | .lst _ => some .lst
  | .ref i => match S[i]? with
    | some (.lst _) => some .lst
    | some (.dK _) => some .dct
    | _ => none
  | .scr _ => none
  | .cls _ => none
theorem tyN_ok {φ : List Addr} {S : Store} {G H : Hp} (w : Wd K cl φ S G H) {d : D} {v : V} {n : TyT} (h : IsD K φ G d v) (e : tyN S d = some n) : TyX K H v (.type n.nm) := by
  cases d <;> simp only [tyN] at e <;> try (cases e; done)
  · cases e; simp only [IsD] at h; subst h; exact .base .non
  · cases e; simp only [IsD] at h; subst h; exact .base (.bl _)
  · cases e; simp only [IsD] at h; subst h; exact .base (.int _)
  · cases e; simp only [IsD] at h; subst h; exact .base (.str _)
  · cases e; simp only [IsD] at h
    obtain ⟨a, xs, rfl, h1, h2⟩ := h
    rcases Ex.t w.sub h1 with h3 | ⟨o, its, n, h3, h4, _⟩
    · rcases h3 with h3 | ⟨o, h3⟩
      · exact .base (.tup h3)
      · exact .fTuple h3
    · exact .kTuple h3 h4
  · cases e; simp only [IsD] at h
    obtain ⟨a, xs, rfl, h1, h2⟩ := h
    exact .base (.lst (w.sub _ _ h1))
  · simp only [IsD] at h
    obtain ⟨a, rfl, h1⟩ := h
    split at e
    · rename_i hi
      cases e
      obtain ⟨vs, h3, _⟩ := w.ok _ _ _ hi h1
      exact .base (.lst h3)
    · rename_i hi
      cases e
      obtain ⟨vs, h3, _⟩ := w.ok _ _ _ hi h1
      exact .base (.dK h3)
    · cases e
def isiB : TyT → TyT → Bool
  | .non, .non => true
  | .bl, .bl => true
  | .bl, .int => true
  | .int, .int => true
  | .str, .str => true
  | .tup, .tup => true
  | .lst, .lst => true
  | .dct, .dct => true
  | _, _ => false
def fIsi (Ty : TyT) : Store → D → Option D := fun S d => (tyN S d).map fun n => .bl (isiB n Ty)
def isiTab (Ty : TyT) : Bool := [TyT.non, .bl, .int, .str, .tup, .lst, .dct].all fun n => decide (kitB n.nm Ty.nm = some (isiB n Ty))
theorem ty_mem (n : TyT) : n ∈ [TyT.non, .bl, .int, .str, .tup, .lst, .dct] := by cases n <;> simp
theorem re_isi {x : Expr} {Ty : TyT} {nm : Str} {p q pos : Pos} {m : M D} (hm : X.mg "isinstance" = none) (hm2 : X.mg nm = none) (hv : bootBuiltins nm = some (.type Ty.nm)) (ht : isiTab Ty = true) (hx : RE X cl tk x m)
    (hg : Gl X "isinstance" := by rfl) (hg2 : Gl X nm := by rfl) (hn : nm ≠ "__name__" := by decide) (hd : (nm == ("__debug__" : Str)) = false := by decide)
    (hs1 : starEach [x, .Name nm q] X.env = (false, eval x X.env) :: starEach [.Name nm q] X.env := by rfl) (hs2 : starEach [.Name nm q] X.env = (false, eval (.Name nm q) X.env) :: starEach [] X.env := by rfl)
    (hpl : (backTo pos (starEach [.Name nm q] X.env)).any (·.1) = false := by rfl) : RE X cl tk (.Call (.Name "isinstance" p) [x, .Name nm q] [] pos) (mOp1 (fIsi Ty) m) := by
  refine pe_imp (pe_callB call_isi hg hm PyProof.Rows.boot_isinstance (pa_cons hx (pa_cons (pe_bltn (v := .ty Ty.nm) hg2 hm2 hv rfl hn hd) pa_nil hs2) hs1) (by decide) (by decide) hs1 hpl) fun σ H Q ⟨φ, G, g, S, r, S', w, s, e, k⟩ => ?_
  refine tM_bind T.ok w s e k fun d φ1 G1 H1 S1 v st1 w1 s1 hv' e1 k1 => ?_
  obtain ⟨z, ez, rfl, rfl⟩ := mL_ok e1
  unfold fIsi at ez
  cases q : tyN S' d with
  | none => rw [q] at ez; cases ez
  | some n =>
    rw [q] at ez
    cases ez
    refine ⟨v, .ty Ty.nm, .type n.nm, .type Ty.nm, isiB n Ty, rfl, .ty Ty.nm, tyN_ok w1 hv' q, kit_ty ?_, k1.now w1 _ (by simp only [IsD])⟩
    exact of_decide_eq_true (List.all_eq_true.mp ht n (ty_mem n))

/-! ### texts -/
noncomputable def fJoin : Store → D → D → Option D := fun S d e => match d with
  | .str a => ((asL S e).bind strsOf).bind fun ys => if szOk ((ys.map (·.length)).sum + ys.length * a.length) = true then some (.str (Txt.join a ys)) else none
  | _ => none
theorem tM1_of {r : V → List V → Hp → VK → Prop} {f : Store → D → D → Option D} {chk : D → Bool} {ma mb : M D} (ht : TkOk tk) (hc : ∀ S d e z, f S d e = some z → ∃ a, d = .str a)
    (hs : ∀ (φ : List Addr) (S : Store) (G H : Hp) (x y : V) (d e z : D) (Q : VK), Wd K cl φ S G H → IsD K φ G d x → IsD K φ G e y → f S d e = some z →
      (∀ φ' G' H', Step φ G H φ' G' H' → Wd K cl φ' S G' H' → ∀ v, IsD K φ' G' z v → Q v H') → r x [y] H Q) {σ : St} {H : Hp} {Q : VK}
    (h : tM K cl tk (mB ma fun d => mB (mL fun _ => match d with | .str _ => some () | _ => none) fun _ => mB mb fun e => mL fun S => f S d e) σ H Q) : tM1 r (tM K cl tk ma) (tM K cl tk mb) σ H Q := by
  obtain ⟨φ, G, g, S, r, S', w, s, e, k⟩ := h
  refine tM_bind ht w s e k fun d φ1 G1 H1 S1 x st1 w1 s1 hx e1 k1 => ?_
  rcases mB_ok e1 with ⟨u, S2, e2, e3⟩ | ⟨c, fs, e2, rfl⟩
  · obtain ⟨_, ez, _, rfl⟩ := mL_ok e2
    split at ez
    · have hx' := hx
      simp only [IsD] at hx'
      refine ⟨⟨_, hx'⟩, ?_⟩
      refine tM_bind ht w1 s1 e3 k1 fun d2 φ2 G2 H2 S2 y st2 w2 s2 hy e4 k2 => ?_
      obtain ⟨z, ez, rfl, rfl⟩ := mL_ok e4
      exact hs _ _ _ _ _ _ _ _ _ _ w2 (hx.mono st2.pre st2.ex) hy ez k2
    · cases ez
  · obtain ⟨_, _, q, _⟩ := mL_ok e2
    cases q
def mStr1 (f : Store → D → D → Option D) (ma mb : M D) : M D := mB ma fun d => mB (mL fun _ => match d with | .str _ => some () | _ => none) fun _ => mB mb fun e => mL fun S => f S d e
theorem re_join {o e : Expr} {apos pos : Pos} {mo me : M D} (ho : RE X cl tk o mo) (he : RE X cl tk e me) (hs : starEach [e] X.env = [(false, eval e X.env)] := by rfl) (hbase : attributeBase o "join" X.env (eval o X.env) = eval o X.env := by rfl) (hline : (apos.endLine == pos.line) = true := by rfl) :
    RE X cl tk (.Call (.Attribute o "join" apos) [e] [] pos) (mStr1 fJoin mo me) :=
  pe_imp (pe_join ho he hs hbase hline) fun _ _ _ h => tM1_of (chk := fun _ => true) (f := fJoin) T.ok (fun S d e z h => by unfold fJoin at h; split at h; exact ⟨_, rfl⟩; cases h) (fun φ S G H x y d e z Q w h1 h2 h3 k => by
    unfold fJoin at h3
    split at h3
    · rename_i a
      cases q : asL S e with
      | none => rw [q] at h3; cases h3
      | some l =>
        rw [q] at h3
        cases q2 : strsOf l with
        | none => simp only [Option.bind_some, q2] at h3; cases h3
        | some ys =>
          simp only [Option.bind_some, q2] at h3
          split at h3
          · rename_i hz
            cases h3
            simp only [IsD] at h1
            obtain ⟨p, xs, rfl, h5, h6⟩ := asL_sq w h2 q
            rw [strsOf_eq q2] at h6
            rw [h6.strs] at h5
            exact ⟨a, p, ys, h1, rfl, h5, cdec_iff.mp hz, k _ _ _ (Step.refl _ _ _) w _ (by simp only [IsD])⟩
          · cases h3
    · cases h3) h
noncomputable def fSplit : Store → D → D → Option D := fun S d e => match d, e with
  | .str a, .str b => if (b.length == 0) = false ∧ szOk (a.length + 2) = true then some (.lst ((Txt.split a b).map .str)) else none
  | _, _ => none
theorem re_split {o e : Expr} {apos pos : Pos} {mo me : M D} (ho : RE X cl tk o mo) (he : RE X cl tk e me) (hs : starEach [e] X.env = [(false, eval e X.env)] := by rfl) (hbase : attributeBase o "split" X.env (eval o X.env) = eval o X.env := by rfl) (hline : (apos.endLine == pos.line) = true := by rfl) :
    RE X cl tk (.Call (.Attribute o "split" apos) [e] [] pos) (mStr1 fSplit mo me) :=
  pe_imp (pe_split ho he hs hbase hline) fun _ _ _ h => tM1_of (chk := fun _ => true) (f := fSplit) T.ok (fun S d e z h => by unfold fSplit at h; split at h; exact ⟨_, rfl⟩; cases h) (fun φ S G H x y d e z Q w h1 h2 h3 k => by
    unfold fSplit at h3
    split at h3
    · split at h3
      · rename_i a b hz
        cases h3
        simp only [IsD] at h1 h2
        refine ⟨a, b, h1, by rw [h2], hz.1, szOk_le hz.2, fun p hp => ?_⟩
        exact new_lst w (IsDs.of_strs _) k p hp
      · cases h3
    · cases h3) h
end
end Mi
namespace Mi
open PySem L2
/-! ### match over sequences of written texts and names -/
inductive PatE where
  | val (s : Str) | cap (i : Nat)
inductive PatOk (X : Cx) : Pattern → PatE → Prop where
  | val {s : Str} {k : Nat} {p q : Pos} : PatOk X (.MatchValue (.Constant (.str s) k p) q) (.val s)
  | cap {n : Str} {i : Nat} {p : Pos} (hi : X.N[i]? = some n) (hx : Loc X.env.scope n) (hf : X.fn n = true ∨ X.env.scope.names.lookup n = some .local) : PatOk X (.MatchAs none (some n) p) (.cap i)
def matchSeqD : List PatE → List D → Option (Option (List (Nat × D)))
  | [], [] => some (some [])
  | .val s :: ps, d :: ds => match flV d with
    | some x => if scal x (.str s) = true then (if x = .str s then matchSeqD ps ds else some none) else none
    | none => none
  | .cap i :: ps, d :: ds => match matchSeqD ps ds with
    | some (some bs) => some (some ((i, d) :: bs))
    | r => r
  | _, _ => none
def BsOk (X : Cx) (φ : List Addr) (G : Hp) : List (Nat × D) → List (Str × Value) → Prop
  | [], bvs => bvs = []
  | (i, d) :: bs, bvs => ∃ n u r v, bvs = (n, u) :: r ∧ X.N[i]? = some n ∧ Loc X.env.scope n ∧ (X.fn n = true ∨ X.env.scope.names.lookup n = some .local) ∧ RelV v u ∧ IsD X.K φ G d v ∧ BsOk X φ G bs r
def bindAll (bs : List (Nat × D)) (g : Gm) : Gm := bs.foldl (fun g p => g.set p.1 (some p.2)) g
/-- the cases, by the subject's data -/
abbrev MC := D → MS
structure RCs (X : Cx) (cl : Cl) (tk : WX → Prop) (cases : List MatchCase) (m : MC) : Prop where
  run : ∀ (first : Bool) (pins : List (Addr × Obj)) (s : Shared) (σ : L2.St) (H : Hp) (Dn : Ends) (v : V) (u : Value) (φ : List Addr) (G : Hp) (g : Gm) (S : Store) (d : D) (o : Out) (S' : Store), Inv X pins σ H s → RelV v u →
    Wd X.K cl φ S G H → Sl X.K cl φ G g σ → IsD X.K φ G d v → m d g S = some (o, S') → Kos X.K cl tk φ G H o S' Dn → wpAny (model X.prog X.w) X.A (matchCases cases X.env u first) (SP X pins Dn) X.xe s
section
variable {X : Cx} {cl : Cl} {tk : WX → Prop} [T : Tk X tk]
theorem matchEach_ok {pins : List (Addr × Obj)} {σ : L2.St} {H : Hp} {φ : List Addr} {G : Hp} {E : Value → Shared → Prop} : ∀ {ps : List Pattern} {pes : List PatE} {ds : List D} {vs : List V} {us : List Value} {r : Option (List (Nat × D))} {s : Shared} {Q : Option (List (Str × Value)) → Shared → Prop},
    Paired (PatOk X) ps pes → IsDs X.K φ G ds vs → Vals vs us → matchSeqD pes ds = some r → Inv X pins σ H s → (∀ s', Inv X pins σ H s' → match r with
      | none => Q none s'
      | some bs => ∀ bvs, BsOk X φ G bs bvs → Q (some bvs) s') → wpAny (model X.prog X.w) X.A (matchEach ps X.env us) Q E s
  | _, _, [], _, _, _, _, _, .nil, hd, hv, e, I, k => by
    rw [hd.nil_inv] at hv
    cases hv
    simp only [matchSeqD] at e
    cases e
    exact wpAny_matchEach_nil (k _ I [] (by simp only [BsOk]))
  | _, _, [], _, _, _, _, _, .cons a _, hd, hv, e, I, k => by
    cases a <;> simp only [matchSeqD] at e <;> cases e
  | _, _, d :: ds, _, _, _, _, _, .nil, hd, hv, e, I, k => by
    simp only [matchSeqD] at e
    cases e
  | _, _, d :: ds, _, _, r, s, Q, .cons a rest, hd, hv, e, I, k => by
    obtain ⟨v, vr, rfl, h1, h2⟩ := hd.cons_inv
    cases hv with
    | cons rv rr =>
      cases a with
      | val =>
        simp only [matchSeqD] at e
        split at e
        · rename_i x fx
          split at e
          · rename_i hs
            have ev := flV_ok h1 fx
            subst ev
            refine wpAny_matchEach_cons (wpAny_matchPattern_Value (Calls.Constant_str ?_))
            refine wpAny_mono ((op_eq (X := X.wish E)) pins _ σ H v (.str _) _ _ (fun y H' => y = .bl (decide (v = .str _)) ∧ H' = H) ((I.tok _).wish E) rv ⟨_, rfl⟩ ⟨hs, rfl, rfl⟩) (fun c s2 ⟨y, H', I2, ry, q1, q2⟩ => ?_) fun _ _ z => z
            subst q1 q2
            cases ry
            refine wpAny_truthy_bool ?_
            split at e
            · rename_i hx
              rw [decide_eq_true hx, if_pos rfl]
              show wpAny _ _ _ _ _ _
              refine matchEach_ok rest h2 rr e I2.unwish fun s' I' => ?_
              have k' := k s' I'
              cases r with
              | none => exact k'
              | some bs => exact fun bvs hb => k' _ hb
            · rename_i hx
              cases e
              rw [decide_eq_false hx, if_neg Bool.false_ne_true]
              exact k s2 I2.unwish
          · cases e
        · cases e
      | cap hi hx hf =>
        simp only [matchSeqD] at e
        refine wpAny_matchEach_cons (wpAny_matchPattern_Capture ?_)
        show wpAny _ _ _ _ _ _
        cases q : matchSeqD _ ds with
        | none => rw [q] at e; cases e
        | some r' =>
          rw [q] at e
          refine matchEach_ok rest h2 rr q I fun s' I' => ?_
          have k' := k s' I'
          cases r' with
          | none => cases e; exact k'
          | some bs =>
            cases e
            exact fun bvs hb => k' _ ⟨_, _, _, v, rfl, hi, hx, hf, rv, h1, hb⟩
theorem bind_ok {pins : List (Addr × Obj)} {H : Hp} {φ : List Addr} {G : Hp} (hN : X.N.Nodup) : ∀ {bs : List (Nat × D)} {bvs : List (Str × Value)} {g : Gm} {σ : L2.St} {s : Shared} {Q : Unit → Shared → Prop}, BsOk X φ G bs bvs → Sl X.K cl φ G g σ → Inv X pins σ H s →
    (∀ σ' s', Inv X pins σ' H s' → Sl X.K cl φ G (bindAll bs g) σ' → Q () s') → wpAny (model X.prog X.w) X.A (assignInOrder (bvs.map fun (n, _) => bindName X.env n) (bvs.map (·.2))) Q X.xe s
  | [], _, g, σ, s, Q, hb, sl, I, k => by
    simp only [BsOk] at hb
    subst hb
    exact wpAny_assignInOrder_none (k σ s I sl)
  | (i, d) :: bs, _, g, σ, s, Q, hb, sl, I, k => by
    simp only [BsOk] at hb
    obtain ⟨n, u, r, v, rfl, hi, hx, hf, rv, hd, hb⟩ := hb
    refine wpAny_assignInOrder_more (wpAny_bindName (store_ok I hN hi hx rv (fun s2 I2 => ?_) hf))
    exact bind_ok hN hb (sl.set hd) I2 k
def mcNil : MC := fun _ g S => some (.nx g, S)
def mcCons (ps : List PatE) (body : MS) (rest : MC) : MC := fun d g S => match asL S d with
  | some l => if l.length = ps.length then match matchSeqD ps l with
      | some (some bs) => body (bindAll bs g) S
      | some none => rest d g S
      | none => none
    else rest d g S
  | none => none
theorem rcs_nil : RCs X cl tk [] mcNil := ⟨fun first pins s σ H Dn v u φ G g S d o S' I r w sl hd e k => by
  cases e
  exact wpAny_matchCases_nil ⟨σ, H, I, k φ G H (Step.refl _ _ _) w σ sl⟩⟩
theorem rcs_cons {ps : List Pattern} {pes : List PatE} {pos : Pos} {body : List Stmt} {rest : List MatchCase} {mb : MS} {mr : MC} (hN : X.N.Nodup) (hp : Paired (PatOk X) ps pes) (hb : RSs X cl tk body mb) (hr : RCs X cl tk rest mr) (hc : X.calm = true := by rfl)
    (hstar : ps.findIdx? (·.isStar) = none := by rfl) (hwild : (ps.all fun p => p.isWildcard || (p.isStar && p.names.isEmpty)) = false := by rfl) : RCs X cl tk (⟨.MatchSequence ps pos, none, body⟩ :: rest) (mcCons pes mb mr) := ⟨fun first pins s σ H Dn v u φ G g S d o S' I r w sl hd e k => by
  unfold mcCons at e
  split at e
  · rename_i l q
    obtain ⟨a, xs, rfl, h1, h2⟩ := asL_sq w hd q
    cases r
    have hpl : ps.length = pes.length := hp.length
    have hxl := h2.length
    refine wpAny_matchCases_cons ?_
    have go : ∀ (its : List Value) (s1 : Shared), Vals xs its → Inv X pins σ H s1 → l.length = pes.length → wpAny (model X.prog X.w) X.A (matchEach ps X.env its) (fun r s₁ => match r with
          | none => wpAny (model X.prog X.w) X.A (matchCases rest X.env (.ref a) false) (SP X pins Dn) X.xe s₁
          | some bs => wpAny (model X.prog X.w) X.A (assignInOrder (bs.map fun (n, _) => bindName X.env n) (bs.map (·.2))) (fun _ s₂ => wpAny (model X.prog X.w) X.A (execs body X.env) (SP X pins Dn) X.xe s₂) X.xe s₁) X.xe s1 := fun its s1 rv I1 hl => by
      rw [if_pos hl] at e
      split at e
      · rename_i bs q2
        refine matchEach_ok hp h2 rv q2 I1 fun s' I' => fun bvs hbv => ?_
        refine bind_ok hN hbv sl I' fun σ2 s2 I2 sl2 => ?_
        exact hb.run pins s2 σ2 H Dn I2 ⟨φ, G, _, S, o, S', w, sl2, e, k⟩
      · rename_i q2
        refine matchEach_ok hp h2 rv q2 I1 fun s' I' => ?_
        exact hr.run false pins s' σ H Dn (.ref a) (.ref a) φ G g S d o S' I' rfl w sl hd e k
      · cases e
    rcases h1 with h1 | h1
    · obtain ⟨its, rv, pl, hz⟩ := I.list h1
      have hl' : s.heap.IsList a its.toArray := by
        obtain ⟨o, m, e, c, d, q⟩ := pl
        exact ⟨o, e, c, m, q⟩
      have hfit : ((its.toArray.size : Nat) : Int) < 2 ^ 63 := by
        have := rv.length
        have h3 := line63
        simp
        have : (its.length : Int) ≤ (sizeLine : Nat) := by omega
        omega
      have hsz : its.toArray.size = l.length := by simp [← rv.length, hxl]
      by_cases hl : l.length = pes.length
      · refine PyProof.Rows.matchSeq_list_hit hl' hfit (by rw [hsz, hl, hpl]) ?_ hstar hwild
        rw [show ps.length = its.toArray.size by rw [hsz, hl, hpl]]
        refine PySem.W.kun_itemsOf (I.ok.hd hc) hl' fun h' hx => ?_
        have I1 : Inv X pins σ H { s with heap := h', toks := s.toks + 1 + 1 } := I.kept (t' := s.toks + 1 + 1) fun b o e => hx b o (Nat.ne_of_lt (Heap.lt_size e)) e
        exact go its _ rv I1 hl
      · refine PyProof.Rows.matchSeq_list_miss hl' hfit (by rw [hsz, hpl]; exact hl) ?_ hstar hwild
        rw [if_neg hl] at e
        exact hr.run false pins _ σ H Dn (.ref a) (.ref a) φ G g S d o S' (I.tok _) rfl w sl hd e k
    · obtain ⟨its, rv, pl, hz⟩ := I.tuple h1
      have hfit : ((its.toArray.size : Nat) : Int) < 2 ^ 63 := by
        have := rv.length
        have h3 := line63
        simp
        have : (its.length : Int) ≤ (sizeLine : Nat) := by omega
        omega
      have hsz : its.toArray.size = l.length := by simp [← rv.length, hxl]
      by_cases hl : l.length = pes.length
      · refine PyProof.Rows.matchSeq_tuple_hit pl hfit (by rw [hsz, hl, hpl]) ?_ hstar hwild
        rw [show ps.length = its.toArray.size by rw [hsz, hl, hpl]]
        refine PyProof.Rows.unpackItems_tuple (I.ok.hd hc) (pl.keeps fun b o e => e) fun h' hx => ?_
        have I1 : Inv X pins σ H { s with heap := h', toks := s.toks + 1 + 1 } := I.kept (t' := s.toks + 1 + 1) fun b o e => hx b o (Nat.ne_of_lt (Heap.lt_size e)) e
        exact go its _ rv I1 hl
      · refine PyProof.Rows.matchSeq_tuple_miss pl hfit (by rw [hsz, hpl]; exact hl) ?_ hstar hwild
        rw [if_neg hl] at e
        exact hr.run false pins _ σ H Dn (.ref a) (.ref a) φ G g S d o S' (I.tok _) rfl w sl hd e k
  · cases e⟩
def mMatch (m : M D) (mc : MC) : MS := fun g S => match m g S with
  | some (.ok d, S1) => mc d g S1
  | some (.exc c fs, S1) => some (.ex g c fs, S1)
  | none => none
theorem rs_match {subject : Expr} {cases : List MatchCase} {pos : Pos} {m : M D} {mc : MC} (he : RE X cl tk subject m) (hc : RCs X cl tk cases mc) : RS X cl tk (.Match subject cases pos) (mMatch m mc) := by
  refine ⟨fun pins s σ H Dn I ⟨φ, G, g, S, o, S', w, sl, e, k⟩ => ?_⟩
  refine wpAny_Match (thn (he.run pins s σ H (fun v H1 => ∃ φ1 G1 S1 d, Wd X.K cl φ1 S1 G1 H1 ∧ Sl X.K cl φ1 G1 g σ ∧ IsD X.K φ1 G1 d v ∧ mc d g S1 = some (o, S') ∧ Kos X.K cl tk φ1 G1 H1 o S' Dn) I ?_) fun u s1 ⟨v, H1, I1, rv, φ1, G1, S1, d, w1, sl1, hd, e1, k1⟩ => ?_)
  · exact tM_stmt (f := fun d g S1 => mc d g S1) w sl e k T.ok fun d φ1 G1 H1 S1 v st1 w1 s1 hv e1 k1 => ⟨φ1, G1, S1, d, w1, s1, hv, e1, k1⟩
  · exact hc.run true pins s1 σ H1 Dn v u φ1 G1 g S1 d o S' I1 rv w1 sl1 hd e1 k1
end
end Mi
namespace Mi
open PySem L2
/-! ### cells of a call that nothing leads to are forgotten -/
mutual
def refsLt (n : Nat) : D → Bool
  | .tup l => refsLts n l
  | .lst l => refsLts n l
  | .ref i => decide (i < n)
  | _ => true
def refsLts (n : Nat) : List D → Bool
  | [] => true
  | d :: ds => refsLt n d && refsLts n ds
end
def cellLt (n : Nat) : Cell → Bool
  | .lst l => refsLts n l
  | .dK kvs => refsLts n (kvs.map (·.2))
  | .dF kvs => refsLts n (kvs.map (·.2))
  | .ins _ fs => refsLts n (fs.map (·.2))
  | .dead => true
section
variable {K : PySem.W.Frag} {cl : Cl} {φ : List Addr} {G H : Hp} {n : Nat}
mutual
theorem IsD.cut : ∀ {d : D} {v : V}, IsD K φ G d v → refsLt n d = true → IsD K (φ.take n) G d v
  | .non, _, h, _ => by simpa only [IsD] using h
  | .bl _, _, h, _ => by simpa only [IsD] using h
  | .int _, _, h, _ => by simpa only [IsD] using h
  | .str _, _, h, _ => by simpa only [IsD] using h
  | .scr _, _, h, _ => by simpa only [IsD] using h
  | .tup ds, v, h, e => by
    simp only [IsD] at h ⊢
    simp only [refsLt] at e
    obtain ⟨a, xs, h1, h2, h3⟩ := h
    exact ⟨a, xs, h1, h2, IsDs.cutR h3 e⟩
  | .lst ds, v, h, e => by
    simp only [IsD] at h ⊢
    simp only [refsLt] at e
    obtain ⟨a, xs, h1, h2, h3⟩ := h
    exact ⟨a, xs, h1, h2, IsDs.cutR h3 e⟩
  | .ref i, v, h, e => by
    simp only [IsD] at h ⊢
    simp only [refsLt] at e
    obtain ⟨a, h1, h2⟩ := h
    exact ⟨a, h1, by rw [List.getElem?_take_of_lt (of_decide_eq_true e)]; exact h2⟩
  | .cls x, v, h, e => by simpa only [IsD] using h
theorem IsDs.cutR : ∀ {ds : List D} {vs : List V}, IsDs K φ G ds vs → refsLts n ds = true → IsDs K (φ.take n) G ds vs
  | [], _, h, _ => by simpa only [IsDs] using h
  | d :: ds, vs, h, e => by
    simp only [IsDs] at h ⊢
    simp only [refsLts, Bool.and_eq_true] at e
    obtain ⟨v, r, h1, h2, h3⟩ := h
    exact ⟨v, r, h1, IsD.cut h2 e.1, IsDs.cutR h3 e.2⟩
end
theorem FsD.cut : ∀ {fs : List (Str × D)} {vs : List (Str × V)}, FsD K φ G fs vs → refsLts n (fs.map (·.2)) = true → FsD K (φ.take n) G fs vs
  | [], _, h, _ => h
  | (m, d) :: fs, _, ⟨v, r, h1, h2, h3⟩, e => by
    simp only [List.map_cons, refsLts, Bool.and_eq_true] at e
    exact ⟨v, r, h1, h2.cut e.1, FsD.cut h3 e.2⟩
theorem KsD.cut : ∀ {fs : List (Key × D)} {vs : List (Key × V)}, KsD K φ G fs vs → refsLts n (fs.map (·.2)) = true → KsD K (φ.take n) G fs vs
  | [], _, h, _ => h
  | (m, d) :: fs, _, ⟨v, r, h1, h2, h3⟩, e => by
    simp only [List.map_cons, refsLts, Bool.and_eq_true] at e
    exact ⟨v, r, h1, h2.cut e.1, KsD.cut h3 e.2⟩
theorem CellOk.cut {a : Addr} {c : Cell} (h : CellOk K cl φ G H a c) (e : cellLt n c = true) : CellOk K cl (φ.take n) G H a c := by
  cases c with
  | lst l => obtain ⟨vs, h1, h2⟩ := h; exact ⟨vs, h1, h2.cutR e⟩
  | dK l => obtain ⟨vs, h1, h2⟩ := h; exact ⟨vs, h1, h2.cut e⟩
  | dF l => obtain ⟨o, vs, h1, h2⟩ := h; exact ⟨o, vs, h1, h2.cut e⟩
  | ins c l => obtain ⟨dx, vs, h1, h2⟩ := h; exact ⟨dx, vs, h1, h2.cut e⟩
  | dead => trivial
theorem Wd.cut {S : Store} (w : Wd K cl φ S G H) (e : (S.take n).all (cellLt n) = true) : Wd K cl (φ.take n) (S.take n) G H where
  len := by rw [List.length_take, List.length_take, w.len]
  iv := w.iv
  sub := w.sub
  nd := w.nd.sublist (List.take_sublist _ _)
  tr := fun a h => w.tr a (List.mem_of_mem_take h)
  ap := fun i c a h1 h2 h3 => by
    rw [List.getElem?_take] at h1 h2
    split at h1
    · rename_i hi
      rw [if_pos hi] at h2
      exact w.ap i c a h1 h2 h3
    · cases h1
  ok := fun i c a h1 h2 => by
    have hc : cellLt n c = true := List.all_eq_true.mp e c (List.mem_of_getElem? h1)
    rw [List.getElem?_take] at h1 h2
    split at h1
    · rename_i hi
      rw [if_pos hi] at h2
      exact (w.ok i c a h1 h2).cut hc
    · cases h1
theorem Step.cut {φ0 : List Addr} {G0 H0 : Hp} (s : Step φ0 G0 H0 φ G H) (e : φ0.length = n) : Step φ0 G0 H0 (φ.take n) G H where
  pre := by
    obtain ⟨t, rfl⟩ := s.pre
    rw [← e, List.take_left]
    exact List.prefix_refl _
  ex := s.ex
  gn := s.gn
  keep := s.keep
  new := fun a h => s.new a (List.mem_of_mem_take h)
def mTrim (m : MF) : MF := fun ds S => match m ds S with
  | some (.ok d, S1) => if refsLt S.length d = true ∧ (S1.take S.length).all (cellLt S.length) = true then some (.ok d, S1.take S.length) else none
  | some (.exc c fs, S1) => if (S1.take S.length).all (cellLt S.length) = true then some (.exc c fs, S1.take S.length) else none
  | none => none
theorem sp_trim {m : MF} {vs : List V} {Q : VK} {E : XK} (h : spM K cl (mTrim m) vs H Q E) : spM K cl m vs H Q E := by
  obtain ⟨φ, G, S, ds, r, S', w, hd, e, k⟩ := h
  unfold mTrim at e
  split at e
  · rename_i d S1 q
    split at e
    · rename_i hc
      cases e
      refine ⟨φ, G, S, ds, _, S1, w, hd, q, fun φ' G' H' st w' v hv => ?_⟩
      exact k _ G' H' (st.cut w.len) (w'.cut hc.2) v (hv.cut hc.1)
    · cases e
  · rename_i c fs S1 q
    split at e
    · rename_i hc
      cases e
      refine ⟨φ, G, S, ds, _, S1, w, hd, q, fun cls dd φ' G' H' ⟨h1, h2, h3⟩ => k cls dd _ G' H' ⟨h1.cut w.len, h2.cut hc, h3⟩⟩
    · cases e
  · cases e
theorem fn_trim {P : Program} {w : World} {mg : Str → Option Value} {base : Heap} {CX : CXT} {k : Nat} {f : Addr} {fd : FuncData} {ps : List Str} {m : MF} (F : FnOk P w K mg base CX k f fd ps (spM K cl m)) : FnOk P w K mg base CX k f fd ps (spM K cl (mTrim m)) :=
  F.imp fun _ _ _ _ h => sp_trim h
end

/-! ### a list cell becomes stable -/
section
variable {X : Cx} {cl : Cl} {tk : WX → Prop} [T : Tk X tk]
variable {K : PySem.W.Frag}
def mVarF (i : Nat) : M D := fun g S => match g[i]? with
  | some (some d) => match atC S d with
    | some (j, l) => some (.ok (.lst l), S.set j .dead)
    | none => none
  | _ => none
theorem frz_step {φ : List Addr} {S : Store} {G H : Hp} (w : Wd K cl φ S G H) {i : Nat} {a : Addr} {l : List D} {vs : List V} (hS : S[i]? = some (.lst l)) (hi : φ[i]? = some a) (hH : H a = some (.lst vs)) (hv : IsDs K φ G l vs) :
    Step φ G H φ (upd G a (.lst vs)) H ∧ Wd K cl φ (S.set i .dead) (upd G a (.lst vs)) H ∧ IsD K φ (upd G a (.lst vs)) (.lst l) (.ref a) := by
  have g0 : G a = none := w.ap i _ a hS hi rfl
  have ex : Ex G (upd G a (.lst vs)) := Ex.new g0
  refine ⟨⟨List.prefix_refl _, ex, fun x h => ?_, fun x o h _ => h, fun x h => .inl h⟩, ⟨by rw [List.length_set]; exact w.len, fun x o h => ?_, w.nd, w.tr, fun j c x h1 h2 h3 => ?_, fun j c x h1 h2 => ?_, cl.mono _ _ ex w.iv⟩, ?_⟩
  · by_cases e : x = a
    · subst e; exact .inr (.inr (List.mem_of_getElem? hi))
    · rw [upd_ne e] at h; exact .inl h
  · by_cases e : x = a
    · subst e; rw [upd_same] at h; rw [← h]; exact hH
    · rw [upd_ne e] at h; exact w.sub x o h
  · rcases set_get h1 with ⟨rfl, rfl⟩ | ⟨ne, h1⟩
    · cases h3
    · have nx : x ≠ a := fun z => ne (nodup_at w.nd h2 (by rw [z]; exact hi))
      rw [upd_ne nx]; exact w.ap j c x h1 h2 h3
  · rcases set_get h1 with ⟨rfl, rfl⟩ | ⟨ne, h1⟩
    · trivial
    · exact (w.ok j c x h1 h2).mono (List.prefix_refl _) ex fun o h => h
  · simp only [IsD]
    exact ⟨a, vs, rfl, upd_same, hv.mono (List.prefix_refl _) ex⟩
theorem re_varF {i : Nat} {x : Str} {pos : Pos} (hN : X.N[i]? = some x := by rfl) (hv : Vis X.env.scope x := by first | exact Or.inl rfl | exact Or.inr (Or.inl rfl) | exact Or.inr (Or.inr rfl)) (hd : (x == ("__debug__" : Str)) = false := by decide)
    (hcd : (x == ("__classdict__" : Str)) = false := by decide) : RE X cl tk (.Name x pos) (mVarF i) := by
  refine pe_imp (pe_var hN hv hd hcd) fun σ H Q ⟨φ, G, g, S, r, S', w, s, e, k⟩ => ?_
  unfold mVarF at e
  split at e
  · rename_i d hd
    split at e
    · rename_i j l q
      cases e
      obtain ⟨v, h1, h2⟩ := s.at_ _ _ hd
      obtain ⟨h3, a, xs, rfl, h4, h5, h6⟩ := atC_ok w h2 q
      obtain ⟨e1, e2, e3⟩ := frz_step w h3 h4 h5 h6
      exact ⟨_, h1, k _ _ _ e1 e2 _ e3⟩
    · cases e
  · cases e
/-! ### arithmetic's rows -/
def fSub : Store → D → D → Option D := f2I cTrue fun i j => .int (i - j)
noncomputable def fMul : Store → D → D → Option D := f2I cMul fun i j => .int (i * j)
noncomputable def fDiv : Store → D → D → Option D := f2I cDiv fun i j => .int (i / j)
noncomputable def fMod : Store → D → D → Option D := f2I cMod fun i j => .int (i % j)
noncomputable def fPow : Store → D → D → Option D := f2I cPow fun i j => .int (i ^ j.toNat)
theorem fSub_ok : OpS K cl (rI0 fun i j => .int (i - j)) fSub := s2I0 fun i j φ G => by simp only [IsD]
theorem fMul_ok : OpS K cl (rI CMul fun i j => .int (i * j)) fMul := s2I (P := CMul) (fun i j h => cdec_iff.mp h) fun i j φ G => by simp only [IsD]
theorem fDiv_ok : OpS K cl (rI CDiv fun i j => .int (i / j)) fDiv := s2I (P := CDiv) (fun i j h => cdec_iff.mp h) fun i j φ G => by simp only [IsD]
theorem fMod_ok : OpS K cl (rI (fun _ j => 0 < j) fun i j => .int (i % j)) fMod := s2I (P := fun _ j => 0 < j) (fun i j h => cdec_iff.mp h) fun i j φ G => by simp only [IsD]
theorem fPow_ok : OpS K cl (rI CPow fun i j => .int (i ^ j.toNat)) fPow := s2I (P := CPow) (fun i j h => cdec_iff.mp h) fun i j φ G => by simp only [IsD]
def fNeg : Store → D → Option D := fun _ d => match d with
  | .int i => some (.int (-i))
  | _ => none
theorem fNeg_ok : UnS K cl (rU fun i => .int (-i)) fNeg := fun φ S G H x d z Q w h1 h3 k => by
  unfold fNeg at h3
  split at h3
  · cases h3
    simp only [IsD] at h1
    exact ⟨_, h1, k _ _ _ (Step.refl _ _ _) w _ (by simp only [IsD])⟩
  · cases h3
theorem fLt_rel : RelS K cl (rI0 fun i j => .bl (decide (i < j))) fLt := f2B_rel
theorem fLe_rel : RelS K cl (rI0 fun i j => .bl (decide (i ≤ j))) fLe := f2B_rel
theorem fGt_rel : RelS K cl (rI0 fun i j => .bl (decide (j < i))) fGt := f2B_rel (g := fun i j => decide (j < i))
theorem fGe_rel : RelS K cl (rI0 fun i j => .bl (decide (j ≤ i))) fGe := f2B_rel (g := fun i j => decide (j ≤ i))
end
section
variable {X : Cx} {cl : Cl} {tk : WX → Prop} [T : Tk X tk]
theorem re_gstr {x z : Str} {t : Tok} {pos : Pos} (h : X.mg x = some (.str z t)) (hg : Gl X x := by rfl) (hdb : (x == ("__debug__" : Str)) = false := by decide) : RE X cl tk (.Name x pos) (mP (.str z)) :=
  re_glob (v := .str z) h ⟨t, rfl⟩ (fun _ _ => by simp only [Mi.IsD]) hg hdb
end
/-! ### the ends -/
theorem fn_none {P : Program} {w : World} {K : PySem.W.Frag} {mg : Str → Option Value} {base : Heap} {CX : CXT} {cl : Cl} {k : Nat} {f : Addr} {fd : FuncData} {ps : List Str} : FnOk P w K mg base CX k f fd ps (spM K cl fun _ _ => none) :=
  ⟨fun _ _ _ _ ⟨_, _, _, _, _, _, _, _, e, _⟩ => (by cases e), fun _ _ _ _ _ _ _ _ _ _ _ _ _ ⟨_, _, _, _, _, _, _, _, e, _⟩ => (by cases e)⟩
theorem cx_never {P : Program} {w : World} {outer : List Env} {H : Hp} {s : Shared} {e : Value} {s' : Shared} (h : L2.CX P w outer H s (fun _ _ _ => False) e s') : False := by
  obtain ⟨_, _, _, _, _, _, _, _, _, _, _, _, z⟩ := h
  exact z
/-- the law's promise, from its mirror at the script -/
def clT (f : Nat → Addr) : Cl := ⟨f, fun _ => True, fun _ _ _ _ => trivial, fun _ _ _ _ _ _ => trivial, none⟩
theorem law_of {K : PySem.W.Frag} {f : Nat → Addr} {m : MF} {ns : List Int} {S' : Store} (e : m [.scr ns] [] = some (.ok (.bl true), S')) {H : Hp} {a : Addr} (hS : SqL K H a (ns.map V.int)) : spM K (clT f) m [.ref a] H (fun v _ => v = .bl true) fun _ _ _ => False := by
  refine ⟨[], H, [], [.scr ns], _, S', ⟨rfl, Ex.refl _, List.nodup_nil, fun _ h => (nomatch h), fun i c a h => (by simp at h), fun i c a h => (by simp at h), trivial⟩, .cons ?_ .nil, e, fun φ' G' H' _ _ v hv => ?_⟩
  · simp only [IsD]; exact ⟨a, rfl, hS⟩
  · simpa only [IsD] using hv
def mSkip : MS := fun g S => some (.nx g, S)
def mRetN : MS := fun _ S => some (.rt .non, S)
def mBrk : MS := fun g S => some (.bk g, S)
def mCnt : MS := fun g S => some (.ct g, S)
@[simp] theorem v_skip (g : Gm) (S : Store) : mSkip g S = some (.nx g, S) := id rfl
@[simp] theorem v_retN (g : Gm) (S : Store) : mRetN g S = some (.rt .non, S) := id rfl
@[simp] theorem v_brk (g : Gm) (S : Store) : mBrk g S = some (.bk g, S) := id rfl
@[simp] theorem v_cnt (g : Gm) (S : Store) : mCnt g S = some (.ct g, S) := id rfl
end Mi
/-! MiEval: what the mirrors' words give, for simp. -/
namespace Mi
open PySem L2
theorem sz_ok {n : Nat} (h : n ≤ 16777216) : szOk n = true := cdec_iff.mpr h
theorem sz_iff {n : Nat} : szOk n = true ↔ n ≤ 16777216 := cdec_iff
theorem big_ok {i : Int} (h : -1000000000 ≤ i ∧ i ≤ 1000000000) : big62 i = true := cdec_iff.mpr ⟨by omega, by omega⟩
section
variable {α β : Type} {g : Gm} {S S1 : Store}
@[simp] theorem v_P (a : α) : mP a g S = some (.ok a, S) := id rfl
theorem v_B {m : M α} {f : α → M β} {a : α} (h : m g S = some (.ok a, S1)) : mB m f g S = f a g S1 := by simp only [mB, h]
@[simp] theorem v_Beq (m : M α) (f : α → M β) : mB m f g S = match m g S with
  | some (.ok a, S1) => f a g S1
  | some (.exc c fs, S1) => some (.exc c fs, S1)
  | none => none := id rfl
@[simp] theorem v_L (f : Store → Option α) : mL f g S = (f S).map fun a => (.ok a, S) := id rfl
@[simp] theorem v_op1 (f : Store → D → Option D) (m : M D) : mOp1 f m g S = mB m (fun d => mL fun S => f S d) g S := id rfl
@[simp] theorem v_op2 (f : Store → D → D → Option D) (m n : M D) : mOp2 f m n g S = mB m (fun d => mB n fun e => mL fun S => f S d e) g S := id rfl
@[simp] theorem v_opA (f : Store → List D → Option D) (m : M (List D)) : mOpA f m g S = mB m (fun ds => mL fun S => f S ds) g S := id rfl
@[simp] theorem v_nil : mNil g S = some (.ok [], S) := id rfl
@[simp] theorem v_cons (m : M D) (n : M (List D)) : mCons m n g S = mB m (fun d => mB n fun ds => mP (d :: ds)) g S := id rfl
@[simp] theorem v_var (i : Nat) : mVar i g S = match g[i]? with
  | some (some d) => some (.ok d, S)
  | _ => none := id rfl
@[simp] theorem v_T (m : M D) : mT m g S = mB m (fun d => mL fun _ => match d with
  | .bl b => some b
  | _ => none) g S := id rfl
@[simp] theorem v_call (mf : MF) (m : M (List D)) : mCall mf m g S = mB m (fun ds => fun _ S => mf ds S) g S := id rfl
@[simp] theorem v_withD (mf : MF) : withD mf [] = mf := by funext ds S; simp [withD]
@[simp] theorem v_set (i : Nat) (m : M D) : mSet i m g S = match m g S with
  | some (.ok d, S1) => some (.nx (g.set i (some d)), S1)
  | some (.exc c fs, S1) => some (.ex g c fs, S1)
  | none => none := id rfl
@[simp] theorem v_ret (m : M D) : mRet m g S = match m g S with
  | some (.ok d, S1) => some (.rt d, S1)
  | some (.exc c fs, S1) => some (.ex g c fs, S1)
  | none => none := id rfl
@[simp] theorem v_ex (m : M D) : mEx m g S = match m g S with
  | some (.ok _, S1) => some (.nx g, S1)
  | some (.exc c fs, S1) => some (.ex g c fs, S1)
  | none => none := id rfl
@[simp] theorem v_seq (m n : MS) : mSeq m n g S = match m g S with
  | some (.nx g1, S1) => n g1 S1
  | r => r := id rfl
@[simp] theorem v_ifS (c : M Bool) (m n : MS) : mIfS c m n g S = match c g S with
  | some (.ok b, S1) => if b = true then m g S1 else n g S1
  | some (.exc c fs, S1) => some (.ex g c fs, S1)
  | none => none := id rfl
@[simp] theorem v_and (m n : M Bool) : mAndT m n g S = mB m (fun b => if b = true then n else mP false) g S := id rfl
@[simp] theorem v_or (m n : M Bool) : mOrT m n g S = mB m (fun b => if b = true then mP true else n) g S := id rfl
@[simp] theorem v_not (m : M Bool) : mNotT m g S = mB m (fun b => mP (!b)) g S := id rfl
@[simp] theorem v_bl (m : M D) (f : Bool → M D) : mBl m f g S = mB m (fun d => match d with
  | .bl b => f b
  | _ => fun _ _ => none) g S := id rfl
@[simp] theorem v_andV (m n : M D) : mAndV m n g S = mBl m (fun b => if b = true then n else mP (.bl false)) g S := id rfl
@[simp] theorem v_orV (m n : M D) : mOrV m n g S = mBl m (fun b => if b = true then mP (.bl true) else n) g S := id rfl
@[simp] theorem v_notV (m : M D) : mNotV m g S = mBl m (fun b => mP (.bl (!b))) g S := id rfl
@[simp] theorem v_if (c : M Bool) (m n : M D) : mIf c m n g S = mB c (fun b => if b = true then m else n) g S := id rfl
@[simp] theorem v_ch (f f' : Store → D → D → Option D) (ma mb mc : M D) : mCh f f' ma mb mc g S = mB ma (fun x => mB mb fun y => mB (mL fun S => f S x y) fun z => match z with
  | .bl true => mB mc fun u => mL fun S => f' S y u
  | .bl false => mP (.bl false)
  | _ => fun _ _ => none) g S := id rfl
@[simp] theorem v_part (m : M D) : mPart m g S = mB m (fun d => mL fun _ => match d with
  | .int i => some (some i)
  | _ => none) g S := id rfl
@[simp] theorem v_sl (m : M D) (lo hi : M (Option Int)) : mSl m lo hi g S = mB m (fun d => mB lo fun l => mB hi fun h => mL fun S => fSl S d l h) g S := id rfl
@[simp] theorem v_fn (N np : Nat) (b : MS) (ds : List D) : mFn N np b ds S = if ds.length = np then
    match b (ds.map some ++ List.replicate (N - np) none) S with
    | some (.rt d, S') => some (.ok d, S')
    | some (.nx _, S') => some (.ok .non, S')
    | some (.ex _ c fs, S') => some (.exc c fs, S')
    | _ => none
  else none := id rfl
@[simp] theorem v_for (mi : M Src) (b : Bind) (body : MS) : mFor mi b body g S = match mi g S with
  | some (.ok src, S1) => forGo src b body src.1 g S1
  | some (.exc c fs, S1) => some (.ex g c fs, S1)
  | none => none := id rfl
@[simp] theorem v_str1 (f : Store → D → D → Option D) (m n : M D) : mStr1 f m n g S = mB m (fun d => mB (mL fun _ => match d with | .str _ => some () | _ => none) fun _ => mB n fun e => mL fun S => f S d e) g S := id rfl
@[simp] theorem v_newL (m : M (List D)) : mNewL m g S = mB m (fun ds => fun _ S => if szOk ds.length = true then some (.ok (.ref S.length), S ++ [.lst ds]) else none) g S := id rfl
@[simp] theorem v_rng (m : M (List D)) : mRng m g S = mB m (fun ds => mL fun _ => match ds with
  | [.int j] => if big62 j = true then some (rngD 0 j.toNat, none) else none
  | [.int i, .int j] => if big62 i = true ∧ big62 j = true then some (rngD i (j - i).toNat, none) else none
  | _ => none) g S := id rfl
theorem v_lc {vs : List Nat} {mi : M Src} {b : Bind} {mt : M Bool} {me : M D} {src : Src} {l : List D} {S2 : Store} (h1 : mi g S = some (.ok src, S1)) (h2 : lcGo src b mt me (wipeG g vs) src.1 [] S1 = some (l, S2)) : mLc vs mi b mt me g S = some (.ok (.lst l), S2) := by
  unfold mLc mB
  rw [h1]
  show (match lcGo src b mt me (wipeG g vs) src.1 [] S1 with
    | some (l, S1) => some ((.ok (.lst l) : R D), S1)
    | none => none) = _
  rw [h2]
@[simp] theorem v_I (m : M D) : mI m g S = mB m (fun d => mL fun S => match d with
  | .lst l => some (l, none)
  | .scr l => some (l.map D.int, none)
  | .tup l => some (l, none)
  | .str z => some (chars z, none)
  | .ref i => match S[i]? with
    | some (.lst l) => some (l, some (i, l))
    | _ => none
  | _ => none) g S := id rfl
@[simp] theorem v_bN (i : Nat) (d : D) : bN i d g = some (g.set i (some d)) := id rfl
@[simp] theorem v_app (mo me : M D) : mApp mo me g S = mB mo (fun d => mB (mL fun S => atC S d) fun _ => mB me fun e => fun _ S => match atC S d with
  | some (i, l) => if szOk (l.length + 1) = true then some (.ok .non, S.set i (.lst (l ++ [e]))) else none
  | none => none) g S := id rfl
@[simp] theorem v_varF (i : Nat) : mVarF i g S = match g[i]? with
  | some (some d) => match atC S d with
    | some (j, l) => some (.ok (.lst l), S.set j .dead)
    | none => none
  | _ => none := id rfl
@[simp] theorem v_match (m : M D) (mc : MC) : mMatch m mc g S = match m g S with
  | some (.ok d, S1) => mc d g S1
  | some (.exc c fs, S1) => some (.ex g c fs, S1)
  | none => none := id rfl
@[simp] theorem v_mcNil (d : D) : mcNil d g S = some (.nx g, S) := id rfl
@[simp] theorem v_mcCons (ps : List PatE) (body : MS) (rest : MC) (d : D) : mcCons ps body rest d g S = match asL S d with
  | some l => if l.length = ps.length then match matchSeqD ps l with
      | some (some bs) => body (bindAll bs g) S
      | some none => rest d g S
      | none => none
    else rest d g S
  | none => none := id rfl
end
/-! numbers -/
@[simp] theorem v_add (S : Store) (i j : Int) : fAdd S (.int i) (.int j) = some (.int (i + j)) := id rfl
@[simp] theorem v_adds (S : Store) (x y : Str) : fAdd S (.str x) (.str y) = if szOk (x.length + y.length) = true then some (.str (x ++ y)) else none := id rfl
@[simp] theorem v_sub (S : Store) (i j : Int) : fSub S (.int i) (.int j) = some (.int (i - j)) := id rfl
theorem v_mul (S : Store) (i j : Int) (h : (-(2 ^ 64) < i ∧ i < 2 ^ 64) ∨ (-(2 ^ 64) < j ∧ j < 2 ^ 64)) : fMul S (.int i) (.int j) = some (.int (i * j)) := by
  show (if cdec _ = true then _ else _) = _
  rw [if_pos (cdec_iff.mpr h)]
theorem v_mod (S : Store) (i j : Int) (h : 0 < j) : fMod S (.int i) (.int j) = some (.int (i % j)) := by
  show (if cdec _ = true then _ else _) = _
  rw [if_pos (cdec_iff.mpr h)]
theorem v_div (S : Store) (i j : Int) (h : 0 < j ∧ j < 1073741824) : fDiv S (.int i) (.int j) = some (.int (i / j)) := by
  show (if cdec _ = true then _ else _) = _
  rw [if_pos (cdec_iff.mpr h)]
theorem v_pow (S : Store) (i j : Int) (h : 0 ≤ j ∧ j ≤ 1000000 ∧ i.natAbs < 2 ^ 64) : fPow S (.int i) (.int j) = some (.int (i ^ j.toNat)) := by
  show (if cdec _ = true then _ else _) = _
  rw [if_pos (cdec_iff.mpr h)]
@[simp] theorem v_lt (S : Store) (i j : Int) : fLt S (.int i) (.int j) = some (.bl (decide (i < j))) := id rfl
@[simp] theorem v_le (S : Store) (i j : Int) : fLe S (.int i) (.int j) = some (.bl (decide (i ≤ j))) := id rfl
@[simp] theorem v_gt (S : Store) (i j : Int) : fGt S (.int i) (.int j) = some (.bl (decide (j < i))) := id rfl
@[simp] theorem v_ge (S : Store) (i j : Int) : fGe S (.int i) (.int j) = some (.bl (decide (j ≤ i))) := id rfl
@[simp] theorem v_abs (S : Store) (i : Int) : cAbs S [.int i] = some (.int (if i < 0 then -i else i)) := id rfl
@[simp] theorem v_cint (S : Store) (i : Int) : cInt S [.int i] = some (.int i) := id rfl
@[simp] theorem v_lenL (S : Store) (l : List D) : cLen S [.lst l] = some (.int l.length) := id rfl
@[simp] theorem v_lenT (S : Store) (l : List D) : cLen S [.tup l] = some (.int l.length) := id rfl
theorem v_lenS (S : Store) (z : Str) (h : z.length ≤ 16777216) : cLen S [.str z] = some (.int z.length) := by
  show (if szOk z.length = true then _ else _) = _
  rw [if_pos (show szOk z.length = true from cdec_iff.mpr h)]
@[simp] theorem v_ixL (S : Store) (l : List D) (i : Int) : fIx S (.lst l) (.int i) = atI l i := id rfl
@[simp] theorem v_ixT (S : Store) (l : List D) (i : Int) : fIx S (.tup l) (.int i) = atI l i := id rfl
@[simp] theorem v_slL (S : Store) (l : List D) (lo hi : Option Int) : fSl S (.lst l) lo hi = some (.lst (cutD l lo hi)) := id rfl
theorem intsOf_map : ∀ l : List Int, intsOf (l.map D.int) = some l
  | [] => rfl
  | i :: l => by simp only [List.map_cons, intsOf, intsOf_map l]; rfl
theorem blsOf_map : ∀ l : List Bool, blsOf (l.map D.bl) = some l
  | [] => rfl
  | i :: l => by simp only [List.map_cons, blsOf, blsOf_map l]; rfl
theorem strsOf_map : ∀ l : List Str, strsOf (l.map D.str) = some l
  | [] => rfl
  | i :: l => by simp only [List.map_cons, strsOf, strsOf_map l]; rfl
theorem v_sum (S : Store) (l : List Int) : cSum S [.lst (l.map D.int)] = some (.int l.sum) := by
  show ((some (l.map D.int)).bind intsOf).map _ = _
  rw [Option.bind_some, intsOf_map]; rfl
theorem v_all (S : Store) (l : List Bool) : cAll S [.lst (l.map D.bl)] = some (.bl (l.all id)) := by
  show ((some (l.map D.bl)).bind blsOf).map _ = _
  rw [Option.bind_some, blsOf_map]; rfl
theorem v_any (S : Store) (l : List Bool) : cAny S [.lst (l.map D.bl)] = some (.bl (l.any id)) := by
  show ((some (l.map D.bl)).bind blsOf).map _ = _
  rw [Option.bind_some, blsOf_map]; rfl
theorem atI_natD {l : List D} {i : Int} {j : Nat} (h : i = j) (hj : j < l.length) : atI l i = some l[j] := by
  subst h; exact atI_nat (List.getElem?_eq_getElem hj)
theorem atI_ints {l : List Int} {i : Int} (h0 : 0 ≤ i) (h1 : i < l.length) : atI (l.map D.int) i = some (.int (l.getD i.toNat 0)) := by
  have e : i = (i.toNat : Nat) := by omega
  have hj : i.toNat < l.length := by omega
  rw [e, atI_nat (v := .int (l.getD i.toNat 0))]
  · rfl
  · simp [List.getD, hj]
/-! ### the draws of a law -/
def drawF (l : List Int) (k many : Int) : Int := if k < l.length then l.getD k.toNat 0 % many else (k * 7919 + (l.take 40).sum * 31 + 3) % 1009 % many
theorem drawF_ge (l : List Int) (k : Int) {many : Int} (h : 0 < many) : 0 ≤ drawF l k many := by
  unfold drawF; split <;> exact Int.emod_nonneg _ (by omega)
theorem drawF_lt (l : List Int) (k : Int) {many : Int} (h : 0 < many) : drawF l k many < many := by
  unfold drawF; split <;> exact Int.emod_lt_of_pos _ h
theorem cut40 (l : List Int) : cutD (l.map D.int) none (some 40) = (l.take 40).map D.int := by
  unfold cutD
  have e : HT.sIx (l.map D.int).length 0 none = 0 := rfl
  have e2 : HT.sIx (l.map D.int).length (l.map D.int).length (some 40) = min 40 (l.map D.int).length := HT.sIx_nat _ _ 40
  rw [e, e2, List.drop_zero, Nat.sub_zero, List.length_map, ← List.map_take]
  congr 1
  rw [List.take_eq_take_iff]
  omega
/-! ### loops by a word -/
@[simp] theorem srcOk_none (S : Store) (l : List D) : srcOk S (l, none) = True := id rfl
/-- a loop whose body never leaves it: I by what is left, the names, the store -/
theorem forGo_all {src : Src} {b : Bind} {body : MS} (I : List D → Gm → Store → Prop)
    (turn : ∀ d ds g S, I (d :: ds) g S → srcOk S src ∧ ∃ g1 g2 S2, b d g = some g1 ∧ (body g1 S = some (.nx g2, S2) ∨ body g1 S = some (.ct g2, S2)) ∧ I ds g2 S2) (fin : ∀ g S, I [] g S → srcOk S src) :
    ∀ (l : List D) (g : Gm) (S : Store), I l g S → ∃ g' S', forGo src b body l g S = some (.nx g', S') ∧ I [] g' S'
  | [], g, S, h => ⟨g, S, by simp only [forGo, if_pos (fin g S h)], h⟩
  | d :: ds, g, S, h => by
    obtain ⟨h1, g1, g2, S2, e1, e2, h2⟩ := turn d ds g S h
    obtain ⟨g', S', e3, h3⟩ := forGo_all I turn fin ds g2 S2 h2
    refine ⟨g', S', ?_, h3⟩
    rcases e2 with e2 | e2
    · simp only [forGo, if_pos h1, e1, e2, e3]
    · simp only [forGo, if_pos h1, e1, e2, e3]
/-- a comprehension whose turns all give a value -/
theorem lcGo_map {src : Src} {b : Bind} {me : M D} {g0 : Gm} {S : Store} (f : D → D) (hok : srcOk S src) :
    ∀ (l acc : List D), (∀ d ∈ l, ∃ g1, b d g0 = some g1 ∧ me g1 S = some (.ok (f d), S)) → l.length + acc.length ≤ 16777216 → lcGo src b (mP true) me g0 l acc S = some (acc ++ l.map f, S)
  | [], acc, _, _ => by simp only [lcGo, if_pos hok, List.map_nil, List.append_nil]
  | d :: ds, acc, h, hl => by
    obtain ⟨g1, e1, e2⟩ := h d List.mem_cons_self
    simp only [List.length_cons] at hl
    simp only [lcGo, if_pos hok, e1, v_P, e2]
    rw [if_pos (sz_ok (by omega)), lcGo_map f hok ds (acc ++ [f d]) (fun x hx => h x (List.mem_cons_of_mem _ hx)) (by simp; omega)]
    simp
theorem lcGo_filter {src : Src} {b : Bind} {mt : M Bool} {me : M D} {g0 : Gm} {S : Store} (p : D → Bool) (f : D → D) (hok : srcOk S src) :
    ∀ (l acc : List D), (∀ d ∈ l, ∃ g1, b d g0 = some g1 ∧ mt g1 S = some (.ok (p d), S) ∧ (p d = true → me g1 S = some (.ok (f d), S))) → l.length + acc.length ≤ 16777216 → lcGo src b mt me g0 l acc S = some (acc ++ (l.filter p).map f, S)
  | [], acc, _, _ => by simp only [lcGo, if_pos hok, List.filter_nil, List.map_nil, List.append_nil]
  | d :: ds, acc, h, hl => by
    obtain ⟨g1, e1, e2, e3⟩ := h d List.mem_cons_self
    simp only [List.length_cons] at hl
    cases q : p d with
    | true =>
      rw [q] at e2
      simp only [lcGo, if_pos hok, e1, e2, e3 q]
      rw [if_pos (sz_ok (by omega)), lcGo_filter p f hok ds (acc ++ [f d]) (fun x hx => h x (List.mem_cons_of_mem _ hx)) (by simp; omega), List.filter_cons_of_pos q]
      simp
    | false =>
      rw [q] at e2
      simp only [lcGo, if_pos hok, e1, e2]
      rw [lcGo_filter p f hok ds acc (fun x hx => h x (List.mem_cons_of_mem _ hx)) (by omega), List.filter_cons_of_neg (by simp [q])]
theorem refsLts_ints (n : Nat) : ∀ l : List Int, refsLts n (l.map D.int) = true
  | [] => rfl
  | i :: l => by simp only [List.map_cons, refsLts, refsLt, refsLts_ints n l]; rfl
end Mi
namespace Mi
open PySem L2
/-! ### raising an own error made with a text -/
abbrev veBm : List Value := [.type "ValueError", .type "Exception", .type "BaseException", .type "object"]
/-- class x at C may be made with a text -/
structure OwnC (K : PySem.W.Frag) (mg : Str → Option Value) (x : Str) (C : Addr) : Prop where
  q : PySem.W.excIn K C veBm "ValueError.__new__" = true
  g : mg x = some (.ref C)
  k : PySem.W.keepIn K (.ref C) = true
  b : PySem.W.subIn K (.ref C) (.type "BaseException") = some true
  t : PySem.W.typeIn K (.ref C) = some (.type "type")
def mRaise (c : Nat) (fs : List (Str × D)) : MS := fun g S => some (.ex g c fs, S)
section
variable {X : Cx} {cl : Cl} {tk : WX → Prop} [T : Tk X tk]
theorem rs_raise {x m : Str} {j : Nat} {p p2 pos pos' : Pos} {c : Nat} (O : OwnC X.K X.mg x (cl.at_ c)) (hc : X.calm = true := by rfl) (hg : Gl X x := by rfl) (hdb : (x == ("__debug__" : Str)) = false := by decide) :
    RS X cl tk (.Raise (some (.Call (.Name x p) [.Constant (.str m) j p2] [] pos)) none pos') (mRaise c []) := by
  refine ⟨fun pins s σ H D I ⟨φ, G, g, S, o, S', w, sl, e, k⟩ => ?_⟩
  cases e
  exact (ps_raise hc (T.tk _ k) (pmk_own PySem.F.excBase_ValueError O.q O.g O.k (raises_own O.b O.t) hg hdb)).run pins s σ H D I ⟨φ, G, ⟨Step.refl _ _ _, w, rfl, .inl ⟨rfl, rfl⟩⟩, sl⟩
end

/-! ### what a handler knows -/
def FOk (K : PySem.W.Frag) (fs : List (Str × D)) (d : Option Addr) (G : Hp) : Prop := (fs = [] ∧ d = none) ∨ ∃ dx fv, d = some dx ∧ G dx = some (.xd fv) ∧ FsD K [] G fs fv
def clE (K : PySem.W.Frag) (cl : Cl) (fs : List (Str × D)) (d : Option Addr) (hd : Option (Nat × Addr)) : Cl where
  at_ := cl.at_
  inv := fun G => cl.inv G ∧ FOk K fs d G
  mono := fun G G' e h => ⟨cl.mono G G' e h.1, h.2.imp id fun ⟨dx, fv, h1, h2, h3⟩ => ⟨dx, fv, h1, e _ _ h2, h3.mono (List.prefix_refl _) e⟩⟩
  unf := fun G a o kws q h => ⟨cl.unf G a o kws q h.1, h.2.imp id fun ⟨dx, fv, h1, h2, h3⟩ => ⟨dx, fv, h1, by rw [del_ne (fun z => by rw [z, q] at h2; cases h2)]; exact h2, h3.unf q⟩⟩
  hd := hd
section
variable {K : PySem.W.Frag} {cl : Cl} {φ : List Addr} {S : Store} {G H : Hp} {fs : List (Str × D)} {d : Option Addr} {hd : Option (Nat × Addr)}
theorem cellE {a : Addr} {c : Cell} : CellOk K (clE K cl fs d hd) φ G H a c ↔ CellOk K cl φ G H a c := by cases c <;> exact Iff.rfl
theorem Wd.toE (w : Wd K cl φ S G H) (h : FOk K fs d G) : Wd K (clE K cl fs d hd) φ S G H := ⟨w.len, w.sub, w.nd, w.tr, w.ap, fun i c a h1 h2 => cellE.mpr (w.ok i c a h1 h2), ⟨w.iv, h⟩⟩
theorem Wd.ofE (w : Wd K (clE K cl fs d hd) φ S G H) : Wd K cl φ S G H := ⟨w.len, w.sub, w.nd, w.tr, w.ap, fun i c a h1 h2 => cellE.mp (w.ok i c a h1 h2), w.iv.1⟩
theorem Sl.ofE (hh : cl.hd = none) {g : Gm} {σ : St} (s : Sl K (clE K cl fs d hd) φ G g σ) : Sl K cl φ G g σ := ⟨s.len, s.at_, fun i a z => by rw [hh] at z; cases z⟩
theorem Sl.toE {i : Nat} {a : Addr} {g : Gm} {σ : St} (s : Sl K cl φ G g σ) : Sl K (clE K cl fs d (some (i, a))) φ G (g.set i none) (σ.set i (some (.ref a))) := ⟨by simp [s.len], fun j e hj => by
  by_cases q : i = j
  · subst q
    rw [List.getElem?_set] at hj
    simp at hj
  · rw [List.getElem?_set_ne q] at hj ⊢
    exact s.at_ j e hj, fun j b hj hg => by
  cases (show some (i, a) = some (j, b) from hj)
  have hl : i < g.length := by
    by_cases h : i < g.length
    · exact h
    · rw [List.getElem?_eq_none (by simpa using h)] at hg; cases hg
  exact List.getElem?_set_self (by rw [s.len]; exact hl)⟩
theorem Sl.toO {g : Gm} {σ : St} (s : Sl K cl φ G g σ) : Sl K (clE K cl fs d none) φ G g σ := ⟨s.len, s.at_, fun i a z => by cases (show (none : Option (Nat × Addr)) = some _ from z)⟩
end

/-! ### try .. except -/
def leW (W : WX) : WX → Prop := fun W' => ∀ c d σ H, W' c d σ H → W c d σ H
theorem leW_ok (W : WX) : TkOk (leW W) := fun W1 W2 h i c d σ H q => h c d σ H (i c d σ H q)
theorem tk_le {X : Cx} {W : WX} (t : Takes X W) : Tk X (leW W) := ⟨leW_ok W, fun _ h => t.imp h⟩
/-- what a suite's end is behind the try: the name is gone -/
def outE (i : Nat) : Out → Option Out
  | .nx g => some (.nx (g.set i none))
  | .bk g => some (.bk (g.set i none))
  | .ct g => some (.ct (g.set i none))
  | .rt d => some (.rt d)
  | .ex _ _ _ => none
def mTryAs (mb : MS) (tab : Nat → Option Bool) (i : Nat) (mh : Nat → List (Str × D) → MS) : MS := fun g S => match mb g S with
  | some (.ex g1 c fs, S1) => match tab c with
    | some true => match mh c fs (g1.set i none) S1 with
      | some (o, S2) => (outE i o).map fun o' => (o', S2)
      | none => none
    | some false => some (.ex g1 c fs, S1)
    | none => none
  | r => r
def outO : Out → Option Out
  | .ex _ _ _ => none
  | o => some o
def mTryO (mb : MS) (tab : Nat → Option Bool) (mh : Nat → List (Str × D) → MS) : MS := fun g S => match mb g S with
  | some (.ex g1 c fs, S1) => match tab c with
    | some true => match mh c fs g1 S1 with
      | some (o, S2) => (outO o).map fun o' => (o', S2)
      | none => none
    | some false => some (.ex g1 c fs, S1)
    | none => none
  | r => r
section
variable {X : Cx} {cl : Cl} {tk : WX → Prop} [T : Tk X tk]
theorem kos_le {K : PySem.W.Frag} {φ : List Addr} {G H : Hp} {o : Out} {S' : Store} {Dn : Ends} {W : WX} (k : Kos K cl tk φ G H o S' Dn) (h : ∀ g c fs, o ≠ .ex g c fs) : Kos K cl (leW W) φ G H o S' Dn := by
  cases o with
  | ex g c fs => exact absurd rfl (h g c fs)
  | nx g => exact k
  | rt g => exact k
  | bk g => exact k
  | ct g => exact k
theorem rs_tryAs {i : Nat} {x n : Str} {cv : Value} {body suite : List Stmt} {b₀ : Stmt} {np pos pos' : Pos} {mb : MS} {tab : Nat → Option Bool} {mh : Nat → List (Str × D) → MS}
    (hN : X.N.Nodup) (hc : Names X x cv) (hx : ∀ c b, tab c = some b → PySem.W.exmOne X.K (.ref (cl.at_ c)) cv = some b)
    (hb : ∀ (W : WX) (pn : List (Addr × Obj)) (xe : Value → Shared → Prop), Tk (X.tr pn xe) (leW W) → PassesOwn (model X.prog X.w) X.A X.env xe → RSs (X.tr pn xe) cl (leW W) body mb)
    (hS : ∀ (a : Addr) (oe : Obj) (c : Nat) (fs : List (Str × D)) (d : Option Addr) (pn : List (Addr × Obj)), tab c = some true → Zc (.ref (cl.at_ c)) d oe → (∃ vs, oe.data = .fields vs) →
      RSs (X.suite a ((a, oe) :: pn)) (clE X.K cl fs d (some (i, a))) (fun _ => False) (b₀ :: suite) (mh c fs))
    (hs : X.stack = X.env :: X.outer := by rfl) (hf : X.env.frame = some X.env.locals := by rfl) (hi : X.N[i]? = some n := by rfl) (hln : X.env.kindOf n = some .local := by rfl) (hh : cl.hd = none := by rfl) :
    RS X cl tk (.Try body [.ExceptHandler (some (.Name x np)) (some n) (b₀ :: suite) pos'] [] [] pos) (mTryAs mb tab i mh) := by
  refine ⟨fun pins s σ H D I ⟨φ, G, g, S, o, S', w, sl, e, k⟩ => ?_⟩
  let ts : Addr → Value → Option Addr → TS := fun a cls d D σ H => ∃ c fs, cls = .ref (cl.at_ c) ∧ tab c = some true ∧ tMS X.K (clE X.K cl fs d (some (i, a))) (fun _ => False) (mh c fs) D σ H
  have suiteR : ∀ (a : Addr) (oe : Obj) (cls : Value) (d : Option Addr) (pn : List (Addr × Obj)), Zc cls d oe → (∃ vs, oe.data = .fields vs) → PSs (X.suite a ((a, oe) :: pn)) (b₀ :: suite) (ts a cls d) := fun a oe cls d pn hz hfl =>
    ⟨fun pins s σ H D I ⟨c, fs, ec, et, h⟩ => by subst ec; exact (hS a oe c fs d pn et hz hfl).run pins s σ H D I h⟩
  have main : ∀ Wout : WX, Takes X Wout → tMS X.K cl (leW (wAs X.K cv i ts Wout D)) mb D σ H → wpAny (model X.prog X.w) X.A (exec (.Try body [.ExceptHandler (some (.Name x np)) (some n) (b₀ :: suite) pos'] [] [] pos) X.env) (SP X pins D) X.xe s := fun Wout tkW h =>
    (ps_try_as (i := i) (tb := fun W => tMS X.K cl (leW W) mb) (ts := ts) (Wout := Wout) hs hf hN hi hln hc tkW (fun W pn xe t hp => hb W pn xe (tk_le t) hp) suiteR).run pins s σ H D I h
  unfold mTryAs at e
  split at e
  · rename_i g1 c fs S1 q
    split at e
    · rename_i et
      split at e
      · rename_i o2 S2 q2
        cases ho : outE i o2 with
        | none => rw [ho] at e; cases e
        | some o' =>
          rw [ho] at e
          cases e
          refine main (fun _ _ _ _ => False) takes0 ⟨φ, G, g, S, _, _, w, sl, q, ?_⟩
          intro cls dd σ' H' ⟨φ', G', ⟨st, w', ec, hfo⟩, sl'⟩
          subst ec
          refine ⟨true, hx c true et, fun _ a ha => ⟨c, fs, rfl, et, φ', G', _, S1, o2, S', w'.toE hfo, sl'.toE, q2, ?_⟩, fun z => by cases z⟩
          cases o2 with
          | nx g2 =>
            cases ho
            exact fun φ2 G2 H2 st2 w2 σ2 s2 => k φ2 G2 H2 (st.trans st2) w2.ofE _ ((s2.ofE hh).wipe hh)
          | bk g2 =>
            cases ho
            exact fun φ2 G2 H2 st2 w2 σ2 s2 => k φ2 G2 H2 (st.trans st2) w2.ofE _ ((s2.ofE hh).wipe hh)
          | ct g2 =>
            cases ho
            exact fun φ2 G2 H2 st2 w2 σ2 s2 => k φ2 G2 H2 (st.trans st2) w2.ofE _ ((s2.ofE hh).wipe hh)
          | rt d2 =>
            cases ho
            exact fun φ2 G2 H2 st2 w2 v hv => k φ2 G2 H2 (st.trans st2) w2.ofE v hv
          | ex g2 c2 fs2 => cases ho
      · cases e
    · rename_i et
      cases e
      refine main _ (T.tk _ k) ⟨φ, G, g, S, _, _, w, sl, q, ?_⟩
      intro cls dd σ' H' hw
      obtain ⟨φ', G', ⟨st, w', ec, hfo⟩, sl'⟩ := id hw
      subst ec
      exact ⟨false, hx c false et, fun z => (by cases z), fun _ => hw⟩
    · cases e
  · rename_i hn
    exact main (fun _ _ _ _ => False) takes0 ⟨φ, G, g, S, o, S', w, sl, e, kos_le k fun g c fs z => by subst z; exact hn g c fs S' e⟩
theorem rs_tryO {x : Str} {cv : Value} {body suite : List Stmt} {b₀ : Stmt} {np pos pos' : Pos} {mb : MS} {tab : Nat → Option Bool} {mh : Nat → List (Str × D) → MS}
    (hc : Names X x cv) (hx : ∀ c b, tab c = some b → PySem.W.exmOne X.K (.ref (cl.at_ c)) cv = some b)
    (hb : ∀ (W : WX) (pn : List (Addr × Obj)) (xe : Value → Shared → Prop), Tk (X.tr pn xe) (leW W) → PassesOwn (model X.prog X.w) X.A X.env xe → RSs (X.tr pn xe) cl (leW W) body mb)
    (hS : ∀ (a : Addr) (oe : Obj) (c : Nat) (fs : List (Str × D)) (d : Option Addr) (pn : List (Addr × Obj)), tab c = some true → Zc (.ref (cl.at_ c)) d oe → (∃ vs, oe.data = .fields vs) →
      RSs (X.suite a ((a, oe) :: pn)) (clE X.K cl fs d none) (fun _ => False) (b₀ :: suite) (mh c fs))
    (hs : X.stack = X.env :: X.outer := by rfl) (hf : X.env.frame = some X.env.locals := by rfl) (hh : cl.hd = none := by rfl) :
    RS X cl tk (.Try body [.ExceptHandler (some (.Name x np)) none (b₀ :: suite) pos'] [] [] pos) (mTryO mb tab mh) := by
  refine ⟨fun pins s σ H D I ⟨φ, G, g, S, o, S', w, sl, e, k⟩ => ?_⟩
  let ts : Addr → Value → Option Addr → TS := fun a cls d D σ H => ∃ c fs, cls = .ref (cl.at_ c) ∧ tab c = some true ∧ tMS X.K (clE X.K cl fs d none) (fun _ => False) (mh c fs) D σ H
  have suiteR : ∀ (a : Addr) (oe : Obj) (cls : Value) (d : Option Addr) (pn : List (Addr × Obj)), Zc cls d oe → (∃ vs, oe.data = .fields vs) → PSs (X.suite a ((a, oe) :: pn)) (b₀ :: suite) (ts a cls d) := fun a oe cls d pn hz hfl =>
    ⟨fun pins s σ H D I ⟨c, fs, ec, et, h⟩ => by subst ec; exact (hS a oe c fs d pn et hz hfl).run pins s σ H D I h⟩
  have main : ∀ Wout : WX, Takes X Wout → tMS X.K cl (leW (wOnly X.K cv ts Wout D)) mb D σ H → wpAny (model X.prog X.w) X.A (exec (.Try body [.ExceptHandler (some (.Name x np)) none (b₀ :: suite) pos'] [] [] pos) X.env) (SP X pins D) X.xe s := fun Wout tkW h =>
    (ps_try_only (tb := fun W => tMS X.K cl (leW W) mb) (ts := ts) (Wout := Wout) hs hf hc tkW (fun W pn xe t hp => hb W pn xe (tk_le t) hp) suiteR).run pins s σ H D I h
  unfold mTryO at e
  split at e
  · rename_i g1 c fs S1 q
    split at e
    · rename_i et
      split at e
      · rename_i o2 S2 q2
        cases ho : outO o2 with
        | none => rw [ho] at e; cases e
        | some o' =>
          rw [ho] at e
          cases e
          refine main (fun _ _ _ _ => False) takes0 ⟨φ, G, g, S, _, _, w, sl, q, ?_⟩
          intro cls dd σ' H' ⟨φ', G', ⟨st, w', ec, hfo⟩, sl'⟩
          subst ec
          refine ⟨true, hx c true et, fun _ a ha => ⟨c, fs, rfl, et, φ', G', _, S1, o2, S', w'.toE hfo, sl'.toO, q2, ?_⟩, fun z => by cases z⟩
          cases o2 with
          | nx g2 =>
            cases ho
            exact fun φ2 G2 H2 st2 w2 σ2 s2 => k φ2 G2 H2 (st.trans st2) w2.ofE _ (s2.ofE hh)
          | bk g2 =>
            cases ho
            exact fun φ2 G2 H2 st2 w2 σ2 s2 => k φ2 G2 H2 (st.trans st2) w2.ofE _ (s2.ofE hh)
          | ct g2 =>
            cases ho
            exact fun φ2 G2 H2 st2 w2 σ2 s2 => k φ2 G2 H2 (st.trans st2) w2.ofE _ (s2.ofE hh)
          | rt d2 =>
            cases ho
            exact fun φ2 G2 H2 st2 w2 v hv => k φ2 G2 H2 (st.trans st2) w2.ofE v hv
          | ex g2 c2 fs2 => cases ho
      · cases e
    · rename_i et
      cases e
      refine main _ (T.tk _ k) ⟨φ, G, g, S, _, _, w, sl, q, ?_⟩
      intro cls dd σ' H' hw
      obtain ⟨φ', G', ⟨st, w', ec, hfo⟩, sl'⟩ := id hw
      subst ec
      exact ⟨false, hx c false et, fun z => (by cases z), fun _ => hw⟩
    · cases e
  · rename_i hn
    exact main (fun _ _ _ _ => False) takes0 ⟨φ, G, g, S, o, S', w, sl, e, kos_le k fun g c fs z => by subst z; exact hn g c fs S' e⟩
end

/-! ### in a handler -/
/-- what an own exception class says -/
structure ExF (K : PySem.W.Frag) (C : Addr) : Prop where
  cl : PySem.W.isClsIn K C = true
  ga : PySem.W.findIn K (.ref C) "__getattribute__" = some (some (.builtin "BaseException.__getattribute__"))
  gg : PySem.W.findIn K (.ref C) "__getattr__" = some none
  sb : PySem.W.subIn K (.ref C) (.type "BaseException") = some true
  hd : PySem.W.hasDictIn K C = true
  ca : PySem.W.findIn K (.ref C) "__class__" = some (some (.builtin "object.__class__"))
  sn : PySem.W.specialIn K (.builtin "object.__class__") "__get__" = some (some (.builtin "getset_descriptor.__get__"))
  ht : PySem.W.takesIn K (.builtin "object.__class__") = some true
  hm : PySem.W.mroIn K C (.type "object") = some true
def rIsX (K : PySem.W.Frag) (D a : Addr) (d : Option Addr) : List V → Hp → VK → Prop := fun xs H Q => ∃ (c : V) (cv : Value) (b : Bool), xs = [.ref a, c] ∧ (∀ u, RelV c u → u = cv) ∧ PySem.W.kitOne K (.ref D) cv = some b ∧ (d = none ∨ ∃ dx fv, d = some dx ∧ H dx = some (.xd fv)) ∧ Q (.bl b) H
theorem call_isX {X : Cx} {a D : Addr} {oe : Obj} {d : Option Addr} {pn : List (Addr × Obj)} (C : ExF X.K D) (hz : Zc (.ref D) d oe) (hf : ∃ vs, oe.data = .fields vs) : CallR (X.suite a ((a, oe) :: pn)) (.builtin "isinstance") (rIsX X.K D a d) := by
  intro pins s σ H xs us Q I r h
  obtain ⟨c, cv, b, rfl, hcv, e, hdx, q⟩ := h
  cases r with
  | cons rx rr =>
    cases rr with
    | cons rt rr =>
      cases rr
      cases rx
      have ec := hcv _ rt
      subst ec
      obtain ⟨hget, _⟩ := I.pin (a, oe) (List.mem_append.mpr (.inl List.mem_cons_self))
      obtain ⟨vs, hv⟩ := hf
      have J : ∃ od, PySem.W.InstAt s.heap a oe D od := by
        obtain ⟨oc, oda, odt, osl⟩ := oe
        obtain ⟨h1, h2⟩ := hz
        dsimp only at h1 h2 hv
        subst h1 h2 hv
        rcases hdx with rfl | ⟨dx, fv, rfl, hdx⟩
        · exact ⟨none, hget, rfl, rfl, trivial⟩
        · obtain ⟨mA, hns, _⟩ := (show ObjOk X.prog X.w H s.heap dx (.xd fv) from I.hok dx _ hdx)
          obtain ⟨od, ho, _⟩ := lookIn_ns hns
          exact ⟨some od, hget, rfl, rfl, ho⟩
      obtain ⟨od, J⟩ := J
      exact PySem.W.kia_one (PySem.W.kitx_exc (od := od) C.cl C.ga C.gg C.sb C.ca C.sn C.ht C.hm) I.kIn J e (fun z => nomatch z) fun tk => ⟨.bl b, H, I.kept (t' := tk) fun _ _ z => z, rfl, q⟩
def mIsE (i : Nat) (r : Option Bool) : M D := fun g S => match g[i]? with
  | some none => r.map fun b => (.ok (.bl b), S)
  | _ => none
def mEf (i : Nat) (r : Option D) : M D := fun g S => match g[i]? with
  | some none => r.map fun b => (.ok b, S)
  | _ => none
section
variable {X : Cx} {cl : Cl} {tk : WX → Prop} {a : Addr} {oe : Obj} {d : Option Addr} {pn : List (Addr × Obj)} {fs : List (Str × D)} {i : Nat} {c : Nat}
theorem re_isE {x nm : Str} {p q r pos : Pos} {t : Option Bool} {cv : Value} {v : V} (E : ExF X.K (cl.at_ c)) (hz : Zc (.ref (cl.at_ c)) d oe) (hf : ∃ vs, oe.data = .fields vs)
    (hcls : PE (X.suite a ((a, oe) :: pn)) (.Name nm q) (tC v)) (hcv : ∀ u, RelV v u → u = cv) (ht : ∀ b, t = some b → PySem.W.kitOne X.K (.ref (cl.at_ c)) cv = some b) (hm : X.mg "isinstance" = none)
    (hi : X.N[i]? = some x := by rfl) (hv : Vis X.env.scope x := by first | exact Or.inl rfl | exact Or.inr (Or.inl rfl) | exact Or.inr (Or.inr rfl)) (hg : Gl X "isinstance" := by rfl)
    (hd : (x == ("__debug__" : Str)) = false := by decide) (hcd : (x == ("__classdict__" : Str)) = false := by decide)
    (hs1 : starEach [.Name x r, .Name nm q] X.env = (false, eval (.Name x r) X.env) :: starEach [.Name nm q] X.env := by rfl) (hs2 : starEach [.Name nm q] X.env = (false, eval (.Name nm q) X.env) :: starEach [] X.env := by rfl)
    (hpl : (backTo pos (starEach [.Name nm q] X.env)).any (·.1) = false := by rfl) :
    RE (X.suite a ((a, oe) :: pn)) (clE X.K cl fs d (some (i, a))) (fun _ => False) (.Call (.Name "isinstance" p) [.Name x r, .Name nm q] [] pos) (mIsE i t) := by
  refine pe_imp (pe_callB (call_isX E hz hf) hg hm PyProof.Rows.boot_isinstance (pa_cons (pe_var (i := i) hi hv hd hcd) (pa_cons hcls pa_nil hs2) hs1) (by decide) (by decide) hs1 hpl) fun σ H Q ⟨φ, G, g, S, r, S', w, s, e, k⟩ => ?_
  unfold mIsE at e
  split at e
  · rename_i hgi
    cases ht' : t with
    | none => rw [ht'] at e; cases e
    | some b =>
      rw [ht'] at e
      cases e
      refine ⟨_, s.hd i a rfl hgi, v, cv, b, rfl, hcv, ht b ht', ?_, k.now w _ (by simp only [IsD])⟩
      rcases w.iv.2 with ⟨_, h⟩ | ⟨dx, fv, h1, h2, _⟩
      · exact .inl h
      · exact .inr ⟨dx, fv, h1, w.sub _ _ h2⟩
  · cases e
theorem fsD_get {K : PySem.W.Frag} {φ : List Addr} {G : Hp} {f : Str} {z : D} : ∀ {fs : List (Str × D)} {fv : List (Str × V)}, FsD K φ G fs fv → fs.lookup f = some z → ∃ v, fv.lookup f = some v ∧ IsD K φ G z v
  | [], _, _, e => by cases e
  | (n, d) :: fs, _, ⟨v, r, h1, h2, h3⟩, e => by
    subst h1
    rw [List.lookup_cons] at e ⊢
    split at e
    · rename_i q
      cases e
      exact ⟨v, rfl, h2⟩
    · exact fsD_get h3 e
theorem re_ef {x f : Str} {r pos : Pos} (E : ExF X.K (cl.at_ c)) (hno : PySem.W.findIn X.K (.ref (cl.at_ c)) f = some none) (hz : Zc (.ref (cl.at_ c)) d oe) (hf : ∃ vs, oe.data = .fields vs)
    (hi : X.N[i]? = some x := by rfl) (hv : Vis X.env.scope x := by first | exact Or.inl rfl | exact Or.inr (Or.inl rfl) | exact Or.inr (Or.inr rfl))
    (hd : (x == ("__debug__" : Str)) = false := by decide) (hcd : (x == ("__classdict__" : Str)) = false := by decide) (hb : attributeBase (.Name x r) f X.env (eval (.Name x r) X.env) = eval (.Name x r) X.env := by rfl) :
    RE (X.suite a ((a, oe) :: pn)) (clE X.K cl fs d (some (i, a))) (fun _ => False) (.Attribute (.Name x r) f pos) (mEf i (fs.lookup f)) := by
  refine pe_imp (pe_xf ⟨E.ga, E.gg, E.sb, E.hd⟩ hno hz hf (pe_var (X := X.suite a ((a, oe) :: pn)) (i := i) hi hv hd hcd) hb) fun σ H Q ⟨φ, G, g, S, r, S', w, s, e, k⟩ => ?_
  unfold mEf at e
  split at e
  · rename_i hgi
    cases ht' : fs.lookup f with
    | none => rw [ht'] at e; cases e
    | some z =>
      rw [ht'] at e
      cases e
      refine ⟨_, s.hd i a rfl hgi, rfl, rfl, ?_⟩
      rcases w.iv.2 with ⟨h, _⟩ | ⟨dx, fv, h1, h2, h3⟩
      · subst h; cases ht'
      · obtain ⟨v, e1, e2⟩ := fsD_get h3 ht'
        exact ⟨dx, fv, v, h1, w.sub _ _ h2, e1, k.now w _ (e2.mono (List.nil_prefix) (Ex.refl _))⟩
  · cases e
/-- facts of the class table -/
theorem kit2 {K : PySem.W.Frag} {t : Value} {C : Addr} {b : Bool} (h1 : PySem.W.isClsIn K C = true) (h2 : PySem.W.typeIn K (.ref C) = some (.type "type")) (h3 : PySem.W.subIn K t (.ref C) = some b) : PySem.W.kitCls K t (.ref C) = some b := by
  show (if ((PySem.W.clsIn K C).isSome && PySem.W.typeIn K (.ref C) == some (.type "type")) = true then PySem.W.subIn K t (.ref C) else none) = some b
  rw [if_pos (by rw [show (PySem.W.clsIn K C).isSome = true from h1, h2]; decide +kernel)]
  exact h3
theorem kit1 {K : PySem.W.Frag} {t : Value} {C : Addr} {b : Bool} (h1 : PySem.W.isClsIn K C = true) (h2 : PySem.W.typeIn K (.ref C) = some (.type "type")) (h3 : PySem.W.subIn K t (.ref C) = some b) (h4 : (t == .ref C) = true → b = true) : PySem.W.kitOne K t (.ref C) = some b := by
  unfold PySem.W.kitOne
  split
  · rw [h4 (by assumption)]
  · exact kit2 h1 h2 h3
theorem exm1 {K : PySem.W.Frag} {t : Value} {C : Addr} {b : Bool} (h0 : PySem.W.subIn K (.ref C) (.type "BaseException") = some true) (h1 : PySem.W.isClsIn K C = true) (h2 : PySem.W.typeIn K (.ref C) = some (.type "type")) (h3 : PySem.W.subIn K t (.ref C) = some b) : PySem.W.exmOne K t (.ref C) = some b := by
  unfold PySem.W.exmOne
  rw [if_pos (by rw [h0]; decide +kernel)]
  exact kit2 h1 h2 h3
end
end Mi
namespace Mi
open PySem L2
/-! ### a text times a number; capital letters -/
def repS (a : Str) (n : Nat) : Str := ⟨(List.replicate n a.cps).foldl (· ++ ·) #[]⟩
theorem fold_app : ∀ (l : List (Array Nat)) (acc : Array Nat), (l.foldl (· ++ ·) acc).toList = acc.toList ++ (l.map Array.toList).flatten
  | [], acc => by simp
  | b :: l, acc => by rw [List.foldl_cons, fold_app l, Array.toList_append, List.map_cons, List.flatten_cons, List.append_assoc]
theorem repS_list (a : Str) (n : Nat) : (repS a n).cps.toList = (List.replicate n a.cps.toList).flatten := by
  unfold repS
  rw [fold_app]
  simp
theorem repS_len (a : Str) (n : Nat) : (repS a n).length = n * a.length := by
  show (repS a n).cps.size = _
  rw [← Array.length_toList, repS_list]
  simp [Str.length]
noncomputable def cRep (a : Str) (n : Int) : Bool := cdec (1 < n ∧ n ≤ 1000 ∧ a.length ≠ 0 ∧ a.length ≤ 1000)
noncomputable def fMulS : Store → D → D → Option D := fun _ d e => match d, e with
  | .str a, .int n => if cRep a n = true then some (.str (repS a n.toNat)) else none
  | _, _ => none
def rMulS : R2 := fun x y H Q => ∃ (a : Str) (n : Int), x = .str a ∧ y = .int n ∧ (1 < n ∧ n ≤ 1000 ∧ a.length ≠ 0 ∧ a.length ≤ 1000) ∧ Q (.str (repS a n.toNat)) H
theorem op_mulS {X : Cx} : OpR X (binaryOp .Mult) rMulS := by
  intro pins s σ H x y v u Q I rx ry h
  obtain ⟨a, n, rfl, rfl, ⟨h1, h2, h3, h4⟩, q⟩ := h
  obtain ⟨t, rfl⟩ := rx
  obtain ⟨t', rfl⟩ := ry
  have e1 : ¬ n < 1 := by omega
  have e2 : ¬ ((n == 1 || a.length == 0) = true) := by
    rw [Bool.or_eq_true, beq_iff_eq, beq_iff_eq]; omega
  have hm : a.length * n.toNat ≤ 1000 * 1000 := Nat.mul_le_mul h4 (by omega)
  refine P.mul_str ?_ (fun _ _ => ?_) (fun _ _ => ?_) ?_
  · rw [decide_eq_false (by omega), decide_eq_false (by omega)]; rfl
  · have : (a.length : Int) ≤ (2 ^ 63 - 1) / n := by
      refine (Int.le_ediv_iff_mul_le (by omega)).mpr ?_
      have e : (n.toNat : Int) = n := by omega
      rw [← e]
      have h5 : ((a.length * n.toNat : Nat) : Int) ≤ 1000000 := by omega
      rw [Int.natCast_mul] at h5
      omega
    omega
  · show decide (_ > sizeLine) = false
    rw [sizeLine_eq]
    exact decide_eq_false (by omega)
  · rw [if_neg e1, if_neg e2]
    refine ⟨?_, .str (repS a n.toNat), H, I.tok _, ⟨_, rfl⟩, q⟩
    rw [sizeLine_eq]
    have e := repS_len a n.toNat
    rw [Nat.mul_comm] at e
    show (repS a n.toNat).length ≤ _
    omega
section
variable {X : Cx} {cl : Cl} {tk : WX → Prop} [T : Tk X tk]
theorem fMulS_ok : OpS X.K cl rMulS fMulS := fun φ S G H x y d e z Q w h1 h2 h3 k => by
  unfold fMulS at h3
  split at h3
  · rename_i a n
    split at h3
    · rename_i hc
      cases h3
      simp only [IsD] at h1 h2
      exact ⟨a, n, h1, h2, cdec_iff.mp hc, k _ _ _ (Step.refl _ _ _) w _ (by simp only [IsD])⟩
    · cases h3
  · cases h3
noncomputable def fUpper : Store → D → Option D := fun _ d => match d with
  | .str a => if szOk (3 * a.length) = true then some (.str (Txt.upper a)) else none
  | _ => none
theorem re_upper {o : Expr} {apos pos : Pos} {mo : M D} (ho : RE X cl tk o mo) (hbase : attributeBase o "upper" X.env (eval o X.env) = eval o X.env := by rfl) (hline : (apos.endLine == pos.line) = true := by rfl) :
    RE X cl tk (.Call (.Attribute o "upper" apos) [] [] pos) (mOp1 fUpper mo) := by
  refine pe_imp (pe_upper ho hbase hline) fun σ H Q ⟨φ, G, g, S, r, S', w, s, e, k⟩ => ?_
  refine tM_bind T.ok w s e k fun d φ1 G1 H1 S1 v st1 w1 s1 hv' e1 k1 => ?_
  obtain ⟨z, ez, rfl, rfl⟩ := mL_ok e1
  unfold fUpper at ez
  split at ez
  · rename_i a
    split at ez
    · rename_i hz
      cases ez
      simp only [IsD] at hv'
      have := szOk_le hz
      rw [sizeLine_eq] at this
      exact ⟨⟨a, hv'⟩, a, hv', rfl, by omega, k1.now w1 _ (by simp only [IsD])⟩
    · cases ez
  · cases ez
end
/-! ### class tables -/
theorem kitT {K : PySem.W.Frag} {C : Addr} {T : String} {b : Bool} (h1 : PySem.W.kitMeta T = true) (h3 : PySem.W.subIn K (.ref C) (.type T) = some b) : PySem.W.kitOne K (.ref C) (.type T) = some b := by
  unfold PySem.W.kitOne
  rw [if_neg (fun h => by cases (beq_iff_eq.mp h))]
  show (if PySem.W.kitMeta T = true then PySem.W.subIn K (.ref C) (.type T) else none) = some b
  rw [if_pos h1]; exact h3
theorem subne {K : PySem.W.Frag} {C D : Addr} (h0 : PySem.W.subIn K (.ref D) (.ref D) = some true) (h : PySem.W.subIn K (.ref C) (.ref D) = some false) (e : (Value.ref C == .ref D) = true) : false = true := by
  have := Value.ref.inj (beq_iff_eq.mp e)
  subst this
  rw [h0] at h; cases h
def spA (K : PySem.W.Frag) (m : MF) : Sp := fun vs H Q E => ∀ e, spM K (clT e) m vs H Q E
@[simp] theorem v_mulS {S : Store} {a : Str} {n : Int} : fMulS S (.str a) (.int n) = if cRep a n = true then some (.str (repS a n.toNat)) else none := id rfl
@[simp] theorem v_upper {S : Store} {a : Str} : fUpper S (.str a) = if szOk (3 * a.length) = true then some (.str (Txt.upper a)) else none := id rfl
end Mi
namespace Mi
open PySem L2 PySem.Spec PyProof.Rows
/-! ### a def that knows its class (super) -/
abbrev envS (qual : Str) (scope : Scope) (L f : Addr) (cd : Value) (cc : Addr) : Env := PySem.W.envX qual scope L f cd [("__class__", cc)]
def cxS (CX : CXT) (P : Program) (w : World) (K : PySem.W.Frag) (mg : Str → Option Value) (base : Heap) (N : List Str) (qual : Str) (scope : Scope) (f : Addr) (cd : Value) (cc : Addr) (A : Around) (outer : List Env) (s : Shared) (H : Hp) (E : XK) : Cx where
  prog := P
  w := w
  K := K
  mg := mg
  base := base
  A := A.deeper (envS qual scope s.heap.objs.size f cd cc)
  N := N
  s_0 := s
  H_0 := H
  env := envS qual scope s.heap.objs.size f cd cc
  outer := outer
  stack := envS qual scope s.heap.objs.size f cd cc :: outer
  ex := []
  calm := true
  fn := fun x => !(x == "__class__")
  pn := []
  xe := fun e s' => wpAny (model P w) (A.deeper (envS qual scope s.heap.objs.size f cd cc)) (leaving (envS qual scope s.heap.objs.size f cd cc) e) (fun _ s'' => CX outer H s E e s'') (fun e' s'' => CX outer H s E e' s'') s'
structure SScope (N P : List Str) (sc : Scope) : Prop where
  kind : sc.kind = .function
  co : sc.isCoroutine = false
  gen : sc.isGenerator = false
  nd : N.Nodup
  pre : N.take P.length = P
  par : ∀ x ∈ P, sc.names.lookup x = some .local
  nocell : ∀ y ∈ sc.names, y.2 ≠ .cell
  free : ∀ y ∈ sc.names, y.2 = .free → y.1 = "__class__"
theorem lookup_uniq {y : Str} {u : Value} : ∀ {l : List (Str × Value)}, (l.map (·.1)).Nodup → (y, u) ∈ l → l.lookup y = some u
  | [], _, h => by cases h
  | (n, v) :: r, nd, h => by
    rw [List.map_cons, List.nodup_cons] at nd
    rcases List.mem_cons.mp h with e | h2
    · cases e; simp [List.lookup]
    · have ne : (y == n) = false := by
        rw [beq_eq_false_iff_ne]
        intro e
        subst e
        exact nd.1 (List.mem_map.mpr ⟨(y, u), h2, rfl⟩)
      rw [List.lookup_cons, ne]
      exact lookup_uniq nd.2 h2
theorem zip_uniq {ps : List Str} {us : List Value} (nd : ps.Nodup) (hl : us.length = ps.length) {i : Nat} {y : Str} {u : Value} (h1 : ps[i]? = some y) (h2 : us[i]? = some u) : (ps.zip us).reverse.lookup y = some u := by
  refine lookup_uniq ?_ (List.mem_reverse.mpr ?_)
  · rw [List.map_reverse, List.map_fst_zip (by omega)]
    exact List.pairwise_reverse.mpr (nd.imp Ne.symm)
  · have : (ps.zip us)[i]? = some (y, u) := List.getElem?_zip_eq_some.mpr ⟨h1, h2⟩
    exact List.mem_of_getElem? this
theorem inv_startS {CX : CXT} {P : Program} {w : World} {K : PySem.W.Frag} {mg : Str → Option Value} {base : Heap} {N ps : List Str} {qual : Str} {scope : Scope} {f cc D : Addr} {cd : Value} {A : Around} {outer : List Env} {s : Shared} {H : Hp} {E : XK} {us : List Value} {vs : List V}
    {cl : Value} {cld : Option Addr} {csl : Array (Option Value)} {h1 : Heap} {tk : Nat} (lc : K.lookup cc = some ⟨cl, cld, .cell (some (.ref D)), csl⟩)
    (S : SScope N ps scope) (hd : A.handled = none) (e0 : Env0 P w K mg base A outer s H) (hl : vs.length = ps.length) (r : Vals vs us)
    (hns : h1.Ns s.heap.objs.size (fun x => (ps.zip us).reverse.lookup x)) (hk : ∀ b o, s.heap.get? b = some o → h1.get? b = some o) :
    Inv (cxS CX P w K mg base N qual scope f cd cc A outer s H E) [] (L2.start N vs) H { s with heap := h1, toks := tk } := by
  have hpl : ps.length ≤ N.length := by have := congrArg List.length S.pre; rw [List.length_take] at this; omega
  have noA : ∀ b : Addr, b ∉ (cxS CX P w K mg base N qual scope f cd cc A outer s H E).ex := fun b z => absurd (show b ∈ ([] : List Addr) from z) (by simp)
  have cls : ∀ {y : Str} {c : Addr}, ([(("__class__" : Str), cc)] : List (Str × Addr)).lookup y = some c → y = "__class__" ∧ c = cc := fun {y c} h => by
    rw [List.lookup_cons] at h
    split at h
    · rename_i q; cases h; exact ⟨by simpa using q, rfl⟩
    · cases h
  have bcc : base.get? cc = some ⟨cl, cld, .cell (some (.ref D)), csl⟩ := e0.mod.kin _ _ lc
  refine ⟨⟨e0.mod, S.kind, rfl, rfl, Nat.le_refl _, fun y z c q1 q2 => ?_, fun y hy => ?_, fun y c q1 q2 => ?_, fun _ => hd, Around.frames_deeper e0.frames, .inr ⟨rfl, rfl⟩, fun b z => absurd z (noA b), e0.bs, e0.bsz, fun b _ _ => noA b, fun b z => absurd z (noA b), e0.funs, e0.frf⟩,
    rfl, e0.bare, Un.kept hk, ⟨_, hns, fun i y v q1 q2 q3 => ?_⟩, fun y c q => ?_, e0.hok.fresh (Nat.le_refl _), fun y c q => ?_, fun p hp => absurd (show p ∈ ([] : List (Addr × Obj)) from hp) (by simp), e0.hok.kept hk, ?_⟩
  · rw [(cls q1).1, (cls q2).1]
  · have hy : scope.names.lookup y = some .cell ∨ scope.names.lookup y = some .free := hy
    rcases hy with hy | hy
    · exact absurd rfl (S.nocell _ (PySem.mem_of_lookup hy))
    · have := S.free _ (PySem.mem_of_lookup hy) rfl
      subst this
      exact ⟨cc, by show ([(("__class__" : Str), cc)] : List (Str × Addr)).lookup ("__class__" : Str) = some cc; simp [List.lookup]⟩
  · have e := (cls q2).1
    subst e
    exact absurd q1 (by show ¬ (!(("__class__" : Str) == "__class__")) = true; simp)
  · have hi : i < vs.length := by
      unfold L2.start at q2
      by_cases hi : i < vs.length
      · exact hi
      · rw [List.getElem?_append_right (by simpa using hi)] at q2
        rw [List.getElem?_replicate] at q2
        split at q2 <;> cases q2
    have ha : vs[i]? = some v := by
      unfold L2.start at q2
      rw [List.getElem?_append_left (by simpa using hi), List.getElem?_map] at q2
      cases e : vs[i]? with
      | none => rw [e] at q2; cases q2
      | some a => rw [e] at q2; cases q2; rfl
    obtain ⟨u, hu, rv⟩ := r.get ha
    have hp : ps[i]? = some y := by
      rw [← S.pre, List.getElem?_take_of_lt (by omega)]; exact q1
    have ndP : ps.Nodup := by rw [← S.pre]; exact S.nd.sublist (List.take_sublist _ _)
    exact ⟨u, rv, .inl ⟨S.par y (List.mem_of_getElem? hp), zip_uniq ndP (by rw [← r.length]; exact hl) hp hu⟩⟩
  · obtain ⟨rfl, rfl⟩ := cls q
    exact ⟨_, _, hk _ _ (e0.bs _ _ bcc).1, rfl⟩
  · obtain ⟨rfl, rfl⟩ := cls q
    exact (e0.bs _ _ bcc).2
  · unfold L2.start
    show _ = N.length
    rw [List.length_append, List.length_map, List.length_replicate]
    omega
/-- statements in a def whose code is known -/
structure PSsA (X : Cx) (c : Code) (body : List Stmt) (t : TS) : Prop where
  run : ∀ pins s σ H D, Inv X pins σ H s → t D σ H → _root_.PySem.wpAt (model X.prog X.w) X.A c (execs body X.env) (SP X pins D) X.xe s
structure PSA (X : Cx) (c : Code) (st : Stmt) (t : TS) : Prop where
  run : ∀ pins s σ H D, Inv X pins σ H s → t D σ H → _root_.PySem.wpAt (model X.prog X.w) X.A c (exec st X.env) (SP X pins D) X.xe s
theorem pssA_of {X : Cx} {c : Code} {body : List Stmt} {t : TS} (h : PSs X body t) : PSsA X c body t := ⟨fun pins s σ H D I q => wpAt_of_wpAny (h.run pins s σ H D I q)⟩
theorem psA_of {X : Cx} {c : Code} {st : Stmt} {t : TS} (h : PS X st t) : PSA X c st t := ⟨fun pins s σ H D I q => wpAt_of_wpAny (h.run pins s σ H D I q)⟩
theorem pssA_cons {X : Cx} {c : Code} {st : Stmt} {rest : List Stmt} {t u : TS} (h1 : PSA X c st t) (h2 : PSsA X c rest u) : PSsA X c (st :: rest) (tSeq t u) := by
  refine ⟨fun pins s σ H D I h => ?_⟩
  refine PySem.ks_wpAt_execs_cons (PySem.ks_wpAt_mono (h1.run pins s σ H { D with nx := u D } I h) (fun f s1 q => ?_) fun _ _ z => z)
  cases f with
  | next =>
    obtain ⟨σ', H', I', q⟩ := q
    exact h2.run pins s1 σ' H' D I' q
  | ret v => exact q
  | brk => exact q
  | cont => exact q
theorem fn_ofS {CX : CXT} {P : Program} {w : World} {K : PySem.W.Frag} {mg : Str → Option Value} {base : Heap} {k : Nat} {f cc D : Addr} {name qual : Str} {params : Arguments} {body : List Stmt} {scope : Scope} {dV kV doc pm cdv ct oc : Value} {an od : Option Addr}
    {osl : Array (Option Value)} {N ps : List Str} {sp : Sp} {cl : Value} {cld : Option Addr} {csl : Array (Option Value)} (lk : K.lookup f = some ⟨oc, od, .func (PySem.W.fnX name qual params body scope [("__class__", cc)] dV kV doc pm an cdv ct), osl⟩) (hcd : PySem.W.codeIn K cdv qual = true)
    (lc : K.lookup cc = some ⟨cl, cld, .cell (some (.ref D)), csl⟩) (S : SScope N ps scope)
    (len : ∀ vs H Q E, sp vs H Q E → vs.length = ps.length)
    (hbody : ∀ (A : Around) (outer : List Env) (s : Shared) (H : Hp) (vs : List V) (Q : VK) (E : XK), Room k (A.deeper (envS qual scope s.heap.objs.size f cdv cc)) → sp vs H Q E →
      ∃ t, PSsA (cxS CX P w K mg base N qual scope f cdv cc A outer s H E) (.func body (envS qual scope s.heap.objs.size f cdv cc)) body t ∧ t { nx := fun _ H' => Q .non H', rt := Q } (L2.start N vs) H) :
    FnOk P w K mg base CX (k + 1) f (PySem.W.fnX name qual params body scope [("__class__", cc)] dV kV doc pm an cdv ct) ps sp := by
  refine ⟨len, fun A outer s H args us vs Q E hr e0 hb r hsp => ?_⟩
  have hl := len _ _ _ _ hsp
  have KX : K.In s.heap := e0.mod.kin.keeps fun b o e => (e0.bs b o e).1
  have lim : s.heap.NoLimit := e0.mod.nolimit.keeps fun b o e => (e0.bs b o e).1
  refine PySem.ks_codeAny_call_defAt (body := body) (binds := ps.zip us) hr.depth (KX _ _ lk) rfl lim (PySem.W.codeRec_of KX hcd) rfl hb S.nocell (fun ⟨n, v⟩ hy => S.par n (List.of_mem_zip hy).1) (fun h₁ hns hk₁ => ?_) S.co S.gen S.kind
  obtain ⟨t, ht, hq⟩ := hbody A outer s H vs Q E (hr.deeper _) hsp
  have I : Inv (cxS CX P w K mg base N qual scope f cdv cc A outer s H E) [] (L2.start N vs) H { s with heap := h₁, toks := s.toks + (ps.zip us).length } := inv_startS lc S hr.hd e0 hl r hns hk₁
  refine PySem.ks_wpAt_mono (ht.run [] _ (L2.start N vs) H _ I hq) (fun fl s' hs => ?_) fun e s' hs => hs
  have fin : ∀ {σ' : L2.St} {H' : Hp} {v : V} {u : Value}, Inv (cxS CX P w K mg base N qual scope f cdv cc A outer s H E) [] σ' H' s' → RelV v u → Q v H' → CE outer P w H s Q u s' :=
    fun {σ' H' v u} J rv q => ⟨v, H', J.os, J.bare, J.base, J.hok, rv, q⟩
  cases fl with
  | ret u =>
    obtain ⟨v, σ', H', J, rv, q⟩ := hs
    exact fin J rv q
  | next =>
    obtain ⟨σ', H', J, q⟩ := hs
    exact fin (v := V.non) (u := Value.none) J rfl q
  | brk =>
    obtain ⟨_, _, _, q⟩ := hs
    exact False.elim q
  | cont =>
    obtain ⟨_, _, _, q⟩ := hs
    exact False.elim q
end Mi
namespace Mi
open PySem L2 PySem.Spec PyProof.Rows PySem.Calls
/-- what super() asks of the def that says it: D the class it stands in, x0 its first name -/
structure SupK (X : Cx) (f cc D : Addr) (x0 : Str) : Prop where
  kd : X.env.scope.kind = .function
  gl : X.env.globals = mainGlobals
  bl : X.env.builtins = builtinsNs
  ks : X.env.kindOf ("super" : Str) = some .globalImplicit
  kc : X.env.kindOf ("__class__" : Str) = some .free
  ka : X.env.kindOf x0 = some .local
  fu : X.env.func = some f
  fd : ∃ oc od fdat osl ar, X.K.lookup f = some ⟨oc, od, .func fdat, osl⟩ ∧ (fdat.params.posonlyargs ++ fdat.params.args).head? = some ar ∧ ar.arg = x0
  co : ∃ cda oc od vs sl file tf, X.env.code = .ref cda ∧ X.K.lookup cda = some ⟨oc, od, .fields vs, sl⟩ ∧ vs[2]? = some (.str file tf) ∧ ((X.prog.main.file : Str) == file) = true
  ce : X.env.cells.lookup ("__class__" : Str) = some cc
  cc : ∃ cl cld csl, X.K.lookup cc = some ⟨cl, cld, .cell (some (.ref D)), csl⟩
  cD : PySem.W.isClsIn X.K D = true
  tp : (X.prog.main.scope.names.lookup ("super" : Str)).isSome = false
  n0 : X.N[0]? = some x0
  mg : X.mg "super" = none
section
variable {X : Cx} {f cc D : Addr} {x0 : Str}
theorem cls_at {K : PySem.W.Frag} {h : Heap} (k : K.In h) (c : PySem.W.isClsIn K D = true) : ∃ oD cd, h.get? D = some oD ∧ oD.data = .cls cd ∧ PySem.W.clsIn K D = some cd := by
  obtain ⟨cd, hc⟩ := Option.isSome_iff_exists.mp c
  have hc' := hc
  unfold PySem.W.clsIn at hc'
  split at hc'
  · rename_i c' d' cd' sl' ho
    cases hc'
    exact ⟨_, _, k _ _ ho, rfl, hc⟩
  · cases hc'
theorem sup_base (Z : SupK X f cc D x0) {pins : List (Addr × Obj)} {σ : L2.St} {H : Hp} {s : Shared} {x C : Addr} {ox : Obj} {body : List Stmt} {p0 p1 : Pos} {attr : Str} {whole : Sem Value} {Q : Value → Shared → Prop} {E : Value → Shared → Prop}
    (I : Inv X pins σ H s) (hx : σ[0]? = some (some (.ref x))) (ho : s.heap.get? x = some ox) (hcl : ox.cls = .ref C) (hnc : ∀ c, ox.data ≠ .cls c) (hm : PySem.W.mroIn X.K C (.ref D) = some true) (hat : (attr == ("__class__" : Str)) = false)
    (h : ∀ so h', s.heap.objs.size ≤ so → (∀ b o, s.heap.get? b = some o → h'.get? b = some o) → h'.get? so = some (PySem.W.ks_superObj D x C) → Q (.ref so) { s with heap := h' }) :
    _root_.PySem.wpAt (model X.prog X.w) X.A (.func body X.env) (attributeBase (.Call (.Name "super" p0) [] [] p1) attr X.env whole) Q E s := by
  obtain ⟨oc, od, fdat, osl, ar, lf, hp, rfl⟩ := Z.fd
  obtain ⟨cda, oc2, od2, vs, sl, file, tf, eco, lco, hvs, hfile⟩ := Z.co
  obtain ⟨cl, cld, csl, lcc⟩ := Z.cc
  obtain ⟨oD, cd, hD1, hD2, hD3⟩ := cls_at I.kIn Z.cD
  have KX := I.kIn
  have hg : s.heap.Ns mainGlobals X.mg := I.mod.glob.at fun o q => I.bk _ _ q
  obtain ⟨mb, hb, hbt⟩ := I.mod.blt
  have hb' : s.heap.Ns builtinsNs mb := hb.at fun o q => I.bk _ _ q
  obtain ⟨m, hn, hl⟩ := I.loc
  obtain ⟨u, ru, lk⟩ := hl 0 ar.arg _ Z.n0 hx (.inl Z.ka)
  have eu : u = Value.ref x := ru
  subst eu
  have hv : m ar.arg = some (.ref x) := by
    rcases lk with ⟨_, q⟩ | ⟨q, _⟩
    · exact q
    · rw [Z.ka] at q; rcases q with q | q <;> cases q
  refine ks_wpAt_super_base Z.ks Z.kc hat Z.fu (KX _ _ lf) rfl hp eco (KX _ _ lco) rfl hvs hfile Z.tp ?_
  refine PySem.W.ks_loadName_global Z.kd Z.ks (loadGlobal_builtin (by rw [Z.gl]; exact hg) Z.mg (by rw [Z.bl]; exact hb') ((hbt _ (by decide)).trans (by decide +kernel : bootBuiltins "super" = some (.type "super"))) ⟨rfl, ?_⟩)
  refine wpAny_loadName_free Z.kd Z.kc Z.ce ⟨_, KX _ _ lcc, rfl⟩ ?_
  refine wpAny_loadName_local Z.kd Z.ka hn hv ?_
  refine ks_wpAny_isType_cls hD1 hD2 ⟨rfl, ?_⟩
  obtain ⟨hh, g, d, t, os⟩ := s
  exact ks_wpAny_call_super hD1 hD2 ho hcl hnc (PySem.W.looks_mroIn KX hm) fun h' e k => h _ h' (Nat.le_refl _) k e
/-! ### super().__init__('m') in an own error's __init__ -/
def tSupI (K : PySem.W.Frag) (D : Addr) : TS := fun Dn σ H => ∃ x C : Addr, σ[0]? = some (some (.ref x)) ∧ OexC K C ∧ H x = some (exo x C none) ∧ PySem.W.mroIn K C (.ref D) = some true ∧
  PySem.W.ks_superIn K C D "__init__" = some (some (.builtin "ValueError.__init__")) ∧ PySem.W.subIn K (.ref C) (.type "ValueError") = some true ∧ PySem.W.nsIn K cStatics "thirdparty.any" = some none ∧ Dn.nx σ H
theorem mw_call {pins : List (Addr × Obj)} {σ : L2.St} {H : Hp} {s : Shared} {a C u : Addr} {us : List Value} {Q : Value → Shared → Prop} {E : Value → Shared → Prop} {A : Around} (T : OexC X.K C) (I : Inv X pins σ H s) (e : H a = some (exo a C none)) (hu : s.heap.get? u = some (PySem.W.kxs_mw "ValueError.__init__" a)) (hl : us.length ≤ sizeLine) (h : ∀ s', Inv X pins σ H s' → Q .none s') :
    wpAny (model X.prog X.w) A (call (.ref u) us) Q E s := by
  obtain ⟨nm, q, N, bs, bm, sn, sub, ab, col, dd, k0, k1, k2, k3, k5, hC, hbm⟩ := T.cls
  obtain ⟨t1, ho⟩ := exo_at I.hok e
  have hC' := I.kIn _ _ hC
  obtain ⟨hp, g, d, t, os⟩ := s
  refine wpAny_call (codeAny_of_tree ?_)
  show wpAny _ A.in1 (callAny (.ref u) ⟨us, []⟩) _ _ _
  simp only [callAny]
  refine wpAny_bind (wpAny_load hu ?_)
  simp only [PySem.W.kxs_mw, show (Value.type "method-wrapper" == Value.type "method" || Value.type "method-wrapper" == Value.type "builtin_function_or_method" || Value.type "method-wrapper" == Value.type "method-wrapper") = true by decide, if_true]
  first | refine PySem.W.KFB.if_so (by decide) ?_ | refine _root_.KFB.if_so (by decide) ?_ | refine PySem.P.KFB.if_so (by decide) ?_ | rw [if_pos (by decide)]
  refine wpAny_bind (PySem.W.check_bound_init F.excBase_ValueError.toExcCallFacts hC' ho rfl ?_)
  refine wpAny_bind (wpAny_pure (wpAny_pure ?_))
  refine ⟨plainId_quiet F.excBase_ValueError.init.plain _, codeAny_builtin F.excBase_ValueError.initEntry ?_⟩
  refine PySem.W.exc_init_tree (cls := .ref C) (t0 := t1) (dv := none) (c2 := .none) (c3 := .none) (b4 := .bool false) ho hl fun h' k hx ht => ?_
  have J := I.write (t' := t) (x := a) (e := a) (o := exo a C none) (by rw [e]; exact True.intro) (.inl rfl) k ⟨_, hx⟩ (exo_ok hx)
  have eu : upd H a (exo a C none) = H := by
    funext b
    by_cases hb : b = a
    · rw [hb, upd_same, e]
    · rw [upd_ne hb]
  rw [eu] at J
  exact h _ J
theorem psA_supI (Z : SupK X f cc D x0) {body : List Stmt} {p0 p1 p2 pos pos' pm : Pos} {msg : Str} {j : Nat} {pl : Sem Bool}
    (he : eval (.Call (.Attribute (.Call (.Name "super" p0) [] [] p1) "__init__" p2) [.Constant (.str msg) j pm] [] pos) X.env = (do
      let ov ← attributeBase (.Call (.Name "super" p0) [] [] p1) "__init__" X.env (eval (.Call (.Name "super" p0) [] [] p1) X.env)
      standAt p2.atName
      let (f, first) ← holding [ov] (getMethod ov "__init__" pl)
      callWith pos f first (backTo pos (starEach [.Constant (.str msg) j pm] X.env)) []) := by rfl)
    (hst : starEach [.Constant (.str msg) j pm] X.env = [(false, eval (.Constant (.str msg) j pm) X.env)] := by rfl) (hi : interactive X.env = false := by rfl) (hs : swapsWith (.Call (.Attribute (.Call (.Name "super" p0) [] [] p1) "__init__" p2) [.Constant (.str msg) j pm] [] pos) none pos'.line X.env = pure false := by rfl) :
    PSA X (.func body X.env) (.Expr (.Call (.Attribute (.Call (.Name "super" p0) [] [] p1) "__init__" p2) [.Constant (.str msg) j pm] [] pos) pos') (tSupI X.K D) := by
  refine ⟨fun pins s σ H Dn I ⟨x, C, hx, T, ex, hm, hsi, hsub, hno, q⟩ => ?_⟩
  obtain ⟨t1, ho⟩ := exo_at I.hok ex
  obtain ⟨nm, qn, N, bs, bm, sn, sub, ab, col, dd, k0, k1, k2, k3, k5, hC, hbm⟩ := T.cls
  have hcC : PySem.W.isClsIn X.K C = true := by unfold PySem.W.isClsIn PySem.W.clsIn; rw [hC]; rfl
  refine ks_wpAt_Expr_any (ks_wpAt_MethodCall (sup_base Z I hx ho rfl (fun c z => by cases z) hm (by decide) fun so h' hso k hob => ?_) he) hi hs
  have I1 := I.kept (t' := s.toks) k
  have KX : X.K.In h' := I1.kIn
  obtain ⟨oC, cdC, _, _, hcd⟩ := cls_at KX hcC
  have ho1 := k _ _ ho
  have IA : PySem.W.InstAt h' x ({ cls := .ref C, dict := none, data := .fields #[.ref t1, .none, .none, .none, .bool false, .none] } : Obj) C none := ⟨ho1, rfl, rfl, trivial⟩
  have hI : PySem.W.Looks (model X.prog X.w) h' (isInstance (.ref x) (.type "ValueError")) true := IA.type.andThen (PySem.W.looks_subIn KX hsub)
  unfold PySem.W.ks_superIn at hsi
  rw [hcd] at hsi
  obtain ⟨hh, g, d, t, os⟩ := s
  refine PySem.W.kxs_getMethod PySem.W.kxs_ValueError hob (PySem.W.looks_opaque KX hno) (l₀ := cdC.mro) (fun A Q E s k q => wpAny_bind ((PySem.W.looks_clsIn KX hcd) A _ E s k (wpAny_pure q))) rfl KX hsi hI (PySem.W.ks_ne KX IA hcd) (by decide) ?_
  have k2 : ∀ b o, h'.get? b = some o → (h'.push (PySem.W.kxs_mw "ValueError.__init__" x)).get? b = some o := fun b o e => Heap.get?_push_of_some _ e
  have hu : (h'.push (PySem.W.kxs_mw "ValueError.__init__" x)).get? h'.objs.size = some (PySem.W.kxs_mw "ValueError.__init__" x) := Heap.get?_push_at rfl rfl
  have I2 : Inv X pins σ H ⟨h'.push (PySem.W.kxs_mw "ValueError.__init__" x), g, d, t + 1, os⟩ := I.kept (s := ⟨hh, g, d, t, os⟩) (t' := t + 1) fun b o e => k2 b o (k b o e)
  refine PySem.W.kxs_callWith (i := "ValueError.__init__") (x := x) (by rfl) (evalArgs_plain ?_)
  have ha : PA X [.Constant (.str msg) j pm] (tCons (tC (.str msg)) tNil) := pa_cons pe_str pa_nil
  refine thn (ha.run pos ((h'.objs.size, PySem.W.kxs_mw "ValueError.__init__" x) :: pins) _ σ H (fun vs H1 => vs = [V.str msg] ∧ H = H1) (I2.pins_of fun p hp => ?_) ⟨rfl, rfl⟩) fun us s1 ⟨vs, H1, I3, r1, ev, eH⟩ => ?_
  · rcases List.mem_cons.mp hp with rfl | hp
    · exact ⟨hu, I1.hok.fresh (Nat.le_refl _), fun z => absurd I1.lt (by rw [← z]; exact Nat.lt_irrefl _), I1.nofs (Nat.le_refl _), fun v z => by cases z⟩
    · exact I2.pin p (List.mem_append_right _ hp)
  · subst ev
    subst eH
    obtain ⟨hu3, _⟩ := I3.pin (h'.objs.size, PySem.W.kxs_mw "ValueError.__init__" x) (List.mem_append_right _ List.mem_cons_self)
    have I4 : Inv X pins σ H s1 := I3.pins_of fun p hp => I3.pin p (List.mem_append_right _ (List.mem_cons_of_mem _ hp))
    refine ⟨hu3, mw_call T I4 ex hu3 ?_ fun s' J => ⟨σ, H, J, q⟩⟩
    show us.length ≤ sizeLine
    rw [← Paired.length r1, sizeLine_eq]; simp
end
end Mi
namespace Mi
open PySem L2 PySem.Spec PyProof.Rows PySem.Calls
/-! ### an own error with fields is made and raised -/
/-- what stands of the class x at C and of its __init__ -/
structure IniF (K : PySem.W.Frag) (P : Program) (mg : Str → Option Value) (x qual : Str) (st : Stmt) (C fI : Addr) (fd : FuncData) : Prop where
  T : OexC K C
  g : mg x = some (.ref C)
  iC : PySem.W.findIn K (.ref C) "__init__" = some (some (.ref fI))
  tI : PySem.W.typeIn K (.ref fI) = some (.type "function")
  mro : PySem.W.mroIn K C (.ref C) = some true
  sup : PySem.W.ks_superIn K C C "__init__" = some (some (.builtin "ValueError.__init__"))
  vE : PySem.W.subIn K (.ref C) (.type "ValueError") = some true
  tp : PySem.W.nsIn K cStatics "thirdparty.any" = some none
  cls : PySem.W.isClsIn K C = true
  ms : mg "super" = none
  fn : ∃ oc od osl kV doc pm an cda ct cc cl cld csl oc2 od2 vs sl file tf, fd = PySem.W.fnX "__init__" qual (defArgs st) (defBody st) (defScope st) [("__class__", cc)] .none kV doc pm an (.ref cda) ct ∧
    K.lookup fI = some ⟨oc, od, .func fd, osl⟩ ∧ PySem.W.codeIn K (.ref cda) qual = true ∧ K.lookup cc = some ⟨cl, cld, .cell (some (.ref C)), csl⟩ ∧
    K.lookup cda = some ⟨oc2, od2, .fields vs, sl⟩ ∧ vs[2]? = some (.str file tf) ∧ ((P.main.file : Str) == file) = true
  top : (P.main.scope.names.lookup ("super" : Str)).isSome = false
/-- the first statement: super().__init__('m') -/
abbrev supE (p0 p1 p2 pos pm : Pos) (msg : Str) (j : Nat) : Expr := .Call (.Attribute (.Call (.Name "super" p0) [] [] p1) "__init__" p2) [.Constant (.str msg) j pm] [] pos
/-- what is read off the text of an __init__ -/
structure IniT (st : Stmt) (qual : Str) (ps : List Str) (sf : Str) (p0 p1 p2 pos pos' pm : Pos) (msg : Str) (j : Nat) : Prop where
  S : SScope ps ps (defScope st)
  n0 : ps[0]? = some sf
  ar : ∃ ar, ((defArgs st).posonlyargs ++ (defArgs st).args).head? = some ar ∧ ar.arg = sf
  ks : (defScope st).names.lookup ("super" : Str) = some .globalImplicit
  kc : (defScope st).names.lookup ("__class__" : Str) = some .free
  he : ∀ L fA cd cc, ∃ pl, eval (supE p0 p1 p2 pos pm msg j) (envS qual (defScope st) L fA cd cc) = (do
      let ov ← attributeBase (.Call (.Name "super" p0) [] [] p1) "__init__" (envS qual (defScope st) L fA cd cc) (eval (.Call (.Name "super" p0) [] [] p1) (envS qual (defScope st) L fA cd cc))
      standAt p2.atName
      let (f, first) ← holding [ov] (getMethod ov "__init__" pl)
      callWith pos f first (backTo pos (starEach [.Constant (.str msg) j pm] (envS qual (defScope st) L fA cd cc))) [])
  hst : ∀ L fA cd cc, starEach [.Constant (.str msg) j pm] (envS qual (defScope st) L fA cd cc) = [(false, eval (.Constant (.str msg) j pm) (envS qual (defScope st) L fA cd cc))]
  hi : ∀ L fA cd cc, interactive (envS qual (defScope st) L fA cd cc) = false
  hs : ∀ L fA cd cc, swapsWith (supE p0 p1 p2 pos pm msg j) none pos'.line (envS qual (defScope st) L fA cd cc) = pure false
def sp1 (C : Addr) (f : Str) : Sp := fun vs H Q _ => ∃ (a : Addr) (y : V), vs = [.ref a, y] ∧ H a = some (exo a C none) ∧ ∀ dx, H dx = none → dx ≠ a → Q .non (upd (upd H dx (exd dx [(f, y)])) a (exo a C (some dx)))
def sp2 (C : Addr) (f f' : Str) : Sp := fun vs H Q _ => ∃ (a : Addr) (y y' : V), vs = [.ref a, y, y'] ∧ H a = some (exo a C none) ∧ ∀ dx, H dx = none → dx ≠ a → Q .non (upd (upd (upd H dx (exd dx [(f, y)])) a (exo a C (some dx))) dx (exd dx [(f', y'), (f, y)]))
section
variable {P : Program} {w : World} {K : PySem.W.Frag} {mg : Str → Option Value} {base : Heap} {x qual : Str} {st : Stmt} {C fI : Addr} {fd : FuncData} {k : Nat}
theorem ini1 {f self a : Str} {p0 p1 p2 pos pos' pm q1 q2 q3 q4 : Pos} {msg : Str} {j : Nat} (Z : IniF K P mg x qual st C fI fd) (Y : IniT st qual [self, a] self p0 p1 p2 pos pos' pm msg j) (hno : PySem.W.findIn K (.ref C) f = some none)
    (hb : defBody st = [.Expr (supE p0 p1 p2 pos pm msg j) pos', .Assign [.Attribute (.Name self q1) f q2] (.Name a q3) q4])
    (hs : ∀ L f' cd cc, swapsWith (.Name a q3) (some (.Attribute (.Name self q1) f q2)) q4.line (envS qual (defScope st) L f' cd cc) = pure false)
    (d1 : (self == ("__debug__" : Str)) = false) (d2 : (self == ("__classdict__" : Str)) = false) (d3 : (a == ("__debug__" : Str)) = false) (d4 : (a == ("__classdict__" : Str)) = false) :
    FnOk P w K mg base (L2.CX P w) (k + 1) fI fd [self, a] (sp1 C f) := by
  obtain ⟨oc, od, osl, kV, doc, pmo, an, cda, ct, cc, cl, cld, csl, oc2, od2, vs, sl, file, tf, rfl, lk, hcd, lcc, lcd, hvs, hfile⟩ := Z.fn
  obtain ⟨ar, ha1, ha2⟩ := Y.ar
  refine fn_ofS lk hcd lcc Y.S (fun vs H Q E ⟨a, y, e, _⟩ => by rw [e]; rfl) fun A outer s H vs Q E hr ⟨xa, y, e, ex, q⟩ => ?_
  subst e
  have l0 := Y.S.par self (by simp)
  have l1 := Y.S.par a (by simp)
  obtain ⟨pl, he⟩ := Y.he s.heap.objs.size fI (.ref cda) cc
  have SK : SupK (cxS (L2.CX P w) P w K mg base [self, a] qual (defScope st) fI (.ref cda) cc A outer s H E) fI cc C self :=
    ⟨Y.S.kind, rfl, rfl, Y.ks, Y.kc, l0, rfl, ⟨_, _, _, _, ar, lk, ha1, ha2⟩, ⟨cda, _, _, vs, _, file, tf, rfl, lcd, hvs, hfile⟩, rfl, ⟨_, _, _, lcc⟩, Z.cls, Z.top, rfl, Z.ms⟩
  rw [hb]
  refine ⟨_, pssA_cons (psA_supI SK he (Y.hst _ _ _ _) (Y.hi _ _ _ _) (Y.hs _ _ _ _)) (pssA_of (pss_one (ps_ost (pe_var (i := 0) rfl (.inl l0) d1 d2) (pe_var (i := 1) rfl (.inl l1) d3 d4) (hs _ _ _ _)))), ?_⟩
  refine ⟨xa, C, rfl, Z.T, ex, Z.mro, Z.sup, Z.vE, Z.tp, ?_⟩
  exact ⟨y, rfl, .ref xa, rfl, xa, C, rfl, Z.T, hno, .inl ⟨ex, fun dx hd hne => q dx hd hne⟩⟩
theorem ini2 {f f2 self a a2 : Str} {p0 p1 p2 pos pos' pm q1 q2 q3 q4 q5 q6 q7 q8 : Pos} {msg : Str} {j : Nat} (Z : IniF K P mg x qual st C fI fd) (Y : IniT st qual [self, a, a2] self p0 p1 p2 pos pos' pm msg j) (hno : PySem.W.findIn K (.ref C) f = some none) (hno2 : PySem.W.findIn K (.ref C) f2 = some none)
    (hb : defBody st = [.Expr (supE p0 p1 p2 pos pm msg j) pos', .Assign [.Attribute (.Name self q1) f q2] (.Name a q3) q4, .Assign [.Attribute (.Name self q5) f2 q6] (.Name a2 q7) q8])
    (hs : ∀ L f' cd cc, swapsWith (.Name a q3) (some (.Attribute (.Name self q1) f q2)) q4.line (envS qual (defScope st) L f' cd cc) = pure false)
    (hs2 : ∀ L f' cd cc, swapsWith (.Name a2 q7) (some (.Attribute (.Name self q5) f2 q6)) q8.line (envS qual (defScope st) L f' cd cc) = pure false)
    (d1 : (self == ("__debug__" : Str)) = false) (d2 : (self == ("__classdict__" : Str)) = false) (d3 : (a == ("__debug__" : Str)) = false) (d4 : (a == ("__classdict__" : Str)) = false) (d5 : (a2 == ("__debug__" : Str)) = false) (d6 : (a2 == ("__classdict__" : Str)) = false) :
    FnOk P w K mg base (L2.CX P w) (k + 1) fI fd [self, a, a2] (sp2 C f f2) := by
  obtain ⟨oc, od, osl, kV, doc, pmo, an, cda, ct, cc, cl, cld, csl, oc2, od2, vs, sl, file, tf, rfl, lk, hcd, lcc, lcd, hvs, hfile⟩ := Z.fn
  obtain ⟨ar, ha1, ha2⟩ := Y.ar
  refine fn_ofS lk hcd lcc Y.S (fun vs H Q E ⟨a, y, y', e, _⟩ => by rw [e]; rfl) fun A outer s H vs Q E hr ⟨xa, y, y', e, ex, q⟩ => ?_
  subst e
  have l0 := Y.S.par self (by simp)
  have l1 := Y.S.par a (by simp)
  have l2 := Y.S.par a2 (by simp)
  obtain ⟨pl, he⟩ := Y.he s.heap.objs.size fI (.ref cda) cc
  have SK : SupK (cxS (L2.CX P w) P w K mg base [self, a, a2] qual (defScope st) fI (.ref cda) cc A outer s H E) fI cc C self :=
    ⟨Y.S.kind, rfl, rfl, Y.ks, Y.kc, l0, rfl, ⟨_, _, _, _, ar, lk, ha1, ha2⟩, ⟨cda, _, _, vs, _, file, tf, rfl, lcd, hvs, hfile⟩, rfl, ⟨_, _, _, lcc⟩, Z.cls, Z.top, rfl, Z.ms⟩
  rw [hb]
  refine ⟨_, pssA_cons (psA_supI SK he (Y.hst _ _ _ _) (Y.hi _ _ _ _) (Y.hs _ _ _ _)) (pssA_of (pss_cons (ps_ost (pe_var (i := 0) rfl (.inl l0) d1 d2) (pe_var (i := 1) rfl (.inl l1) d3 d4) (hs _ _ _ _)) (pss_one (ps_ost (pe_var (i := 0) rfl (.inl l0) d1 d2) (pe_var (i := 2) rfl (.inl l2) d5 d6) (hs2 _ _ _ _))))), ?_⟩
  refine ⟨xa, C, rfl, Z.T, ex, Z.mro, Z.sup, Z.vE, Z.tp, ?_⟩
  refine ⟨y, rfl, .ref xa, rfl, xa, C, rfl, Z.T, hno, .inl ⟨ex, fun dx hd hne => ?_⟩⟩
  refine ⟨y', rfl, .ref xa, rfl, xa, C, rfl, Z.T, hno2, .inr ⟨dx, [(f, y)], upd_same, ?_, by simp, q dx hd hne⟩⟩
  rw [upd_ne hne, upd_same]
end
/-- C(ds) raised, the fields fns -/
def mRaiseF (c : Nat) (fns : List Str) (ma : M (List D)) : MS := fun g S => match ma g S with
  | some (.ok ds, S1) => if ds.length = fns.length ∧ refsLts 0 ds = true then some (.ex g c (fns.zip ds).reverse, S1) else none
  | some (.exc c' fs, S1) => some (.ex g c' fs, S1)
  | none => none
section
variable {X : Cx} {cl : Cl} {tk : WX → Prop} [T : Tk X tk]
theorem drop_eq {H1 : Hp} {a dx C : Addr} {fs fs' : List (Str × V)} {u : HO} (n : H1 a = none) (h : H1 dx = none) (hne : dx ≠ a) {H2 : Hp} (e : ∀ b, b ≠ a → b ≠ dx → H2 b = H1 b) : upd (del H2 a) dx u = upd H1 dx u := by
  funext b
  by_cases h1 : b = dx
  · rw [h1, upd_same, upd_same]
  · rw [upd_ne h1, upd_ne h1]
    by_cases h2 : b = a
    · rw [h2, del_same, n]
    · rw [del_ne h2, e b h2 h1]
theorem rs_raiseF1 {x qual f self a : Str} {st : Stmt} {fI : Addr} {fd : FuncData} {k c : Nat} {e : Expr} {p pos pos' : Pos} {ma : M (List D)} (Z : IniF X.K X.prog X.mg x qual st (cl.at_ c) fI fd)
    (F1 : FnOk X.prog X.w X.K X.mg X.base (L2.CX X.prog X.w) k fI fd [self, a] (sp1 (cl.at_ c) f)) (hr : Room (k + 1) X.A) (hb : L2.Binds X.K fd [self, a] []) (ha : RA X cl tk [e] ma) (hc : X.calm = true := by rfl) (hg : Gl X x := by rfl) (hdb : (x == ("__debug__" : Str)) = false := by decide)
    (he : starEach [e] X.env = (false, eval e X.env) :: starEach [] X.env := by rfl) (hpl : (backTo pos (starEach [] X.env)).any (·.1) = false := by rfl) :
    RS X cl tk (.Raise (some (.Call (.Name x p) [e] [] pos)) none pos') (mRaiseF c [f] ma) := by
  refine ⟨fun pins s σ H D I ⟨φ, G, g, S, o, S', w, sl, e1, k1⟩ => ?_⟩
  have mk := pmk_oex (p := p) (pos := pos) (ds := []) (dvs := []) Z.T Z.iC Z.tI F1 hr hb .nil (fun _ _ _ _ _ _ _ z => (cx_never z).elim) hg Z.g ha hdb he hpl
  unfold mRaiseF at e1
  split at e1
  · rename_i ds S1 q
    split at e1
    · rename_i hd
      cases e1
      refine (ps_raise hc (T.tk _ k1) mk).run pins s σ H D I ⟨φ, G, g, S, _, _, w, sl, q, fun φ1 G1 H1 st1 w1 vs hvs => ?_⟩
      match ds, hd with
      | [d], hd =>
        obtain ⟨v, r, rfl, hv, hr'⟩ := hvs.cons_inv
        rw [hr'.nil_inv]
        refine ⟨by simp, fun a0 n0 => ⟨a0, v, rfl, upd_same, fun dx hdx hne => ?_⟩⟩
        rw [upd_ne hne] at hdx
        refine ⟨rfl, dx, _, upd_same, by rw [upd_ne hne, upd_same], hdx, ?_⟩
        rw [drop_eq (C := 0) (fs := []) (fs' := []) n0 hdx hne (fun b h1 h2 => by rw [upd_ne h1, upd_ne h2, upd_ne h1])]
        refine ⟨φ1, upd G1 dx (.xd [(f, v)]), ⟨st1.trans (fresh_step w1 hdx _), fresh_wd w1 hdx _, rfl, .inr ⟨dx, [(f, v)], rfl, upd_same, v, [], rfl, ?_, rfl⟩⟩, sl.step (st1.trans (fresh_step w1 hdx _))⟩
        have r0 : refsLt 0 d = true := by simpa [refsLts] using hd.2
        exact (hv.cut (n := 0) r0).mono (by simp) (Ex.new (w1.gnone hdx))
    · cases e1
  · rename_i c' fs S1 q
    cases e1
    exact (ps_raise (W := fun _ _ _ _ => False) hc takes0 mk).run pins s σ H D I ⟨φ, G, g, S, _, _, w, sl, q, k1⟩
  · cases e1
theorem rs_raiseF2 {x qual f f2 self a a2 : Str} {st : Stmt} {fI : Addr} {fd : FuncData} {k c : Nat} {e e2 : Expr} {p pos pos' : Pos} {ma : M (List D)} (Z : IniF X.K X.prog X.mg x qual st (cl.at_ c) fI fd)
    (F1 : FnOk X.prog X.w X.K X.mg X.base (L2.CX X.prog X.w) k fI fd [self, a, a2] (sp2 (cl.at_ c) f f2)) (hr : Room (k + 1) X.A) (hb : L2.Binds X.K fd [self, a, a2] []) (ha : RA X cl tk [e, e2] ma) (hc : X.calm = true := by rfl) (hg : Gl X x := by rfl) (hdb : (x == ("__debug__" : Str)) = false := by decide)
    (he : starEach [e, e2] X.env = (false, eval e X.env) :: starEach [e2] X.env := by rfl) (hpl : (backTo pos (starEach [e2] X.env)).any (·.1) = false := by rfl) :
    RS X cl tk (.Raise (some (.Call (.Name x p) [e, e2] [] pos)) none pos') (mRaiseF c [f, f2] ma) := by
  refine ⟨fun pins s σ H D I ⟨φ, G, g, S, o, S', w, sl, e1, k1⟩ => ?_⟩
  have mk := pmk_oex (p := p) (pos := pos) (ds := []) (dvs := []) Z.T Z.iC Z.tI F1 hr hb .nil (fun _ _ _ _ _ _ _ z => (cx_never z).elim) hg Z.g ha hdb he hpl
  unfold mRaiseF at e1
  split at e1
  · rename_i ds S1 q
    split at e1
    · rename_i hd
      cases e1
      refine (ps_raise hc (T.tk _ k1) mk).run pins s σ H D I ⟨φ, G, g, S, _, _, w, sl, q, fun φ1 G1 H1 st1 w1 vs hvs => ?_⟩
      match ds, hd with
      | [d, d'], hd =>
        obtain ⟨v, r, rfl, hv, hr'⟩ := hvs.cons_inv
        obtain ⟨v', r', rfl, hv', hr''⟩ := hr'.cons_inv
        rw [hr''.nil_inv]
        refine ⟨by simp, fun a0 n0 => ⟨a0, v, v', rfl, upd_same, fun dx hdx hne => ?_⟩⟩
        rw [upd_ne hne] at hdx
        refine ⟨rfl, dx, _, by rw [upd_ne (Ne.symm hne), upd_same], upd_same, hdx, ?_⟩
        rw [drop_eq (C := 0) (fs := []) (fs' := []) n0 hdx hne (fun b h1 h2 => by rw [upd_ne h2, upd_ne h1, upd_ne h2, upd_ne h1])]
        have rr : refsLt 0 d = true ∧ refsLt 0 d' = true := by simpa [refsLts] using hd.2
        refine ⟨φ1, upd G1 dx (.xd [(f2, v'), (f, v)]), ⟨st1.trans (fresh_step w1 hdx _), fresh_wd w1 hdx _, rfl, .inr ⟨dx, _, rfl, upd_same, v', [(f, v)], rfl, ?_, v, [], rfl, ?_, rfl⟩⟩, sl.step (st1.trans (fresh_step w1 hdx _))⟩
        · exact (hv'.cut (n := 0) rr.2).mono (by simp) (Ex.new (w1.gnone hdx))
        · exact (hv.cut (n := 0) rr.1).mono (by simp) (Ex.new (w1.gnone hdx))
    · cases e1
  · rename_i c' fs S1 q
    cases e1
    exact (ps_raise (W := fun _ _ _ _ => False) hc takes0 mk).run pins s σ H D I ⟨φ, G, g, S, _, _, w, sl, q, k1⟩
  · cases e1
end
end Mi
namespace Mi
open PySem L2
/-! ### instances: fields -/
def fldOf (ok : Nat → Bool) (f : Str) (S : Store) : D → Option D
  | .ref i => match S[i]? with
    | some (.ins c fs) => if ok c = true then fs.lookup f else none
    | _ => none
  | _ => none
def putD (f : Str) (d : D) : List (Str × D) → List (Str × D)
  | [] => [(f, d)]
  | (g, e) :: r => if g = f then (g, d) :: r else (g, e) :: putD f d r
section
variable {K : PySem.W.Frag} {cl : Cl} {φ : List Addr} {G H : Hp} {S : Store}
theorem fsD_put {f : Str} {d : D} {v : V} (hv : IsD K φ G d v) : ∀ {fs : List (Str × D)} {fv : List (Str × V)}, FsD K φ G fs fv → FsD K φ G (putD f d fs) (putF f v fv)
  | [], _, h => by subst h; exact ⟨v, [], rfl, hv, rfl⟩
  | (n, e) :: fs, _, ⟨u, r, h1, h2, h3⟩ => by
    subst h1
    unfold putD putF
    by_cases q : n = f
    · simp only [q, if_true]
      exact ⟨v, r, by simp, hv, h3⟩
    · simp only [q, if_false]
      exact ⟨u, putF f v r, by simp [q], h2, fsD_put hv h3⟩
theorem fsD_len : ∀ {fs : List (Str × D)} {fv : List (Str × V)}, FsD K φ G fs fv → fs.length = fv.length
  | [], _, h => by subst h; rfl
  | (n, e) :: fs, _, ⟨u, r, h1, h2, h3⟩ => by subst h1; simp [fsD_len h3]
theorem fsD_none {f : Str} : ∀ {fs : List (Str × D)} {fv : List (Str × V)}, FsD K φ G fs fv → fs.lookup f = none → fv.lookup f = none
  | [], _, h, _ => by subst h; rfl
  | (n, e) :: fs, _, ⟨u, r, h1, h2, h3⟩, q => by
    subst h1
    rw [List.lookup_cons] at q ⊢
    split at q
    · cases q
    · exact fsD_none h3 q
end
section
variable {X : Cx} {cl : Cl} {tk : WX → Prop} [T : Tk X tk]
theorem re_fld {ok : Nat → Bool} {e : Expr} {f : Str} {pos : Pos} {m : M D} (hc : ∀ c, ok c = true → L2.Cls X.K (cl.at_ c) ∧ NoAttr X.K (cl.at_ c) f) (he : RE X cl tk e m) (hb : attributeBase e f X.env (eval e X.env) = eval e X.env := by rfl) :
    RE X cl tk (.Attribute e f pos) (mOp1 (fun S d => fldOf ok f S d) m) := by
  refine pe_imp (pe_fld he hb) fun σ H Q ⟨φ, G, g, S, r, S', w, s, e, k⟩ => ?_
  refine tM_bind T.ok w s e k fun d φ1 G1 H1 S1 v st1 w1 s1 hv' e1 k1 => ?_
  obtain ⟨z, ez, rfl, rfl⟩ := mL_ok e1
  have ez : fldOf ok f S' d = some z := ez
  unfold fldOf at ez
  split at ez
  · rename_i i
    split at ez
    · rename_i c fs hS
      split at ez
      · rename_i hok
        simp only [IsD] at hv'
        obtain ⟨a, rfl, ha⟩ := hv'
        obtain ⟨dx, fv, h1, h2⟩ := w1.ok _ _ _ hS ha
        obtain ⟨v, e1, e2⟩ := fsD_get h2 ez
        obtain ⟨q1, q2⟩ := hc c hok
        exact ⟨a, _, dx, fv, v, rfl, h1, q1, q2, e1, k1.now w1 v e2⟩
      · cases ez
    · cases ez
  · cases ez
def mSetF (ok : Nat → Bool) (f : Str) (mo mv : M D) : MS := fun g S => match mv g S with
  | some (.ok d, S1) => match mo g S1 with
    | some (.ok (.ref i), S2) => match S2[i]? with
      | some (.ins c fs) => if ok c = true ∧ fs.length < 1000 then some (.nx g, S2.set i (.ins c (putD f d fs))) else none
      | _ => none
    | some (.exc c fs, S2) => some (.ex g c fs, S2)
    | _ => none
  | some (.exc c fs, S1) => some (.ex g c fs, S1)
  | none => none
theorem rs_fld {ok : Nat → Bool} {o value : Expr} {f : Str} {pos pos' : Pos} {mo mv : M D} (hc : ∀ c, ok c = true → L2.Cls X.K (cl.at_ c) ∧ NoAttr X.K (cl.at_ c) f) (ho : RE X cl tk o mo) (hv : RE X cl tk value mv)
    (hs : swapsWith value (some (.Attribute o f pos')) pos.line X.env = pure false := by rfl) : RS X cl tk (.Assign [.Attribute o f pos'] value pos) (mSetF ok f mo mv) := by
  refine ps_imp (ps_fld ho hv hs) fun Dn σ H ⟨φ, G, g, S, out, S', w, s, e, k⟩ => ?_
  unfold mSetF at e
  split at e
  · rename_i d S1 q1
    refine ⟨φ, G, g, S, _, _, w, s, q1, fun φ1 G1 H1 st1 w1 y hy => ?_⟩
    have s1 := s.step st1
    have k1 := k.step T.ok st1
    split at e
    · rename_i i S2 q2
      refine ⟨φ1, G1, g, S1, _, _, w1, s1, q2, fun φ2 G2 H2 st2 w2 x hx => ?_⟩
      have k2 := k1.step T.ok st2
      split at e
      · rename_i c fs hS
        split at e
        · rename_i hok
          cases e
          simp only [IsD] at hx
          obtain ⟨a, rfl, ha⟩ := hx
          obtain ⟨dx, fv, h1, h2⟩ := w2.ok _ _ _ hS ha
          obtain ⟨z1, z2⟩ := hc c hok.1
          refine ⟨a, _, dx, fv, rfl, h1, z1, z2, by rw [← fsD_len h2]; exact hok.2, ?_⟩
          have st3 := write_step w2 ha (.ins (cl.at_ c) dx (putF f y fv))
          exact k2 _ _ _ st3 (write_wd w2 hS rfl ha ⟨dx, _, upd_same, fsD_put (hy.mono st2.pre st2.ex) h2⟩) _ (s1.step (st2.trans st3))
        · cases e
      · cases e
    · rename_i c fs S2 q2
      cases e
      exact ⟨φ1, G1, g, S1, _, _, w1, s1, q2, k1⟩
    · cases e
  · rename_i c fs S1 q1
    cases e
    exact ⟨φ, G, g, S, _, _, w, s, q1, k⟩
  · cases e
end
end Mi
namespace Mi
open PySem L2
/-! ### methods -/
/-- where class c's method m stands and what it promises -/
def MethOk (X : Cx) (cl : Cl) (k : Nat) (m : Str) (c : Nat) (mf : MF) : Prop := ∃ f fd ps, L2.Cls X.K (cl.at_ c) ∧ L2.Meth X.K (cl.at_ c) m f ∧ L2.Binds X.K fd ps [] ∧ FnOk X.prog X.w X.K X.mg X.base (L2.CX X.prog X.w) k f fd ps (spM X.K cl mf)
def mMeth (tab : Nat → Option MF) (m : Str) (mo : M D) (ma : M (List D)) : M D := fun g S => match mo g S with
  | some (.ok (.ref i), S1) => match S1[i]? with
    | some (.ins c fs) => if fs.lookup m = none then match tab c with
      | some mf => match ma g S1 with
        | some (.ok ds, S2) => mf (.ref i :: ds) S2
        | some (.exc c fs, S2) => some (.exc c fs, S2)
        | none => none
      | none => none else none
    | _ => none
  | some (.exc c fs, S1) => some (.exc c fs, S1)
  | _ => none
section
variable {X : Cx} {cl : Cl} {tk : WX → Prop} [T : Tk X tk]
theorem mMeth_ok {tab : Nat → Option MF} {m : Str} {mo : M D} {ma : M (List D)} {g : Gm} {S S' : Store} {r : R D} (e : mMeth tab m mo ma g S = some (r, S')) :
    (∃ i S1 c fs mf, mo g S = some (.ok (.ref i), S1) ∧ S1[i]? = some (.ins c fs) ∧ fs.lookup m = none ∧ tab c = some mf ∧ ((∃ ds S2, ma g S1 = some (.ok ds, S2) ∧ mf (.ref i :: ds) S2 = some (r, S')) ∨ ∃ c' fs', ma g S1 = some (.exc c' fs', S') ∧ r = .exc c' fs')) ∨
      ∃ c fs, mo g S = some (.exc c fs, S') ∧ r = .exc c fs := by
  unfold mMeth at e
  split at e
  · rename_i i S1 q1
    split at e
    · rename_i c fs q2
      split at e
      · rename_i q3
        split at e
        · rename_i mf q4
          refine .inl ⟨i, S1, c, fs, mf, q1, q2, q3, q4, ?_⟩
          split at e
          · rename_i ds S2 q5; exact .inl ⟨ds, S2, q5, e⟩
          · rename_i c' fs' S2 q5; cases e; exact .inr ⟨c', fs', q5, rfl⟩
          · cases e
        · cases e
      · cases e
    · cases e
  · rename_i c fs S1 q1; cases e; exact .inr ⟨c, fs, q1, rfl⟩
  · cases e
theorem re_meth {k : Nat} {tab : Nat → Option MF} {o e : Expr} {es : List Expr} {m : Str} {apos pos : Pos} {pl : Sem Bool} {mo : M D} {ma : M (List D)} (ht0 : ∀ c mf, tab c = some mf → MethOk X cl k m c mf) (hr : Room k X.A) (ho : RE X cl tk o mo) (ha : RA X cl tk (e :: es) ma)
    (hst : starEach (e :: es) X.env = (false, eval e X.env) :: starEach es X.env := by rfl) (hpl : (backTo pos (starEach es X.env)).any (·.1) = false := by rfl)
    (ht : eval (.Call (.Attribute o m apos) (e :: es) [] pos) X.env = (do
      let ov ← eval o X.env
      standAt apos.atName
      let (f, first) ← holding [ov] (getMethod ov m pl)
      callWith pos f first (backTo pos (starEach (e :: es) X.env)) (backToKw pos (keywordEach [] X.env))) := by rfl) :
    RE X cl tk (.Call (.Attribute o m apos) (e :: es) [] pos) (mMeth tab m mo ma) := by
  refine ⟨fun pins s σ H Q I ⟨φ, G, g, S, r, S', w, sl, e1, kq⟩ => ?_⟩
  rcases mMeth_ok e1 with ⟨i, S1, c, fs, mf, q1, q2, q3, q4, q5⟩ | ⟨c, fs, q1, rfl⟩
  · obtain ⟨f, fd, ps, hc, hm, hb, F⟩ := ht0 c mf q4
    refine PySem.W.methodCall_KW (pl := pl) (thn (ho.run pins s σ H (fun x H1 => ∃ φ1 G1 a, x = .ref a ∧ φ1[i]? = some a ∧ Step φ G H φ1 G1 H1 ∧ Wd X.K cl φ1 S1 G1 H1) I ⟨φ, G, g, S, _, _, w, sl, q1, fun φ1 G1 H1 st w1 v hv => ?_⟩) fun u s1 ⟨x, H1, I1, rx, φ1, G1, a, ex, ea, st, w1⟩ => ?_) ht
    · simp only [IsD] at hv
      obtain ⟨a, rfl, ha⟩ := hv
      exact ⟨φ1, G1, a, rfl, ha, st, w1⟩
    · subst ex
      have eu : u = Value.ref a := rx
      subst eu
      obtain ⟨dx, fv, h1, h2⟩ := w1.ok _ _ _ q2 ea
      refine getmeth_ok I1 h1 hc hm (fsD_none h2 q3) ?_
      refine PySem.W.callWith_K (first := [.ref a]) (h₀ := X.base) I.ok.mod.kin hm.kp (thn (ha.run pos pins s1 σ H1 (fun vs H2 => ∃ φ2 G2 ds S2, Step φ1 G1 H1 φ2 G2 H2 ∧ Wd X.K cl φ2 S2 G2 H2 ∧ IsDs X.K φ2 G2 ds vs ∧ mf (.ref i :: ds) S2 = some (r, S')) I1 ?_) fun us s2 ⟨vs, H2, I2, r2, φ2, G2, ds, S2, st2, w2, hds, e2⟩ => ⟨I2.kIn, ?_⟩) hst hpl
      · rcases q5 with ⟨ds, S2, q5, q6⟩ | ⟨c', fs', q5, rfl⟩
        · exact ⟨φ1, G1, g, S1, _, _, w1, sl.step st, q5, fun φ2 G2 H2 st2 w2 vs hvs => ⟨φ2, G2, ds, S2, st2, w2, hvs, q6⟩⟩
        · exact ⟨φ1, G1, g, S1, _, _, w1, sl.step st, q5, kq.step T.ok st⟩
      · have hd : IsDs X.K φ2 G2 (.ref i :: ds) (.ref a :: vs) := .cons (by simp only [IsD]; exact ⟨a, rfl, pre_get st2.pre ea⟩) hds
        exact run_fnM (us := .ref a :: us) (vs := .ref a :: vs) (dds := []) F hr hb .nil .nil I2 (.cons rfl r2) (sl.step (st.trans st2)) w2 hd (by rw [List.append_nil]; exact e2) (kq.step T.ok (st.trans st2))
  · refine PySem.W.methodCall_KW (pl := pl) (thn (ho.run pins s σ H (fun _ _ => False) I ⟨φ, G, g, S, _, _, w, sl, q1, kq⟩) fun u s1 ⟨x, H1, I1, rx, z⟩ => z.elim) ht
theorem re_meth0 {k : Nat} {tab : Nat → Option MF} {o : Expr} {m : Str} {apos pos : Pos} {pl : Sem Bool} {mo : M D} (ht0 : ∀ c mf, tab c = some mf → MethOk X cl k m c mf) (hr : Room k X.A) (ho : RE X cl tk o mo)
    (ht : eval (.Call (.Attribute o m apos) [] [] pos) X.env = (do
      let ov ← eval o X.env
      standAt apos.atName
      let (f, first) ← holding [ov] (getMethod ov m pl)
      callWith pos f first (backTo pos (starEach [] X.env)) (backToKw pos (keywordEach [] X.env))) := by rfl) :
    RE X cl tk (.Call (.Attribute o m apos) [] [] pos) (mMeth tab m mo mNil) := by
  refine ⟨fun pins s σ H Q I ⟨φ, G, g, S, r, S', w, sl, e1, kq⟩ => ?_⟩
  rcases mMeth_ok e1 with ⟨i, S1, c, fs, mf, q1, q2, q3, q4, q5⟩ | ⟨c, fs, q1, rfl⟩
  · obtain ⟨f, fd, ps, hc, hm, hb, F⟩ := ht0 c mf q4
    refine PySem.W.methodCall_KW (pl := pl) (thn (ho.run pins s σ H (fun x H1 => ∃ φ1 G1 a, x = .ref a ∧ φ1[i]? = some a ∧ Step φ G H φ1 G1 H1 ∧ Wd X.K cl φ1 S1 G1 H1) I ⟨φ, G, g, S, _, _, w, sl, q1, fun φ1 G1 H1 st w1 v hv => ?_⟩) fun u s1 ⟨x, H1, I1, rx, φ1, G1, a, ex, ea, st, w1⟩ => ?_) ht
    · simp only [IsD] at hv
      obtain ⟨a, rfl, ha⟩ := hv
      exact ⟨φ1, G1, a, rfl, ha, st, w1⟩
    · subst ex
      have eu : u = Value.ref a := rx
      subst eu
      obtain ⟨dx, fv, h1, h2⟩ := w1.ok _ _ _ q2 ea
      refine getmeth_ok I1 h1 hc hm (fsD_none h2 q3) ?_
      have q6 : mf [.ref i] S1 = some (r, S') := by
        rcases q5 with ⟨ds, S2, q5, q6⟩ | ⟨c', fs', q5, _⟩
        · cases (show some (Mi.R.ok ([] : List D), S1) = some (.ok ds, S2) from q5); exact q6
        · cases (show some (Mi.R.ok ([] : List D), S1) = some (.exc c' fs', S') from q5)
      have hd : IsDs X.K φ1 G1 [.ref i] [.ref a] := .cons (by simp only [IsD]; exact ⟨a, rfl, ea⟩) .nil
      exact PySem.W.callWith_K0 (first := [.ref a]) I1.kIn hm.kp (run_fnM (us := [.ref a]) (vs := [.ref a]) (dds := []) F hr hb .nil .nil I1 (.cons rfl .nil) (sl.step st) w1 hd (by rw [List.append_nil]; exact q6) (kq.step T.ok st))
  · refine PySem.W.methodCall_KW (pl := pl) (thn (ho.run pins s σ H (fun _ _ => False) I ⟨φ, G, g, S, _, _, w, sl, q1, kq⟩) fun u s1 ⟨x, H1, I1, rx, z⟩ => z.elim) ht
end
end Mi
namespace Mi
open PySem L2
/-! ### an instance is made -/
/-- class c, made by its __init__ mf: a new cell -/
def mMake (c : Nat) (mf : MF) (ma : M (List D)) : M D := mB ma fun ds => fun _ S => match mf (.ref S.length :: ds) (S ++ [.ins c []]) with
  | some (.ok .non, S') => some (.ok (.ref S.length), S')
  | some (.exc c' fs, S') => some (.exc c' fs, S')
  | _ => none
section
variable {K : PySem.W.Frag} {cl : Cl}
/-- the world with a new instance: its dict is stable -/
theorem made_step {φ : List Addr} {S : Store} {G H : Hp} (w : Wd K cl φ S G H) {x dx : Addr} (hx : H x = none) (hd : H dx = none) (ne : dx ≠ x) (o : HO) :
    Step φ G H (φ ++ [x]) (upd G dx (.own x)) (upd (upd H dx (.own x)) x o) :=
  (fresh_step w hd (.own x)).trans (cell_step (fresh_wd w hd (.own x)) (p := x) (by rw [upd_ne (Ne.symm ne)]; exact hx) o)
theorem made_wd {φ : List Addr} {S : Store} {G H : Hp} (w : Wd K cl φ S G H) {x dx : Addr} (hx : H x = none) (hd : H dx = none) (ne : dx ≠ x) (c : Nat) :
    Wd K cl (φ ++ [x]) (S ++ [.ins c []]) (upd G dx (.own x)) (upd (upd H dx (.own x)) x (.ins (cl.at_ c) dx [])) :=
  cell_wd (fresh_wd w hd (.own x)) (p := x) (by rw [upd_ne (Ne.symm ne)]; exact hx) fun φ' G' H' _ _ h => ⟨dx, [], h, rfl⟩
end
section
variable {X : Cx} {cl : Cl} {tk : WX → Prop} [T : Tk X tk]
theorem run_mk {k : Nat} {f : Addr} {fd : FuncData} {ps : List Str} {mf : MF} {c : Nat} {ds : List D} {us : List Value} {vs : List V} {pins : List (Addr × Obj)} {σ : L2.St} {φ : List Addr} {S S' : Store} {G H : Hp} {s : Shared} {r : R D} {Q : VK} {g : Gm}
    (M : L2.Mk X.K (cl.at_ c) f) (F : FnOk X.prog X.w X.K X.mg X.base (L2.CX X.prog X.w) k f fd ps (spM X.K cl mf)) (hr : Room (k + 1) X.A) (hb : L2.Binds X.K fd ps [])
    (I : Inv X pins σ H s) (rv : Vals vs us) (sl : Sl X.K cl φ G g σ) (w : Wd X.K cl φ S G H) (h : IsDs X.K φ G ds vs)
    (e : (match mf (.ref S.length :: ds) (S ++ [.ins c []]) with
      | some (.ok .non, S') => some (R.ok (D.ref S.length), S')
      | some (.exc c' fs, S') => some (.exc c' fs, S')
      | _ => none) = some (r, S'))
    (kq : Ko X.K cl tk φ G H g r S' fun φ' G' H' d => ∀ v, IsD X.K φ' G' d v → Q v H') :
    wpAny (model X.prog X.w) X.A (call (.ref (cl.at_ c)) us) (EP X pins σ Q) X.xe s := by
  have nx : H (s.heap.objs.size + 1) = none := I.hok.fresh (Nat.le_succ _)
  have nd : H s.heap.objs.size = none := I.hok.fresh (Nat.le_refl _)
  have ne : s.heap.objs.size ≠ s.heap.objs.size + 1 := Nat.ne_of_lt (Nat.lt_succ_self _)
  have st := made_step w nx nd ne (.ins (cl.at_ c) s.heap.objs.size [])
  have w1 := made_wd w nx nd ne c
  have I2 := Inv.made (C := cl.at_ c) I
  have r2 : Vals (V.ref (s.heap.objs.size + 1) :: vs) (Value.ref (s.heap.objs.size + 1) :: us) := .cons rfl rv
  have hnew : (φ ++ [s.heap.objs.size + 1])[S.length]? = some (s.heap.objs.size + 1) := by
    rw [← w.len, List.getElem?_append_right (Nat.le_refl _)]; simp
  have hds : IsDs X.K (φ ++ [s.heap.objs.size + 1]) (upd G s.heap.objs.size (.own (s.heap.objs.size + 1))) (.ref S.length :: ds) (V.ref (s.heap.objs.size + 1) :: vs) :=
    .cons (by simp only [IsD]; exact ⟨_, rfl, hnew⟩) (h.mono st.pre st.ex)
  let E : XK := fun cls d H' => ∃ c' fs φ' G', r = .exc c' fs ∧ wE X.K cl φ G H S' c' fs cls d φ' G' H'
  have sp : spM X.K cl mf (V.ref (s.heap.objs.size + 1) :: vs) (upd (upd H s.heap.objs.size (.own (s.heap.objs.size + 1))) (s.heap.objs.size + 1) (.ins (cl.at_ c) s.heap.objs.size [])) (fun v H2 => v = .non ∧ Q (.ref (s.heap.objs.size + 1)) H2) E := by
    split at e
    · rename_i S1 q
      cases e
      refine ⟨_, _, _, _, _, _, w1, hds, q, fun φ' G' H' st' w' v hv => ?_⟩
      simp only [IsD] at hv
      refine ⟨hv, kq φ' G' H' (st.trans st') w' _ ?_⟩
      simp only [IsD]
      exact ⟨_, rfl, pre_get st'.pre hnew⟩
    · rename_i c' fs S1 q
      cases e
      exact ⟨_, _, _, _, _, _, w1, hds, q, fun cls dd φ' G' H' z => ⟨c', fs, φ', G', rfl, st.trans z.1, z.2⟩⟩
    · cases e
  have hl : (Value.ref (s.heap.objs.size + 1) :: us ++ []).length = ps.length := by
    rw [List.append_nil, ← r2.length]; exact F.len _ _ _ _ sp
  have hbd := hb _ (Value.ref (s.heap.objs.size + 1) :: us) I2.kIn hl
  rw [List.append_nil] at hbd
  refine wpAny_call (make_map (f := f) I.kIn M.makes M.init (beq_iff_eq.mp M.fn) (codeAny_mono (F.run _ X.stack _ _ ⟨Value.ref (s.heap.objs.size + 1) :: us, []⟩ (Value.ref (s.heap.objs.size + 1) :: us) _ _ E (hr.make (cl.at_ c) us [])
    (I2.env0.make (cl.at_ c) us []) hbd r2 sp) fun rr s' hq' => ?_))
  cases rr with
  | error er =>
    cases r with
    | ok d =>
      obtain ⟨_, _, _, _, _, _, _, _, _, _, _, _, _, _, _, _, z, _⟩ := (show L2.CX X.prog X.w X.stack _ _ E er s' from hq')
      cases z
    | exc c' fs =>
      refine T.tk _ kq er s' (XE.of_call (E := E) I2 (fun cls d H' ⟨c2, fs2, φ', G', z, q⟩ => ?_) hq')
      cases z
      exact ⟨φ', G', q, sl.step q.1⟩
  | ok fl =>
    cases fl with
    | ret u =>
      obtain ⟨v, H', I3, rv3, ev, q3⟩ := I2.after hq'
      subst ev
      exact ⟨rv3, ⟨V.ref (s.heap.objs.size + 1), H', I3, rfl, q3⟩⟩
    | next => exact False.elim hq'
    | brk => exact False.elim hq'
    | cont => exact False.elim hq'
theorem re_make {k : Nat} {f : Addr} {fd : FuncData} {ps : List Str} {mf : MF} {c : Nat} {x : Str} {p pos : Pos} {e : Expr} {es : List Expr} {ma : M (List D)} (M : L2.Mk X.K (cl.at_ c) f) (hm : X.mg x = some (.ref (cl.at_ c)))
    (F : FnOk X.prog X.w X.K X.mg X.base (L2.CX X.prog X.w) k f fd ps (spM X.K cl mf)) (hr : Room (k + 1) X.A) (hb : L2.Binds X.K fd ps []) (ha : RA X cl tk (e :: es) ma) (hg : Gl X x := by rfl) (hdb : (x == ("__debug__" : Str)) = false := by decide)
    (he : starEach (e :: es) X.env = (false, eval e X.env) :: starEach es X.env := by rfl) (hpl : (backTo pos (starEach es X.env)).any (·.1) = false := by rfl) : RE X cl tk (.Call (.Name x p) (e :: es) [] pos) (mMake c mf ma) := by
  refine ⟨fun pins s σ H Q I ⟨φ, G, g, S, r, S', w, sl, e1, kq⟩ => ?_⟩
  refine wpAny_Call_Name_kw (ld_glob I hg hm ?_ hdb)
  refine PySem.W.callWith_K (h₀ := X.base) I.ok.mod.kin M.kp (thn (ha.run pos pins s σ H (fun vs H1 => ∃ φ1 G1 S1 ds, Sl X.K cl φ1 G1 g σ ∧ Wd X.K cl φ1 S1 G1 H1 ∧ IsDs X.K φ1 G1 ds vs ∧
    (match mf (.ref S1.length :: ds) (S1 ++ [.ins c []]) with
      | some (.ok .non, S') => some (R.ok (D.ref S1.length), S')
      | some (.exc c' fs, S') => some (.exc c' fs, S')
      | _ => none) = some (r, S') ∧ Ko X.K cl tk φ1 G1 H1 g r S' fun φ' G' H' d => ∀ v, IsD X.K φ' G' d v → Q v H') I ?_) fun us s1 ⟨vs, H1, I1, rv, φ1, G1, S1, ds, sl1, w1, hds, e2, k2⟩ => ⟨I1.kIn, ?_⟩) he hpl
  · exact tMA_bind T.ok w sl e1 kq fun d φ1 G1 H1 S1 v st1 w1 s1 hx e2 k2 => ⟨φ1, G1, S1, d, s1, w1, hx, e2, k2⟩
  · exact run_mk M F hr hb I1 rv sl1 w1 hds e2 k2
end
end Mi
namespace Mi
open PySem L2
/-! ### own dunders -/
section
variable {X : Cx} {cl : Cl} {tk : WX → Prop} [T : Tk X tk]
/-- a call of a def at a place A' of the same frames -/
theorem run_fnA {A' : Around} (hA : A'.frames = X.A.frames) {k : Nat} {f : Addr} {fd : FuncData} {ps : List Str} {mf : MF} {ds : List D} {us : List Value} {vs : List V} {pins : List (Addr × Obj)} {σ : L2.St} {φ : List Addr} {S S' : Store} {G H : Hp} {s : Shared} {r : R D} {Q : VK}
    (F : FnOk X.prog X.w X.K X.mg X.base (L2.CX X.prog X.w) k f fd ps (spM X.K cl mf)) (hr : Room k A') (hb : L2.Binds X.K fd ps [])
    (I : Inv X pins σ H s) (rv : Vals vs us) {g : Gm} (sl : Sl X.K cl φ G g σ) (w : Wd X.K cl φ S G H) (h : IsDs X.K φ G ds vs) (e : mf ds S = some (r, S')) (kq : Ko X.K cl tk φ G H g r S' fun φ' G' H' d => ∀ v, IsD X.K φ' G' d v → Q v H') :
    wpAny (model X.prog X.w) A' (call (.ref f) us) (EP X pins σ Q) X.xe s := by
  let E : XK := EofR X.K cl φ G H S' r
  have sp : spM X.K cl mf vs H Q E := by
    refine ⟨φ, G, S, ds, r, S', w, h, e, ?_⟩
    cases r with
    | ok d => exact kq
    | exc c fs => exact fun cls dd φ' G' H' q => ⟨φ', G', q⟩
  have hl : us.length = ps.length := by rw [← rv.length]; exact F.len _ _ _ _ sp
  have hbd := hb s us I.kIn (by rw [List.append_nil]; exact hl)
  rw [List.append_nil] at hbd
  have e0 := I.env0
  refine wpAny_call (codeAny_mono (F.run A' X.stack s H ⟨us, []⟩ us vs Q E hr ⟨hA.trans e0.frames, e0.mod, e0.bs, e0.bsz, e0.funs, e0.frf, e0.hok, e0.bare⟩ hbd rv sp) fun r' s' hq => ?_)
  cases r' with
  | error e' =>
    cases r with
    | ok d =>
      obtain ⟨_, _, _, _, _, _, _, _, _, _, _, _, z⟩ := (show L2.CX X.prog X.w X.stack H s E e' s' from hq)
      exact z.elim
    | exc c fs => exact T.tk _ kq e' s' (XE.of_call (E := EofR X.K cl φ G H S' (.exc c fs)) I (fun cls d H' ⟨φ', G', q⟩ => ⟨φ', G', q, sl.step q.1⟩) hq)
  | ok fl =>
    cases fl with
    | ret u => exact I.after hq
    | next => exact False.elim hq
    | brk => exact False.elim hq
    | cont => exact False.elim hq
/-- o[k]: an own __getitem__, or what o[k] was -/
noncomputable def mIxA (tab : Nat → Option MF) (mo mk : M D) : M D := fun g S => match mo g S with
  | some (.ok (.ref i), S1) => match S1[i]? with
    | some (.ins _ _) => match mk g S1 with
        | some (.ok d, S2) => match S2[i]? with
          | some (.ins c _) => match tab c with
            | some mf => mf [.ref i, d] S2
            | none => none
          | _ => none
        | some (.exc c fs, S2) => some (.exc c fs, S2)
        | none => none
    | _ => mOp2 fIx mo mk g S
  | _ => mOp2 fIx mo mk g S
/-- class c has the dunder m at f -/
def DunOk (X : Cx) (cl : Cl) (k : Nat) (m : Str) (c : Nat) (mf : MF) : Prop := ∃ f fd ps, PySem.W.findIn X.K (.ref (cl.at_ c)) m = some (some (.ref f)) ∧ PySem.W.isFn X.K (.ref f) = true ∧ PySem.W.fnIn X.K f = true ∧ L2.Binds X.K fd ps [] ∧ FnOk X.prog X.w X.K X.mg X.base (L2.CX X.prog X.w) k f fd ps (spM X.K cl mf)
theorem re_ixA {k : Nat} {tab : Nat → Option MF} {o b : Expr} {pos : Pos} {mo mk : M D} (ht : ∀ c mf, tab c = some mf → DunOk X cl k "__getitem__" c mf) (hr : Room (k + 1) X.A) (ho : RE X cl tk o mo) (hb : RE X cl tk b mk) (hs : PlainIx b := by exact fun _ _ => rfl)
    (hsl : ∀ x i, subscripted b true (.ref x) i = runValue (.builtin "lifetime.subscript" ⟨[.ref x, i], []⟩) := by intro _ _; with_unfolding_all rfl) : RE X cl tk (.Subscript o b pos) (mIxA tab mo mk) := by
  refine ⟨fun pins s σ H Q I ⟨φ, G, g, S, r, S', w, sl, e1, kq⟩ => ?_⟩
  have other : mOp2 fIx mo mk g S = some (r, S') → wpAny (model X.prog X.w) X.A (eval (.Subscript o b pos) X.env) (EP X pins σ Q) X.xe s := fun e => (re_ix (T := T) ho hb hs).run pins s σ H Q I ⟨φ, G, g, S, r, S', w, sl, e, kq⟩
  unfold mIxA at e1
  split at e1
  · rename_i i S1 q1
    split at e1
    · rename_i c0 fs0 q2
      refine PyProof.Rows.Subscript_ (thn (ho.run pins s σ H (fun x H1 => ∃ φ1 G1 a, x = .ref a ∧ φ1[i]? = some a ∧ Step φ G H φ1 G1 H1 ∧ Wd X.K cl φ1 S1 G1 H1) I ⟨φ, G, g, S, _, _, w, sl, q1, fun φ1 G1 H1 st w1 v hv => ?_⟩) fun u s1 ⟨x, H1, I1, rx, φ1, G1, a, ex, ea, st, w1⟩ => ?_)
      · simp only [IsD] at hv
        obtain ⟨a, rfl, ha⟩ := hv
        exact ⟨φ1, G1, a, rfl, ha, st, w1⟩
      · subst ex
        have eu : u = Value.ref a := rx
        subst eu
        have k1 := kq.step T.ok st
        refine thn (hb.run pins s1 σ H1 (fun y H2 => ∃ φ2 G2 d S2 c fs mf, Step φ1 G1 H1 φ2 G2 H2 ∧ Wd X.K cl φ2 S2 G2 H2 ∧ IsD X.K φ2 G2 d y ∧ S2[i]? = some (.ins c fs) ∧ tab c = some mf ∧ mf [.ref i, d] S2 = some (r, S')) I1 ?_) fun iv s2 ⟨y, H2, I2, ry, φ2, G2, d, S2, c, fs, mf, st2, w2, hd, q3, q4, e2⟩ => ?_
        · split at e1
          · rename_i d S2 q5
            split at e1
            · rename_i c fs q6
              split at e1
              · rename_i mf q7
                exact ⟨φ1, G1, g, S1, _, _, w1, sl.step st, q5, fun φ2 G2 H2 st2 w2 v hv => ⟨φ2, G2, d, S2, c, fs, mf, st2, w2, hv, q6, q7, e1⟩⟩
              · cases e1
            · cases e1
          · rename_i c fs S2 q5
            cases e1
            exact ⟨φ1, G1, g, S1, _, _, w1, sl.step st, q5, k1⟩
          · cases e1
        · obtain ⟨f, fd, ps, h1, h2, h3, h4, F⟩ := ht c mf q4
          have ea2 := pre_get st2.pre ea
          obtain ⟨dx, fv, n1, n2⟩ := w2.ok _ _ _ q3 ea2
          obtain ⟨mA, O, _⟩ := ins_get I2.hok n1
          obtain ⟨od, ho', _⟩ := lookIn_ns O.ns
          obtain ⟨m, Fm⟩ := I2.fr
          have J : PySem.W.InstAt s2.heap a (PySem.W.instObj (cl.at_ c) dx) (cl.at_ c) (some od) := ⟨O.obj, rfl, rfl, ho'⟩
          have hds : IsDs X.K φ2 G2 [.ref i, d] [V.ref a, y] := .cons (by simp only [IsD]; exact ⟨a, rfl, ea2⟩) (.cons hd .nil)
          exact PySem.W.sub_K Fm I2.ok.mod.kin J h1 h3 h2 (run_fnA (A' := X.A.in1) rfl (vs := [V.ref a, y]) F hr.in1 h4 I2 (.cons rfl (.cons ry .nil)) (sl.step (st.trans st2)) w2 hds e2 (k1.step T.ok st2)) (hsl _ _)
    · exact other e1
  · exact other e1
end
end Mi
namespace Mi
open PySem L2
/-- x in o, o with an own __contains__ that changes nothing that is known -/
noncomputable def inO (tab : Nat → Option MF) (S : Store) (i c : Nat) (d : D) : Option Bool := (tab c).bind fun mf => match mf [.ref i, d] S with
  | some (.ok (.bl b), S') => if cdec (S' = S) = true then some b else none
  | _ => none
noncomputable def fInA (tab : Nat → Option MF) : Store → D → D → Option D := fun S d e => match e with
  | .ref i => match S[i]? with
    | some (.ins c _) => (inO tab S i c d).map .bl
    | _ => fIn S d e
  | _ => fIn S d e
noncomputable def fNotInA (tab : Nat → Option MF) : Store → D → D → Option D := fun S d e => match e with
  | .ref i => match S[i]? with
    | some (.ins c _) => (inO tab S i c d).map fun b => .bl (!b)
    | _ => fNotIn S d e
  | _ => fNotIn S d e
def rInO (X : Cx) (cl : Cl) (tab : Nat → Option MF) (neg : Bool) : R2 := fun x y H Q => ∃ φ G S i c fs d b, Wd X.K cl φ S G H ∧ IsD X.K φ G d x ∧ IsD X.K φ G (.ref i) y ∧ S[i]? = some (.ins c fs) ∧ inO tab S i c d = some b ∧
  ∀ φ' G' H', Step φ G H φ' G' H' → Wd X.K cl φ' S G' H' → Q (.bl (if neg = true then !b else b)) H'
section
variable {X : Cx} {cl : Cl}
theorem run_inO {k : Nat} {tab : Nat → Option MF} {neg : Bool} (hh : cl.hd = none) (ht : ∀ c mf, tab c = some mf → DunOk X cl k "__contains__" c mf) (hr : Room k X.A) {pins : List (Addr × Obj)} {s : Shared} {σ : L2.St} {H : Hp} {x y : V} {v u : Value} {Q : VK}
    (I : Inv X pins σ H s) (rx : RelV x v) (ry : RelV y u) (h : rInO X cl tab neg x y H Q) :
    ∃ a f C ox od, u = .ref a ∧ PySem.W.InstAt s.heap a ox C od ∧ PySem.W.findIn X.K (.ref C) "__contains__" = some (some (.ref f)) ∧ PySem.W.isFn X.K (.ref f) = true ∧
      ∀ (Q' : Bool → Shared → Prop), (∀ b s', EP X pins σ Q (.bool (if neg = true then !b else b)) s' → Q' b s') →
        wpAny (model X.prog X.w) X.A (call (.ref f) [.ref a, v]) (fun r s' => wpAny (model X.prog X.w) X.A (truthy r) Q' X.xe s') X.xe s := by
  obtain ⟨φ, G, S, i, c, fs, d, b, w, hd, ho, hS, hb, q⟩ := h
  unfold inO at hb
  cases ht' : tab c with
  | none => rw [ht'] at hb; cases hb
  | some mf =>
    rw [ht', Option.bind_some] at hb
    split at hb
    · rename_i b' S' hm
      split at hb
      · rename_i hc
        cases hb
        have eS : S' = S := cdec_iff.mp hc
        subst eS
        obtain ⟨f, fd, ps, h1, h2, h3, h4, F⟩ := ht c mf ht'
        have ho' := ho
        simp only [IsD] at ho'
        obtain ⟨a, rfl, ha⟩ := ho'
        have eu : u = Value.ref a := ry
        subst eu
        obtain ⟨dx, fv, n1, n2⟩ := w.ok _ _ _ hS ha
        obtain ⟨mA, O, _⟩ := ins_get I.hok n1
        obtain ⟨od, ho2, _⟩ := lookIn_ns O.ns
        refine ⟨a, f, _, _, some od, rfl, ⟨O.obj, rfl, rfl, ho2⟩, h1, h2, fun Q' hQ => ?_⟩
        have sl : Sl X.K cl φ G (List.replicate σ.length none) σ := by
          refine ⟨by simp, fun j e z => ?_, fun j e z => ?_⟩
          · rw [List.getElem?_replicate] at z
            split at z <;> cases z
          · rw [hh] at z; cases z
        refine thn (run_fnA (tk := fun _ => False) (A' := X.A) rfl (vs := [V.ref a, x]) (Q := fun v H' => ∃ b, v = V.bl b ∧ Q (.bl (if neg = true then !b else b)) H') F hr h4 I (.cons rfl (.cons rx .nil)) sl w (.cons ho (.cons hd .nil)) hm fun φ' G' H' st w' v hv => ?_) fun r s' ⟨v', H', I', rv', b2, ev, q2⟩ => ?_
        · simp only [IsD] at hv
          exact ⟨_, hv, q φ' G' H' st w'⟩
        · subst ev
          have er : r = Value.bool b2 := rv'
          subst er
          exact wpAny_truthy_bool (hQ b2 s' ⟨.bl (if neg = true then !b2 else b2), H', I', rfl, q2⟩)
      · cases hb
    · cases hb
theorem op_inO {k : Nat} {tab : Nat → Option MF} (hh : cl.hd = none) (ht : ∀ c mf, tab c = some mf → DunOk X cl k "__contains__" c mf) (hr : Room k X.A) : OpR X (compareOp .In) (rInO X cl tab false) := by
  intro pins s σ H x y v u Q I rx ry h
  obtain ⟨a, f, C, ox, od, rfl, J, h1, h2, h3⟩ := run_inO hh ht hr I rx ry h
  obtain ⟨m, Fm⟩ := I.fr
  exact PySem.W.in_K Fm I.ok.mod.kin J h1 h2 (h3 _ fun b s' z => z)
theorem op_notInO {k : Nat} {tab : Nat → Option MF} (hh : cl.hd = none) (ht : ∀ c mf, tab c = some mf → DunOk X cl k "__contains__" c mf) (hr : Room k X.A) : OpR X (compareOp .NotIn) (rInO X cl tab true) := by
  intro pins s σ H x y v u Q I rx ry h
  obtain ⟨a, f, C, ox, od, rfl, J, h1, h2, h3⟩ := run_inO hh ht hr I rx ry h
  obtain ⟨m, Fm⟩ := I.fr
  exact PySem.W.notIn_K Fm I.ok.mod.kin J h1 h2 (h3 _ fun b s' z => z)
theorem fInA_ok {tab : Nat → Option MF} : OpS X.K cl (fun x y H Q => rInO X cl tab false x y H Q ∨ rInA X.K x y H Q) (fInA tab) := fun φ S G H x y d e z Q w h1 h2 h3 k => by
  have other : fIn S d e = some z → rInO X cl tab false x y H Q ∨ rInA X.K x y H Q := fun q => .inr (fIn_rel.op φ S G H x y d e z Q w h1 h2 q k)
  unfold fInA at h3
  split at h3
  · rename_i i
    split at h3
    · rename_i c fs hS
      cases hb : inO tab S i c d with
      | none => rw [hb] at h3; cases h3
      | some b =>
        rw [hb] at h3
        cases h3
        exact .inl ⟨φ, G, S, i, c, fs, d, b, w, h1, h2, hS, hb, fun φ' G' H' st w' => k φ' G' H' st w' _ (by simp only [IsD]; rfl)⟩
    · exact other h3
  · exact other h3
theorem fNotInA_ok {tab : Nat → Option MF} : OpS X.K cl (fun x y H Q => rInO X cl tab true x y H Q ∨ rNotInA X.K x y H Q) (fNotInA tab) := fun φ S G H x y d e z Q w h1 h2 h3 k => by
  have other : fNotIn S d e = some z → rInO X cl tab true x y H Q ∨ rNotInA X.K x y H Q := fun q => .inr (fNotIn_rel.op φ S G H x y d e z Q w h1 h2 q k)
  unfold fNotInA at h3
  split at h3
  · rename_i i
    split at h3
    · rename_i c fs hS
      cases hb : inO tab S i c d with
      | none => rw [hb] at h3; cases h3
      | some b =>
        rw [hb] at h3
        cases h3
        exact .inl ⟨φ, G, S, i, c, fs, d, b, w, h1, h2, hS, hb, fun φ' G' H' st w' => k φ' G' H' st w' _ (by simp only [IsD]; rfl)⟩
    · exact other h3
  · exact other h3
end
end Mi
namespace Mi
open PySem L2
/-- len(o), o with an own __len__ that changes nothing that is known -/
noncomputable def lenO (tab : Nat → Option MF) (S : Store) (i c : Nat) : Option Int := (tab c).bind fun mf => match mf [.ref i] S with
  | some (.ok (.int n), S') => if cdec (S' = S ∧ 0 ≤ n ∧ n < 2 ^ 63) = true then some n else none
  | _ => none
noncomputable def cLenA (tab : Nat → Option MF) : Store → List D → Option D := fun S ds => match ds with
  | [.ref i] => match S[i]? with
    | some (.ins c _) => (lenO tab S i c).map .int
    | _ => cLen S ds
  | _ => cLen S ds
def rLenO (X : Cx) (cl : Cl) (tab : Nat → Option MF) : List V → Hp → VK → Prop := fun xs H Q => ∃ φ G S i c fs n y, xs = [y] ∧ Wd X.K cl φ S G H ∧ IsD X.K φ G (.ref i) y ∧ S[i]? = some (.ins c fs) ∧ lenO tab S i c = some n ∧
  ∀ φ' G' H', Step φ G H φ' G' H' → Wd X.K cl φ' S G' H' → Q (.int n) H'
section
variable {X : Cx} {cl : Cl}
theorem call_lenO {k : Nat} {tab : Nat → Option MF} (hh : cl.hd = none) (ht : ∀ c mf, tab c = some mf → DunOk X cl k "__len__" c mf) (hr : Room (k + 1) X.A) : CallR X (.builtin "len") (rLenO X cl tab) := by
  intro pins s σ H xs us Q I r h
  obtain ⟨φ, G, S, i, c, fs, n, y, rfl, w, ho, hS, hb, q⟩ := h
  unfold lenO at hb
  cases ht' : tab c with
  | none => rw [ht'] at hb; cases hb
  | some mf =>
    rw [ht', Option.bind_some] at hb
    split at hb
    · rename_i n' S' hm
      split at hb
      · rename_i hc
        cases hb
        obtain ⟨eS, n0, n1'⟩ := cdec_iff.mp hc
        subst eS
        obtain ⟨f, fd, ps, h1, h2, h3, h4, F⟩ := ht c mf ht'
        have ho' := ho
        simp only [IsD] at ho'
        obtain ⟨a, rfl, ha⟩ := ho'
        cases r with
        | cons ru rn =>
          cases rn
          cases ru
          obtain ⟨dx, fv, n1, n2⟩ := w.ok _ _ _ hS ha
          obtain ⟨mA, O, _⟩ := ins_get I.hok n1
          obtain ⟨od, ho2, _⟩ := lookIn_ns O.ns
          obtain ⟨m, Fm⟩ := I.fr
          have sl : Sl X.K cl φ G (List.replicate σ.length none) σ := by
            refine ⟨by simp, fun j e z => ?_, fun j e z => ?_⟩
            · rw [List.getElem?_replicate] at z
              split at z <;> cases z
            · rw [hh] at z; cases z
          have J : PySem.W.InstAt s.heap a (PySem.W.instObj (cl.at_ c) dx) (cl.at_ c) (some od) := ⟨O.obj, rfl, rfl, ho2⟩
          refine PySem.W.len_K Fm I.ok.mod.kin J h1 h2 (thn (run_fnA (tk := fun _ => False) (A' := X.A.in1) rfl (vs := [V.ref a]) (Q := fun v H' => v = V.int n ∧ Q (.int n) H') F hr.in1 h4 I (.cons rfl .nil) sl w (.cons ho .nil) hm fun φ' G' H' st w' v hv => ?_) fun r s' ⟨v', H', I', rv', ev, q2⟩ => ?_)
          · simp only [IsD] at hv
            exact ⟨hv, q φ' G' H' st w'⟩
          · subst ev
            obtain ⟨t, rfl⟩ := rv'
            exact ⟨⟨n0, n1'⟩, .int n, H', I'.tok _, ⟨_, rfl⟩, q2⟩
      · cases hb
    · cases hb
theorem cLenA_ok {tab : Nat → Option MF} : CallS X.K cl (fun xs H Q => rLenO X cl tab xs H Q ∨ rLenA X.K xs H Q) (cLenA tab) := fun φ S G H xs ds z Q w h1 h3 k => by
  have other : cLen S ds = some z → rLenO X cl tab xs H Q ∨ rLenA X.K xs H Q := fun q => .inr (cLen_ok φ S G H xs ds z Q w h1 q k)
  unfold cLenA at h3
  split at h3
  · rename_i i
    split at h3
    · rename_i c fs hS
      cases hb : lenO tab S i c with
      | none => rw [hb] at h3; cases h3
      | some n =>
        rw [hb] at h3
        cases h3
        obtain ⟨y, rfl, hy⟩ := flat1 h1
        exact .inl ⟨φ, G, S, i, c, fs, n, y, rfl, w, hy, hS, hb, fun φ' G' H' st w' => k φ' G' H' st w' _ (by simp only [IsD])⟩
    · exact other h3
  · exact other h3
end
end Mi
namespace Mi
open PySem L2
section
/-- o[k] = v by an own __setitem__ -/
theorem setItem_own {M : Model} {A : Around} {E : Value → Shared → Prop} {s : Shared} {K : PySem.W.Frag} {x C f : Addr} {ox : Obj} {od : Option Obj} {kv v : Value} {Q : Unit → Shared → Prop} (X : K.In s.heap) (I : PySem.W.InstAt s.heap x ox C od) (hq : PySem.W.noSeq K C = true)
    (hs : PySem.W.findIn K (.ref C) "__setitem__" = some (some (.ref f))) (hf : PySem.W.isFn K (.ref f) = true) (h : wpAny M A (call (.ref f) [.ref x, kv, v]) (fun _ s' => Q () s') E s) : wpAny M A (setItem (.ref x) kv v) Q E s := by
  unfold setItem sequenceKey
  refine wpAny_holding (wpAny_bind (wpAny_bind (I.type.here ?_)))
  refine wpAny_bind ((PySem.W.anyM_none X hq).here ?_)
  rw [if_pos (show (!false) = true from rfl)]
  exact wpAny_pure (wpAny_bind (PySem.W.special_fn X I hs (beq_iff_eq.mp hf) (wpAny_mono h (fun _ _ z => wpAny_pure z) fun _ _ z => z)))
variable {X : Cx} {cl : Cl} {tk : WX → Prop} [T : Tk X tk]
/-- o[k] = v, o an instance with an own __setitem__ -/
def mSetIx (tab : Nat → Option MF) (mo mk mv : M D) : MS := fun g S => match mv g S with
  | some (.ok d, S1) => match mo g S1 with
    | some (.ok (.ref i), S2) => match mk g S2 with
      | some (.ok e, S3) => match S3[i]? with
        | some (.ins c _) => match tab c with
          | some mf => match mf [.ref i, e, d] S3 with
            | some (.ok _, S4) => some (.nx g, S4)
            | some (.exc c fs, S4) => some (.ex g c fs, S4)
            | none => none
          | none => none
        | _ => none
      | some (.exc c fs, S3) => some (.ex g c fs, S3)
      | none => none
    | some (.exc c fs, S2) => some (.ex g c fs, S2)
    | _ => none
  | some (.exc c fs, S1) => some (.ex g c fs, S1)
  | none => none
theorem rs_setIx {k : Nat} {tab : Nat → Option MF} {o i value : Expr} {pos pos' : Pos} {mo mk mv : M D} (ht : ∀ c mf, tab c = some mf → DunOk X cl k "__setitem__" c mf ∧ PySem.W.noSeq X.K (cl.at_ c) = true) (hr : Room k X.A) (ho : RE X cl tk o mo) (hi : RE X cl tk i mk) (hv : RE X cl tk value mv)
    (hs : swapsWith value (some (.Subscript o i pos')) pos.line X.env = pure false := by rfl) : RS X cl tk (.Assign [.Subscript o i pos'] value pos) (mSetIx tab mo mk mv) := by
  refine ⟨fun pins s σ H Dn I ⟨φ, G, g, S, out, S', w, sl, e, kq⟩ => ?_⟩
  unfold mSetIx at e
  split at e
  · rename_i d S1 q1
    refine PySem.wpAny_Assign_Subscript (thn (hv.run pins s σ H (fun v H1 => ∃ φ1 G1, Step φ G H φ1 G1 H1 ∧ Wd X.K cl φ1 S1 G1 H1 ∧ IsD X.K φ1 G1 d v) I ⟨φ, G, g, S, _, _, w, sl, q1, fun φ1 G1 H1 st1 w1 v hv => ⟨φ1, G1, st1, w1, hv⟩⟩) fun r s1 ⟨v, H1, I1, rv, φ1, G1, st1, w1, hd⟩ => ?_) hs
    split at e
    · rename_i j S2 q2
      refine thn (ho.run pins s1 σ H1 (fun x H2 => ∃ φ2 G2 a, Step φ1 G1 H1 φ2 G2 H2 ∧ Wd X.K cl φ2 S2 G2 H2 ∧ x = .ref a ∧ φ2[j]? = some a) I1 ⟨φ1, G1, g, S1, _, _, w1, sl.step st1, q2, fun φ2 G2 H2 st2 w2 x hx => ?_⟩) fun u s2 ⟨x, H2, I2, rx, φ2, G2, a, st2, w2, ex, ea⟩ => ?_
      · simp only [IsD] at hx
        obtain ⟨a, rfl, ha⟩ := hx
        exact ⟨φ2, G2, a, st2, w2, rfl, ha⟩
      subst ex
      have eu : u = Value.ref a := rx
      subst eu
      split at e
      · rename_i ke S3 q3
        refine thn (hi.run pins s2 σ H2 (fun y H3 => ∃ φ3 G3, Step φ2 G2 H2 φ3 G3 H3 ∧ Wd X.K cl φ3 S3 G3 H3 ∧ IsD X.K φ3 G3 ke y) I2 ⟨φ2, G2, g, S2, _, _, w2, sl.step (st1.trans st2), q3, fun φ3 G3 H3 st3 w3 y hy => ⟨φ3, G3, st3, w3, hy⟩⟩) fun iv s3 ⟨y, H3, I3, ry, φ3, G3, st3, w3, hk⟩ => ?_
        split at e
        · rename_i c fs q4
          split at e
          · rename_i mf q5
            obtain ⟨⟨f, fd, ps, h1, h2, h3, h4, F⟩, hns⟩ := ht c mf q5
            have ea3 := pre_get st3.pre ea
            obtain ⟨dx, fv, n1, n2⟩ := w3.ok _ _ _ q4 ea3
            obtain ⟨mA, O, _⟩ := ins_get I3.hok n1
            obtain ⟨od, ho', _⟩ := lookIn_ns O.ns
            have J : PySem.W.InstAt s3.heap a (PySem.W.instObj (cl.at_ c) dx) (cl.at_ c) (some od) := ⟨O.obj, rfl, rfl, ho'⟩
            have st := (st1.trans st2).trans st3
            have sl3 := sl.step st
            have hds : IsDs X.K φ3 G3 [.ref j, ke, d] [V.ref a, y, v] := .cons (by simp only [IsD]; exact ⟨a, rfl, ea3⟩) (.cons hk (.cons (hd.mono (st2.trans st3).pre (st2.trans st3).ex) .nil))
            have kk := kq.step T.ok st
            split at e
            · rename_i z S4 q6
              cases e
              exact setItem_own I3.kIn J hns h1 h2 (thn (run_fnA (T := T) (A' := X.A) rfl (vs := [V.ref a, y, v]) (Q := fun _ H' => Dn.nx σ H') F hr h4 I3 (.cons rfl (.cons ry (.cons rv .nil))) sl3 w3 hds q6 fun φ' G' H' st' w' _ _ => kk φ' G' H' st' w' σ (sl3.step st')) fun _ s4 ⟨_, H4, I4, _, q⟩ => ⟨σ, H4, I4, q⟩)
            · rename_i c' fs' S4 q6
              cases e
              exact setItem_own I3.kIn J hns h1 h2 (thn (run_fnA (T := T) (A' := X.A) rfl (vs := [V.ref a, y, v]) (Q := fun _ _ => False) F hr h4 I3 (.cons rfl (.cons ry (.cons rv .nil))) sl3 w3 hds q6 kk) fun _ s4 ⟨_, H4, I4, _, q⟩ => q.elim)
            · cases e
          · cases e
        · cases e
      · rename_i c fs S3 q3
        cases e
        exact thn (hi.run pins s2 σ H2 (fun _ _ => False) I2 ⟨φ2, G2, g, S2, _, _, w2, sl.step (st1.trans st2), q3, kq.step T.ok (st1.trans st2)⟩) fun iv s3 ⟨_, _, _, _, z⟩ => z.elim
      · cases e
    · rename_i c fs S2 q2
      cases e
      exact thn (ho.run pins s1 σ H1 (fun _ _ => False) I1 ⟨φ1, G1, g, S1, _, _, w1, sl.step st1, q2, kq.step T.ok st1⟩) fun iv s3 ⟨_, _, _, _, z⟩ => z.elim
    · cases e
  · rename_i c fs S1 q1
    cases e
    exact PySem.wpAny_Assign_Subscript (thn (hv.run pins s σ H (fun _ _ => False) I ⟨φ, G, g, S, _, _, w, sl, q1, kq⟩) fun r s1 ⟨_, _, _, _, z⟩ => z.elim) hs
  · cases e
end
end Mi
namespace Mi
open PySem L2
/-! ### constants of a class, read off an instance -/
/-- o.f, o an instance of a class where f is the constant tab c -/
def conOf (tab : Nat → Option D) (f : Str) (S : Store) : D → Option D
  | .ref i => match S[i]? with
    | some (.ins c fs) => if fs.lookup f = none then tab c else none
    | _ => none
  | _ => none
section
variable {X : Cx} {cl : Cl} {tk : WX → Prop} [T : Tk X tk]
theorem re_con {tab : Nat → Option D} {e : Expr} {f : Str} {pos : Pos} {m : M D} (hc : ∀ c d, tab c = some d → L2.Cls X.K (cl.at_ c) ∧ ∃ v u, L2.Con X.K (cl.at_ c) f v u ∧ ∀ φ G, IsD X.K φ G d v) (he : RE X cl tk e m) (hb : attributeBase e f X.env (eval e X.env) = eval e X.env := by rfl) :
    RE X cl tk (.Attribute e f pos) (mOp1 (fun S d => conOf tab f S d) m) := by
  refine pe_imp (pe_con he hb) fun σ H Q ⟨φ, G, g, S, r, S', w, s, e, k⟩ => ?_
  refine tM_bind T.ok w s e k fun d φ1 G1 H1 S1 v st1 w1 s1 hv' e1 k1 => ?_
  obtain ⟨z, ez, rfl, rfl⟩ := mL_ok e1
  have ez : conOf tab f S' d = some z := ez
  unfold conOf at ez
  split at ez
  · rename_i i
    split at ez
    · rename_i c fs hS
      split at ez
      · rename_i hn
        simp only [IsD] at hv'
        obtain ⟨a, rfl, ha⟩ := hv'
        obtain ⟨dx, fv, h1, h2⟩ := w1.ok _ _ _ hS ha
        obtain ⟨q1, v, u, q2, q3⟩ := hc c z ez
        exact ⟨a, _, dx, fv, v, u, rfl, h1, q1, q2, fsD_none h2 hn, k1.now w1 v (q3 _ _)⟩
      · cases ez
    · cases ez
  · cases ez
end
end Mi
namespace Mi
open PySem L2
/-! ### dicts as cells -/
def keyOf : D → Option Key
  | .int i => some (.inl i)
  | .str s => some (.inr s)
  | _ => none
def keyD : Key → D
  | .inl i => .int i
  | .inr s => .str s
def valD (kvs : List (Key × D)) (k : Key) : Option D := (kvs.find? fun kv => decide (kv.1 = k)).map (·.2)
def putKD (kvs : List (Key × D)) (k : Key) (v : D) : List (Key × D) :=
  if (kvs.any fun kv => decide (kv.1 = k)) = true then kvs.map (fun kv => if kv.1 = k then (kv.1, v) else kv) else kvs ++ [(k, v)]
def dOf (S : Store) (i : Nat) : Option (List (Key × D)) := match S[i]? with
  | some (.dK kvs) => some kvs
  | some (.dF kvs) => some kvs
  | _ => none
section
variable {K : PySem.W.Frag} {cl : Cl} {φ : List Addr} {G H : Hp} {S : Store}
theorem keyOf_ok {d : D} {v : V} {k : Key} (h : IsD K φ G d v) (e : keyOf d = some k) : v = kV k := by
  cases d <;> simp only [keyOf] at e <;> try (cases e; done)
  · cases e; simp only [IsD] at h; exact h
  · cases e; simp only [IsD] at h; exact h
theorem keyD_ok {k : Key} : IsD K φ G (keyD k) (kV k) := by cases k <;> (simp only [keyD, IsD]; rfl)
theorem dOf_ok (w : Wd K cl φ S G H) {i : Nat} {kvs : List (Key × D)} {a : Addr} (h : dOf S i = some kvs) (ha : φ[i]? = some a) : ∃ kws, Rd H a (.dK kws) ∧ KsD K φ G kvs kws := by
  unfold dOf at h
  split at h
  · rename_i l q
    cases h
    obtain ⟨kws, h1, h2⟩ := w.ok _ _ _ q ha
    exact ⟨kws, .inl h1, h2⟩
  · rename_i l q
    cases h
    obtain ⟨o, kws, h1, h2⟩ := w.ok _ _ _ q ha
    exact ⟨kws, .inr ⟨o, w.sub _ _ h1⟩, h2⟩
  · cases h
theorem ksD_len : ∀ {kvs : List (Key × D)} {kws : List (Key × V)}, KsD K φ G kvs kws → kvs.length = kws.length
  | [], _, h => by subst h; rfl
  | (n, e) :: fs, _, ⟨u, r, h1, h2, h3⟩ => by subst h1; simp [ksD_len h3]
theorem ksD_get : ∀ {kvs : List (Key × D)} {kws : List (Key × V)} {i : Nat} {k : Key} {v : V}, KsD K φ G kvs kws → kws[i]? = some (k, v) → ∃ d, kvs[i]? = some (k, d) ∧ IsD K φ G d v
  | [], _, _, _, _, h, e => by subst h; simp at e
  | (n, d) :: fs, _, 0, _, _, ⟨u, r, h1, h2, h3⟩, e => by
    subst h1
    simp at e
    obtain ⟨rfl, rfl⟩ := e
    exact ⟨d, rfl, h2⟩
  | (n, d) :: fs, _, i + 1, _, _, ⟨u, r, h1, h2, h3⟩, e => by
    subst h1
    simpa using ksD_get h3 (by simpa using e)
theorem ksD_val {k : Key} : ∀ {kvs : List (Key × D)} {kws : List (Key × V)}, KsD K φ G kvs kws → (valD kvs k = none ∧ valV kws k = none) ∨ ∃ d v, valD kvs k = some d ∧ valV kws k = some v ∧ IsD K φ G d v
  | [], _, h => by subst h; exact .inl ⟨rfl, rfl⟩
  | (n, e) :: fs, _, ⟨u, r, h1, h2, h3⟩ => by
    subst h1
    by_cases q : n = k
    · exact .inr ⟨e, u, by simp [valD, q], by simp [valV, q], h2⟩
    · have a1 : valD ((n, e) :: fs) k = valD fs k := by simp [valD, q]
      have a2 : valV ((n, u) :: r) k = valV r k := by simp [valV, q]
      rw [a1, a2]
      exact ksD_val h3
theorem ksD_any {k : Key} : ∀ {kvs : List (Key × D)} {kws : List (Key × V)}, KsD K φ G kvs kws → (kvs.any fun kv => decide (kv.1 = k)) = kws.any fun kv => decide (kv.1 = k)
  | [], _, h => by subst h; rfl
  | (n, e) :: fs, _, ⟨u, r, h1, h2, h3⟩ => by
    subst h1
    simp only [List.any_cons]
    rw [ksD_any h3]
theorem ksD_map {k : Key} {d : D} {v : V} (hv : IsD K φ G d v) : ∀ {kvs : List (Key × D)} {kws : List (Key × V)}, KsD K φ G kvs kws → KsD K φ G (kvs.map (fun kv => if kv.1 = k then (kv.1, d) else kv)) (kws.map (fun kv => if kv.1 = k then (kv.1, v) else kv))
  | [], _, h => by subst h; rfl
  | (n, e) :: fs, _, ⟨u, r, h1, h2, h3⟩ => by
    subst h1
    by_cases q : n = k
    · simp only [List.map_cons, q, if_true]
      exact ⟨v, _, rfl, hv, by simpa using ksD_map hv h3⟩
    · simp only [List.map_cons, q, if_false]
      exact ⟨u, _, rfl, h2, by simpa using ksD_map hv h3⟩
theorem ksD_app {k : Key} {d : D} {v : V} (hv : IsD K φ G d v) : ∀ {kvs : List (Key × D)} {kws : List (Key × V)}, KsD K φ G kvs kws → KsD K φ G (kvs ++ [(k, d)]) (kws ++ [(k, v)])
  | [], _, h => by subst h; exact ⟨v, [], rfl, hv, rfl⟩
  | (n, e) :: fs, _, ⟨u, r, h1, h2, h3⟩ => by subst h1; exact ⟨u, _, rfl, h2, ksD_app hv h3⟩
theorem ksD_put {k : Key} {d : D} {v : V} (hv : IsD K φ G d v) {kvs : List (Key × D)} {kws : List (Key × V)} (h : KsD K φ G kvs kws) : KsD K φ G (putKD kvs k d) (putK kws k v) := by
  unfold putKD putK
  rw [ksD_any h]
  split
  · exact ksD_map hv h
  · exact ksD_app hv h
end

/-! ### k in d -/
noncomputable def fInG (tab : Nat → Option MF) : Store → D → D → Option D := fun S d e => match e with
  | .ref i => match dOf S i with
    | some kvs => (keyOf d).map fun k => .bl (valD kvs k).isSome
    | none => fInA tab S d e
  | _ => fInA tab S d e
noncomputable def fNotInG (tab : Nat → Option MF) : Store → D → D → Option D := fun S d e => match e with
  | .ref i => match dOf S i with
    | some kvs => (keyOf d).map fun k => .bl (!(valD kvs k).isSome)
    | none => fNotInA tab S d e
  | _ => fNotInA tab S d e
def rDIn (neg : Bool) : R2 := fun y x H Q => ∃ a kws k, x = .ref a ∧ Rd H a (.dK kws) ∧ y = kV k ∧ Q (.bl (if neg = true then !(valV kws k).isSome else (valV kws k).isSome)) H
section
variable {X : Cx} {cl : Cl}
theorem op_inD' {k : Nat} (hr : Room k X.A) : OpR X (compareOp .In) (rDIn false) := by
  intro pins s σ H x y v u Q I rx ry h
  obtain ⟨a, kws, k, rfl, h1, rfl, q⟩ := h
  have eu : u = Value.ref a := ry
  subst eu
  exact d_in (hu_of hr) I (.inl ⟨kws, k, h1, rfl, rfl⟩) rx fun s3 I3 => ⟨.bl (valV kws k).isSome, H, I3, rfl, q⟩
theorem op_notInD' {k : Nat} (hr : Room k X.A) : OpR X (compareOp .NotIn) (rDIn true) := by
  intro pins s σ H x y v u Q I rx ry h
  obtain ⟨a, kws, k, rfl, h1, rfl, q⟩ := h
  have eu : u = Value.ref a := ry
  subst eu
  exact d_notIn (hu_of hr) I (.inl ⟨kws, k, h1, rfl, rfl⟩) rx fun s3 I3 => ⟨.bl (!(valV kws k).isSome), H, I3, rfl, q⟩
theorem dIn_of {φ : List Addr} {S : Store} {G H : Hp} {x y : V} {d : D} {i : Nat} {kvs : List (Key × D)} {k : Key} {neg : Bool} {Q : VK} (w : Wd X.K cl φ S G H) (h1 : IsD X.K φ G d x) (h2 : IsD X.K φ G (.ref i) y) (hd : dOf S i = some kvs) (hk : keyOf d = some k)
    (q : Q (.bl (if neg = true then !(valD kvs k).isSome else (valD kvs k).isSome)) H) : rDIn neg x y H Q := by
  simp only [IsD] at h2
  obtain ⟨a, rfl, ha⟩ := h2
  obtain ⟨kws, h3, h4⟩ := dOf_ok w hd ha
  refine ⟨a, kws, k, rfl, h3, keyOf_ok h1 hk, ?_⟩
  rcases ksD_val (k := k) h4 with ⟨e1, e2⟩ | ⟨d', v, e1, e2, _⟩
  · rw [e1] at q; rw [e2]; exact q
  · rw [e1] at q; rw [e2]; exact q
theorem fInG_ok {tab : Nat → Option MF} : OpS X.K cl (fun x y H Q => rDIn false x y H Q ∨ rInO X cl tab false x y H Q ∨ rInA X.K x y H Q) (fInG tab) := fun φ S G H x y d e z Q w h1 h2 h3 k => by
  have other : fInA tab S d e = some z → rDIn false x y H Q ∨ rInO X cl tab false x y H Q ∨ rInA X.K x y H Q := fun q => .inr (fInA_ok φ S G H x y d e z Q w h1 h2 q k)
  unfold fInG at h3
  split at h3
  · rename_i i
    split at h3
    · rename_i kvs hd
      cases hk : keyOf d with
      | none => rw [hk] at h3; cases h3
      | some ky =>
        rw [hk] at h3; cases h3
        exact .inl (dIn_of (neg := false) w h1 h2 hd hk (k _ _ _ (Step.refl _ _ _) w _ (by simp only [IsD]; rfl)))
    · exact other h3
  · exact other h3
theorem fNotInG_ok {tab : Nat → Option MF} : OpS X.K cl (fun x y H Q => rDIn true x y H Q ∨ rInO X cl tab true x y H Q ∨ rNotInA X.K x y H Q) (fNotInG tab) := fun φ S G H x y d e z Q w h1 h2 h3 k => by
  have other : fNotInA tab S d e = some z → rDIn true x y H Q ∨ rInO X cl tab true x y H Q ∨ rNotInA X.K x y H Q := fun q => .inr (fNotInA_ok φ S G H x y d e z Q w h1 h2 q k)
  unfold fNotInG at h3
  split at h3
  · rename_i i
    split at h3
    · rename_i kvs hd
      cases hk : keyOf d with
      | none => rw [hk] at h3; cases h3
      | some ky =>
        rw [hk] at h3; cases h3
        exact .inl (dIn_of (neg := true) w h1 h2 hd hk (k _ _ _ (Step.refl _ _ _) w _ (by simp only [IsD]; rfl)))
    · exact other h3
  · exact other h3
theorem op_inG {k : Nat} {tab : Nat → Option MF} (hh : cl.hd = none) (ht : ∀ c mf, tab c = some mf → DunOk X cl k "__contains__" c mf) (hr : Room k X.A) : OpR X (compareOp .In) (fun x y H Q => rDIn false x y H Q ∨ rInO X cl tab false x y H Q ∨ rInA X.K x y H Q) :=
  (op_inD' hr).or ((op_inO hh ht hr).or (op_inA hr))
theorem op_notInG {k : Nat} {tab : Nat → Option MF} (hh : cl.hd = none) (ht : ∀ c mf, tab c = some mf → DunOk X cl k "__contains__" c mf) (hr : Room k X.A) : OpR X (compareOp .NotIn) (fun x y H Q => rDIn true x y H Q ∨ rInO X cl tab true x y H Q ∨ rNotInA X.K x y H Q) :=
  (op_notInD' hr).or ((op_notInO hh ht hr).or (op_notInA hr))

/-! ### len(d) -/
noncomputable def cLenG (tab : Nat → Option MF) : Store → List D → Option D := fun S ds => match ds with
  | [.ref i] => match dOf S i with
    | some kvs => some (.int kvs.length)
    | none => cLenA tab S ds
  | _ => cLenA tab S ds
def rDLen : List V → Hp → VK → Prop := fun xs H Q => ∃ a kws, xs = [.ref a] ∧ Rd H a (.dK kws) ∧ Q (.int kws.length) H
theorem call_lenD : CallR X (.builtin "len") rDLen := by
  intro pins s σ H xs us Q I r h
  obtain ⟨a, kws, rfl, h1, q⟩ := h
  cases r with
  | cons ru rn =>
    cases rn
    cases ru
    exact d_len I h1 fun t s' I' => ⟨.int kws.length, H, I', ⟨t, rfl⟩, q⟩
theorem cLenG_ok {tab : Nat → Option MF} : CallS X.K cl (fun xs H Q => rDLen xs H Q ∨ rLenO X cl tab xs H Q ∨ rLenA X.K xs H Q) (cLenG tab) := fun φ S G H xs ds z Q w h1 h3 k => by
  have other : cLenA tab S ds = some z → rDLen xs H Q ∨ rLenO X cl tab xs H Q ∨ rLenA X.K xs H Q := fun q => .inr (cLenA_ok φ S G H xs ds z Q w h1 q k)
  unfold cLenG at h3
  split at h3
  · rename_i i
    split at h3
    · rename_i kvs hd
      cases h3
      obtain ⟨y, rfl, hy⟩ := flat1 h1
      simp only [IsD] at hy
      obtain ⟨a, rfl, ha⟩ := hy
      obtain ⟨kws, h4, h5⟩ := dOf_ok w hd ha
      refine .inl ⟨a, kws, rfl, h4, ?_⟩
      rw [← ksD_len h5]
      exact k _ _ _ (Step.refl _ _ _) w _ (by simp only [IsD])
    · exact other h3
  · exact other h3
theorem call_lenG {k : Nat} {tab : Nat → Option MF} (hh : cl.hd = none) (ht : ∀ c mf, tab c = some mf → DunOk X cl k "__len__" c mf) (hr : Room (k + 1) X.A) : CallR X (.builtin "len") (fun xs H Q => rDLen xs H Q ∨ rLenO X cl tab xs H Q ∨ rLenA X.K xs H Q) :=
  call_lenD.or ((call_lenO hh ht hr).or call_lenA)
end

/-! ### d[k] -/
noncomputable def mIxG (tab : Nat → Option MF) (mo mk : M D) : M D := fun g S => match mo g S with
  | some (.ok (.ref i), S1) => match dOf S1 i with
    | some _ => match mk g S1 with
      | some (.ok d, S2) => match keyOf d, dOf S2 i with
        | some k, some kvs => (valD kvs k).map fun d => (.ok d, S2)
        | _, _ => none
      | some (.exc c fs, S2) => some (.exc c fs, S2)
      | none => none
    | none => mIxA tab mo mk g S
  | _ => mIxA tab mo mk g S
section
variable {X : Cx} {cl : Cl} {tk : WX → Prop} [T : Tk X tk]
theorem re_ixG {k : Nat} {tab : Nat → Option MF} {o b : Expr} {pos : Pos} {mo mk : M D} (ht : ∀ c mf, tab c = some mf → DunOk X cl k "__getitem__" c mf) (hr : Room (k + 1) X.A) (ho : RE X cl tk o mo) (hb : RE X cl tk b mk) (hs : PlainIx b := by exact fun _ _ => rfl)
    (hsl : ∀ x i, subscripted b true (.ref x) i = runValue (.builtin "lifetime.subscript" ⟨[.ref x, i], []⟩) := by intro _ _; with_unfolding_all rfl) (hn : NoSl b := by exact fun _ _ => rfl) : RE X cl tk (.Subscript o b pos) (mIxG tab mo mk) := by
  refine ⟨fun pins s σ H Q I ⟨φ, G, g, S, r, S', w, sl, e1, kq⟩ => ?_⟩
  have other : mIxA tab mo mk g S = some (r, S') → wpAny (model X.prog X.w) X.A (eval (.Subscript o b pos) X.env) (EP X pins σ Q) X.xe s := fun e => (re_ixA (T := T) ht hr ho hb hs hsl).run pins s σ H Q I ⟨φ, G, g, S, r, S', w, sl, e, kq⟩
  unfold mIxG at e1
  split at e1
  · rename_i i S1 q1
    split at e1
    · rename_i kvs0 q2
      refine (pe_dget (hu_of hr) ho hb hn).run pins s σ H Q I ⟨φ, G, g, S, _, _, w, sl, q1, fun φ1 G1 H1 st1 w1 v hv => ?_⟩
      have hv' := hv
      have k1 := kq.step T.ok st1
      have s1 := sl.step st1
      split at e1
      · rename_i d S2 q3
        refine ⟨φ1, G1, g, S1, _, _, w1, s1, q3, fun φ2 G2 H2 st2 w2 y hy => ?_⟩
        split at e1
        · rename_i ky kvs q4 q5
          simp only [IsD] at hv
          obtain ⟨a, rfl, ha⟩ := hv
          obtain ⟨kws, h3, h4⟩ := dOf_ok w2 q5 (pre_get st2.pre ha)
          rcases ksD_val (k := ky) h4 with ⟨e2, _⟩ | ⟨d', v, e2, e3, e4⟩
          · rw [e2] at e1; cases e1
          · rw [e2] at e1; cases e1
            exact ⟨a, v, rfl, .inl ⟨kws, ky, h3, keyOf_ok hy q4, e3.symm⟩, (k1.step T.ok st2).now w2 v e4⟩
        · cases e1
      · rename_i c fs S2 q3
        cases e1
        exact ⟨φ1, G1, g, S1, _, _, w1, s1, q3, k1⟩
      · cases e1
    · exact other e1
  · exact other e1

/-! ### o[k] = v -/
noncomputable def mSetG (tab : Nat → Option MF) (mo mk mv : M D) : MS := fun g S => match mv g S with
  | some (.ok d, S1) => match mo g S1 with
    | some (.ok (.ref i), S2) => match S2[i]? with
      | some (.dK _) => match mk g S2 with
        | some (.ok e, S3) => match keyOf e, S3[i]? with
          | some k, some (.dK kvs) => if szOk (kvs.length + 1) = true then some (.nx g, S3.set i (.dK (putKD kvs k d))) else none
          | _, _ => none
        | some (.exc c fs, S3) => some (.ex g c fs, S3)
        | none => none
      | some (.lst _) => match mk g S2 with
        | some (.ok (.int n), S3) => match S3[i]? with
          | some (.lst l) => (ixN l.length n).map fun j => (.nx g, S3.set i (.lst (l.set j d)))
          | _ => none
        | some (.exc c fs, S3) => some (.ex g c fs, S3)
        | _ => none
      | _ => mSetIx tab mo mk mv g S
    | _ => mSetIx tab mo mk mv g S
  | _ => mSetIx tab mo mk mv g S
theorem rs_setG {k : Nat} {tab : Nat → Option MF} {o i value : Expr} {pos pos' : Pos} {mo mk mv : M D} (ht : ∀ c mf, tab c = some mf → DunOk X cl k "__setitem__" c mf ∧ PySem.W.noSeq X.K (cl.at_ c) = true) (hr : Room k X.A) (ho : RE X cl tk o mo) (hi : RE X cl tk i mk) (hv : RE X cl tk value mv)
    (hs : swapsWith value (some (.Subscript o i pos')) pos.line X.env = pure false := by rfl)
    (ha : ∀ v, assign (.Subscript o i pos') X.env v = (do
      let ov ← holding [v] (eval o X.env)
      let iv ← holding [v, ov] (eval i X.env)
      standAt pos'
      holding [v, ov, iv] (setItem ov iv v)
      release [v, ov, iv] []) := by intro _; rfl)
    (hs2 : swapsWithSole [.Subscript o i pos'] value pos.line X.env = pure false := by rfl) (hw : swappedStores [.Subscript o i pos'] value X.env = pure none := by rfl)
    (h1 : (assignEach [.Subscript o i pos'] X.env).map (·.2) = [assign (.Subscript o i pos') X.env] := by rfl) : RS X cl tk (.Assign [.Subscript o i pos'] value pos) (mSetG tab mo mk mv) := by
  refine ⟨fun pins s σ H Dn I ⟨φ, G, g, S, out, S', w, sl, e, kq⟩ => ?_⟩
  have other : mSetIx tab mo mk mv g S = some (out, S') → wpAny (model X.prog X.w) X.A (exec (.Assign [.Subscript o i pos'] value pos) X.env) (SP X pins Dn) X.xe s := fun e => (rs_setIx (T := T) ht hr ho hi hv hs).run pins s σ H Dn I ⟨φ, G, g, S, out, S', w, sl, e, kq⟩
  unfold mSetG at e
  split at e
  · rename_i d S1 q1
    split at e
    · rename_i j S2 q2
      split at e
      · rename_i kvs0 q3
        refine (ps_dput (hu_of hr) ho hi hv hs).run pins s σ H Dn I ⟨φ, G, g, S, _, _, w, sl, q1, fun φ1 G1 H1 st1 w1 v hv => ?_⟩
        have s1 := sl.step st1
        have k1 := kq.step T.ok st1
        refine ⟨φ1, G1, g, S1, _, _, w1, s1, q2, fun φ2 G2 H2 st2 w2 x hx => ?_⟩
        have s2 := s1.step st2
        have k2 := k1.step T.ok st2
        simp only [IsD] at hx
        obtain ⟨a, rfl, ha⟩ := hx
        split at e
        · rename_i ke S3 q4
          refine ⟨φ2, G2, g, S2, _, _, w2, s2, q4, fun φ3 G3 H3 st3 w3 y hy => ?_⟩
          split at e
          · rename_i ky kvs q5 q6
            split at e
            · rename_i hz
              cases e
              have ha3 := pre_get st3.pre ha
              obtain ⟨kws, n1, n2⟩ := w3.ok _ _ _ q6 ha3
              refine ⟨a, _, rfl, .inl ⟨kws, ky, n1, keyOf_ok hy q5, by rw [← ksD_len n2]; have := szOk_le hz; omega, rfl⟩, ?_⟩
              have st4 := write_step w3 ha3 (.dK (putK kws ky v))
              have w4 := write_wd (c := .dK (putKD kvs ky d)) w3 q6 rfl ha3 ⟨_, upd_same, ksD_put (hv.mono (st2.trans st3).pre (st2.trans st3).ex) n2⟩
              exact k2 _ _ _ (st3.trans st4) w4 _ (s2.step (st3.trans st4))
            · cases e
          · cases e
        · rename_i c fs S3 q4
          cases e
          exact ⟨φ2, G2, g, S2, _, _, w2, s2, q4, k2⟩
        · cases e
      · rename_i l0 q3
        refine (ps_asg hv (pg_sub ho hi set_list ha) hs2 hw h1).run pins s σ H Dn I ⟨φ, G, g, S, _, _, w, sl, q1, fun φ1 G1 H1 st1 w1 v hv => ?_⟩
        have s1 := sl.step st1
        have k1 := kq.step T.ok st1
        refine ⟨φ1, G1, g, S1, _, _, w1, s1, q2, fun φ2 G2 H2 st2 w2 x hx => ?_⟩
        have s2 := s1.step st2
        have k2 := k1.step T.ok st2
        simp only [IsD] at hx
        obtain ⟨a, rfl, ha⟩ := hx
        split at e
        · rename_i n S3 q4
          refine ⟨φ2, G2, g, S2, _, _, w2, s2, q4, fun φ3 G3 H3 st3 w3 y hy => ?_⟩
          split at e
          · rename_i l q6
            cases hj : ixN l.length n with
            | none => rw [hj] at e; cases e
            | some jj =>
              rw [hj] at e
              cases e
              simp only [IsD] at hy
              subst hy
              have ha3 := pre_get st3.pre ha
              obtain ⟨vs, n1, n2⟩ := w3.ok _ _ _ q6 ha3
              refine ⟨a, vs, n, jj, rfl, rfl, n1, by rw [← n2.length]; exact hj, ?_⟩
              have st4 := write_step w3 ha3 (.lst (vs.set jj v))
              have w4 := write_wd (c := .lst (l.set jj d)) w3 q6 rfl ha3 ⟨_, upd_same, n2.set (hv.mono (st2.trans st3).pre (st2.trans st3).ex) jj⟩
              exact k2 _ _ _ (st3.trans st4) w4 _ (s2.step (st3.trans st4))
          · cases e
        · rename_i c fs S3 q4
          cases e
          exact ⟨φ2, G2, g, S2, _, _, w2, s2, q4, k2⟩
        · cases e
      · exact other e
    · exact other e
  · exact other e
end
end Mi
namespace Mi
open PySem L2
/-! ### a dict is locked while a statement runs -/
def mLock (lk : Gm → Store → Option Nat) (m : MS) : MS := fun g S => match lk g S with
  | none => m g S
  | some i => match S[i]? with
    | some (.dK kvs) => match m g (S.set i (.dF kvs)) with
      | some (.ex g1 c fs, S') => some (.ex g1 c fs, S')
      | some (o, S') => match S'[i]? with
        | some (.dF kvs') => some (o, S'.set i (.dK kvs'))
        | _ => none
      | none => none
    | _ => none
def mLockE (lk : Gm → Store → Option Nat) (m : M D) : M D := fun g S => match lk g S with
  | none => m g S
  | some i => match S[i]? with
    | some (.dK kvs) => match m g (S.set i (.dF kvs)) with
      | some (.exc c fs, S') => some (.exc c fs, S')
      | some (.ok d, S') => match S'[i]? with
        | some (.dF kvs') => some (.ok d, S'.set i (.dK kvs'))
        | _ => none
      | none => none
    | _ => none
section
variable {K : PySem.W.Frag} {cl : Cl} {φ : List Addr} {G H : Hp} {S : Store}
theorem lock_on (w : Wd K cl φ S G H) {i : Nat} {a : Addr} {kvs : List (Key × D)} (hS : S[i]? = some (.dK kvs)) (hi : φ[i]? = some a) : ∃ kws, H a = some (.dK kws) ∧ G a = none ∧
    ∀ od, Step φ G H φ (upd G a (.frz od (.dK kws))) (upd H a (.frz od (.dK kws))) ∧ Wd K cl φ (S.set i (.dF kvs)) (upd G a (.frz od (.dK kws))) (upd H a (.frz od (.dK kws))) := by
  obtain ⟨kws, h1, h2⟩ := w.ok _ _ _ hS hi
  have g0 : G a = none := w.ap i _ a hS hi rfl
  refine ⟨kws, h1, g0, fun od => ?_⟩
  have ex : Ex G (upd G a (.frz od (.dK kws))) := Ex.new g0
  refine ⟨⟨List.prefix_refl _, ex, fun x h => ?_, fun x o h hx => ?_, fun x h => .inl h⟩, ⟨by rw [List.length_set]; exact w.len, fun x o h => ?_, w.nd, fun x hx => ?_, fun j c x q1 q2 q3 => ?_, fun j c x q1 q2 => ?_, cl.mono _ _ ex w.iv⟩⟩
  · by_cases e : x = a
    · subst e; exact .inr (.inr (List.mem_of_getElem? hi))
    · rw [upd_ne e] at h; exact .inl h
  · have ne : x ≠ a := fun z => hx (by rw [z]; exact List.mem_of_getElem? hi)
    rw [upd_ne ne]; exact h
  · by_cases e : x = a
    · subst e; rw [upd_same] at h ⊢; exact h
    · rw [upd_ne e] at h ⊢; exact w.sub x o h
  · by_cases e : x = a
    · subst e; rw [upd_same]; simp
    · rw [upd_ne e]; exact w.tr x hx
  · rcases set_get q1 with ⟨rfl, rfl⟩ | ⟨ne, q1⟩
    · cases q3
    · have nx : x ≠ a := fun z => ne (nodup_at w.nd q2 (by rw [z]; exact hi))
      rw [upd_ne nx]; exact w.ap j c x q1 q2 q3
  · rcases set_get q1 with ⟨rfl, rfl⟩ | ⟨ne, q1⟩
    · rw [hi] at q2; cases q2
      exact ⟨od, kws, upd_same, h2.mono (List.prefix_refl _) ex⟩
    · have nx : x ≠ a := fun z => ne (nodup_at w.nd q2 (by rw [z]; exact hi))
      exact (w.ok j c x q1 q2).mono (List.prefix_refl _) ex fun o h => by rw [upd_ne nx]; exact h
theorem CellOk.unf {a x : Addr} {od : Obj} {kws : List (Key × V)} {c : Cell} (hG : G a = some (.frz od (.dK kws))) (ne : x ≠ a) (h : CellOk K cl φ G H x c) : CellOk K cl φ (del G a) (upd H a (.dK kws)) x c := by
  cases c with
  | lst ds => obtain ⟨vs, h1, h2⟩ := h; exact ⟨vs, by rw [upd_ne ne]; exact h1, h2.unf hG⟩
  | dK ds => obtain ⟨vs, h1, h2⟩ := h; exact ⟨vs, by rw [upd_ne ne]; exact h1, h2.unf hG⟩
  | dF ds => obtain ⟨o, vs, h1, h2⟩ := h; exact ⟨o, vs, by rw [del_ne ne]; exact h1, h2.unf hG⟩
  | ins c fs => obtain ⟨dx, vs, h1, h2⟩ := h; exact ⟨dx, vs, by rw [upd_ne ne]; exact h1, h2.unf hG⟩
  | dead => trivial
theorem lock_off {φ' : List Addr} {G' H' : Hp} {S' : Store} {i : Nat} {a : Addr} {od : Obj} {kws : List (Key × V)} {kvs' : List (Key × D)} (g0 : G a = none) (hi : φ[i]? = some a) (hH : H a ≠ none)
    (st : Step φ (upd G a (.frz od (.dK kws))) (upd H a (.frz od (.dK kws))) φ' G' H') (w : Wd K cl φ' S' G' H') (hS : S'[i]? = some (.dF kvs')) :
    H' a = some (.frz od (.dK kws)) ∧ G' a = some (.frz od (.dK kws)) ∧ Step φ G H φ' (del G' a) (upd H' a (.dK kws)) ∧ Wd K cl φ' (S'.set i (.dK kvs')) (del G' a) (upd H' a (.dK kws)) := by
  have hG : G' a = some (.frz od (.dK kws)) := st.ex _ _ upd_same
  have hi' := pre_get st.pre hi
  refine ⟨w.sub _ _ hG, hG, ⟨st.pre, fun x o h => ?_, fun x h => ?_, fun x o h hx => ?_, fun x h => ?_⟩, ⟨by rw [List.length_set]; exact w.len, fun x o h => ?_, w.nd, fun x hx => ?_, fun j c x q1 q2 q3 => ?_, fun j c x q1 q2 => ?_, cl.unf _ _ _ _ hG w.iv⟩⟩
  · have ne : x ≠ a := fun z => by rw [z, g0] at h; cases h
    rw [del_ne ne]; exact st.ex _ _ (by rw [upd_ne ne]; exact h)
  · have ne : x ≠ a := fun z => by subst z; exact h del_same
    rw [del_ne ne] at h
    rcases st.gn x h with h | h | h
    · rw [upd_ne ne] at h; exact .inl h
    · rw [upd_ne ne] at h; exact .inr (.inl h)
    · exact .inr (.inr h)
  · have ne : x ≠ a := fun z => hx (by rw [z]; exact List.mem_of_getElem? hi)
    rw [upd_ne ne]; exact st.keep x o (by rw [upd_ne ne]; exact h) hx
  · rcases st.new x h with h | h
    · exact .inl h
    · by_cases e : x = a
      · subst e; rw [upd_same] at h; cases h
      · rw [upd_ne e] at h; exact .inr h
  · have ne : x ≠ a := fun z => by subst z; rw [del_same] at h; cases h
    rw [del_ne ne] at h; rw [upd_ne ne]; exact w.sub x o h
  · by_cases e : x = a
    · subst e; rw [upd_same]; simp
    · rw [upd_ne e]; exact w.tr x hx
  · rcases set_get q1 with ⟨rfl, rfl⟩ | ⟨ne, q1⟩
    · rw [hi'] at q2; cases q2; exact del_same
    · have nx : x ≠ a := fun z => ne (nodup_at w.nd q2 (by rw [z]; exact hi'))
      rw [del_ne nx]; exact w.ap j c x q1 q2 q3
  · rcases set_get q1 with ⟨rfl, rfl⟩ | ⟨ne, q1⟩
    · rw [hi'] at q2; cases q2
      obtain ⟨o2, kws2, e1, e2⟩ := w.ok _ _ _ hS hi'
      rw [hG] at e1; cases e1
      exact ⟨kws, upd_same, e2.unf hG⟩
    · have nx : x ≠ a := fun z => ne (nodup_at w.nd q2 (by rw [z]; exact hi'))
      exact (w.ok j c x q1 q2).unf hG nx
theorem Sl.unf {g : Gm} {σ : St} {a : Addr} {od : Obj} {kws : List (Key × V)} (s : Sl K cl φ G g σ) (hG : G a = some (.frz od (.dK kws))) : Sl K cl φ (del G a) g σ := ⟨s.len, fun i d h =>
  let ⟨v, h1, h2⟩ := s.at_ i d h
  ⟨v, h1, h2.unf hG⟩, s.hd⟩
theorem cell_at (w : Wd K cl φ S G H) {i : Nat} {c : Cell} (hS : S[i]? = some c) : ∃ a, φ[i]? = some a := by
  have hl : i < φ.length := by rw [w.len]; exact (List.getElem?_eq_some_iff.mp hS).1
  exact ⟨φ[i], List.getElem?_eq_getElem hl⟩
end
section
variable {X : Cx} {cl : Cl} {tk : WX → Prop} [T : Tk X tk]
theorem rs_lock {st : Stmt} {m : MS} (lk : Gm → Store → Option Nat) (h : RS X cl tk st m) : RS X cl tk st (mLock lk m) := by
  refine ⟨fun pins s σ H D I ⟨φ, G, g, S, o, S', w, sl, e, k⟩ => ?_⟩
  unfold mLock at e
  split at e
  · exact h.run pins s σ H D I ⟨φ, G, g, S, o, S', w, sl, e, k⟩
  · rename_i i _
    split at e
    · rename_i kvs hS
      obtain ⟨a, hi⟩ := cell_at w hS
      obtain ⟨kws, hH, g0, hl⟩ := lock_on w hS hi
      have hne : H a ≠ none := by rw [hH]; simp
      refine (ps_lock h).run pins s σ H D I ⟨a, .dK kws, hH, trivial, fun od => ?_⟩
      obtain ⟨st1, w1⟩ := hl od
      split at e
      · rename_i g1 c fs S2 q
        cases e
        exact ⟨φ, _, g, _, _, _, w1, sl.step st1, q, (show Kos X.K cl tk φ G H (.ex g1 c fs) S' D from k).step T.ok st1⟩
      · rename_i o2 S2 hnx q
        split at e
        · rename_i kvs' hS2
          cases e
          refine ⟨φ, _, g, _, o, S2, w1, sl.step st1, q, ?_⟩
          cases o with
          | ex g2 c fs => exact absurd rfl (hnx g2 c fs)
          | nx g2 => exact fun φ2 G2 H2 st2 w2 σ2 s2 => let ⟨z1, z2, z3, z4⟩ := lock_off g0 hi hne st2 w2 hS2; ⟨z1, k _ _ _ z3 z4 _ (s2.unf z2)⟩
          | bk g2 => exact fun φ2 G2 H2 st2 w2 σ2 s2 => let ⟨z1, z2, z3, z4⟩ := lock_off g0 hi hne st2 w2 hS2; ⟨z1, k _ _ _ z3 z4 _ (s2.unf z2)⟩
          | ct g2 => exact fun φ2 G2 H2 st2 w2 σ2 s2 => let ⟨z1, z2, z3, z4⟩ := lock_off g0 hi hne st2 w2 hS2; ⟨z1, k _ _ _ z3 z4 _ (s2.unf z2)⟩
          | rt d2 => exact fun φ2 G2 H2 st2 w2 v hv => let ⟨z1, z2, z3, z4⟩ := lock_off g0 hi hne st2 w2 hS2; ⟨z1, k _ _ _ z3 z4 _ (hv.unf z2)⟩
        · cases e
      · cases e
    · cases e
theorem re_lock {x : Expr} {m : M D} (lk : Gm → Store → Option Nat) (h : RE X cl tk x m) : RE X cl tk x (mLockE lk m) := by
  refine ⟨fun pins s σ H Q I ⟨φ, G, g, S, o, S', w, sl, e, k⟩ => ?_⟩
  unfold mLockE at e
  split at e
  · exact h.run pins s σ H Q I ⟨φ, G, g, S, o, S', w, sl, e, k⟩
  · rename_i i _
    split at e
    · rename_i kvs hS
      obtain ⟨a, hi⟩ := cell_at w hS
      obtain ⟨kws, hH, g0, hl⟩ := lock_on w hS hi
      have hne : H a ≠ none := by rw [hH]; simp
      refine (pe_lock h).run pins s σ H Q I ⟨a, .dK kws, hH, trivial, fun od => ?_⟩
      obtain ⟨st1, w1⟩ := hl od
      split at e
      · rename_i c fs S2 q
        cases e
        exact ⟨φ, _, g, _, _, _, w1, sl.step st1, q, (show Ko X.K cl tk φ G H g (.exc c fs) S' _ from k).step T.ok st1⟩
      · rename_i d S2 q
        split at e
        · rename_i kvs' hS2
          cases e
          exact ⟨φ, _, g, _, _, S2, w1, sl.step st1, q, fun φ2 G2 H2 st2 w2 v hv => let ⟨z1, z2, z3, z4⟩ := lock_off g0 hi hne st2 w2 hS2; ⟨z1, k _ _ _ z3 z4 _ (hv.unf z2)⟩⟩
        · cases e
      · cases e
    · cases e
end
end Mi
namespace Mi
open PySem L2
/-! ### a dict comprehension: a new cell, filled turn by turn -/
open Classical in
noncomputable def dcGo (n : Nat) (src : Src) (b : Bind) (mt : M Bool) (mk mv : M D) (g0 : Gm) : List D → Store → Option Store
  | [], S => if srcOk S src then some S else none
  | d :: ds, S => if srcOk S src then
      match b d g0 with
      | none => none
      | some g1 => match mt g1 S with
        | some (.ok true, S1) => match mk g1 S1 with
          | some (.ok y, S2) => match mv g1 S2 with
            | some (.ok z, S3) => match keyOf y, S3[n]? with
              | some k, some (.dK kvs) => if szOk (kvs.length + 1) = true then dcGo n src b mt mk mv g0 ds (S3.set n (.dK (putKD kvs k z))) else none
              | _, _ => none
            | _ => none
          | _ => none
        | some (.ok false, S1) => dcGo n src b mt mk mv g0 ds S1
        | _ => none
    else none
noncomputable def mDc (vs : List Nat) (mi : M Src) (b : Bind) (mt : M Bool) (mk mv : M D) : M D := mB mi fun src => fun g S =>
  match dcGo S.length src b mt mk mv (wipeG g vs) src.1 (S ++ [.dK []]) with
  | some S1 => some (.ok (.ref S.length), S1)
  | none => none
section
variable {X : Cx} {cl : Cl} {tk : WX → Prop} [T : Tk X tk]
theorem tDc_of (hh : cl.hd = none) {K : PySem.W.Frag} {vs : List Nat} {mi : M Src} {b : Bind} {mt : M Bool} {mk mv : M D} (ht : TkOk tk) {σ : L2.St} {H : Hp} {Q : VK}
    (h : tM K cl tk (mDc vs mi b mt mk mv) σ H Q) : tDc (tI K cl tk mi) (tGw K cl vs b) (tMT K cl (fun _ => False) mt) (tM K cl (fun _ => False) mk) (tM K cl (fun _ => False) mv) vs σ H Q := by
  obtain ⟨φ, G, g, S, r, S', w, s, e, k⟩ := h
  rcases mB_ok e with ⟨src, S1, e1, e2⟩ | ⟨c, fs, e1, rfl⟩
  · refine ⟨φ, G, g, S, _, _, w, s, e1, fun φ1 G1 H1 st1 w1 J wj A hA => ?_⟩
    obtain ⟨Gd, Y, wk, hG, hY⟩ := wj.ex
    have k1 := k.step ht st1
    have st0 := cell_step w1 hA (.dK [])
    have w0 := cell_wd (o := .dK []) (c := .dK []) w1 hA fun φ' G' H' _ _ h => ⟨[], h, rfl⟩
    have hA0 : (φ1 ++ [A])[S1.length]? = some A := by rw [← w1.len, List.getElem?_append_right (Nat.le_refl _)]; simp
    split at e2
    · rename_i S2 q
      cases e2
      refine ⟨fun i m H' => m = src.1.length - i ∧ i ≤ src.1.length ∧ ∃ φ' G' S2, Step φ1 G1 H1 φ' G' H' ∧ (φ1 ++ [A]) <+: φ' ∧ Wd K cl φ' S2 G' H' ∧ dcGo S1.length src b mt mk mv (wipeG g vs) (src.1.drop i) S2 = some S', ⟨_, rfl, Nat.zero_le _, _, G1, _, st0, List.prefix_refl _, w0, q⟩, ?_⟩
      rintro i m H' ⟨rfl, hle, φ', G', S2, st2, pre2, w2, e3⟩
      have hA2 := pre_get pre2 hA0
      cases hd : src.1.drop i with
      | nil =>
        have hi : i = src.1.length := by
          have := congrArg List.length hd
          simp at this; omega
        subst hi
        rw [hd] at e3
        unfold dcGo at e3
        split at e3
        · rename_i hok
          cases e3
          exact .inl ⟨wk.stops _ (hG _ _ _ _ st2 w2 hok), k1 _ _ _ st2 w2 _ (by simp only [IsD]; exact ⟨A, rfl, hA2⟩)⟩
        · cases e3
      | cons d ds =>
        obtain ⟨hd1, hd2, hlt⟩ := drop_get hd
        rw [hd] at e3
        unfold dcGo at e3
        split at e3
        · rename_i hok
          split at e3
          · cases e3
          · rename_i g1 hb1
            refine .inr ⟨wk.goes _ _ hlt (hG _ _ _ _ st2 w2 hok), fun H3 => ∃ φ3 G3 S3, Step φ1 G1 H1 φ3 G3 H3 ∧ (φ1 ++ [A]) <+: φ3 ∧ Wd K cl φ3 S3 G3 H3 ∧ dcGo S1.length src b mt mk mv (wipeG g vs) ds S3 = some S', fun H3 ⟨φ3, G3, S3, a1, a2, a3, a4⟩ => ⟨src.1.length - (i + 1), by omega, rfl, hlt, φ3, G3, S3, a1, a2, a3, by rw [hd2]; exact a4⟩, fun x H3 hy => ?_⟩
            obtain ⟨G3, st3, w3, hx⟩ := hY _ _ _ _ i d x H3 st2 w2 hok hd1 (wk.yields _ _ _ _ hlt (hG _ _ _ _ st2 w2 hok) hy)
            refine ⟨φ', G3, wipeG g vs, S2, d, g1, w3, sl_wipe hh (s.step (st1.trans (st2.trans st3))) vs, hx, hb1, fun σ4 s4 hw4 => ?_⟩
            refine ⟨?_, ?_⟩
            · rw [hw4]
              exact wipe_twice σ vs
            split at e3
            · rename_i S3 q3
              refine ⟨φ', G3, g1, S2, _, _, w3, s4, q3, fun φ4 G4 H4 st4 w4 => ?_⟩
              show (if true = true then _ else _)
              rw [if_pos rfl]
              split at e3
              · rename_i y S4 q4
                refine ⟨φ4, G4, g1, S3, _, _, w4, s4.step st4, q4, fun φ5 G5 H5 st5 w5 ky hky => ?_⟩
                split at e3
                · rename_i z S5 q5
                  refine ⟨φ5, G5, g1, S4, _, _, w5, (s4.step st4).step st5, q5, fun φ6 G6 H6 st6 w6 vz hvz => ?_⟩
                  split at e3
                  · rename_i kk kvs q6 q7
                    split at e3
                    · rename_i hz
                      have hA6 := pre_get st6.pre (pre_get st5.pre (pre_get st4.pre (pre_get st3.pre hA2)))
                      obtain ⟨kws, n1, n2⟩ := w6.ok _ _ _ q7 hA6
                      have st7 := write_step w6 hA6 (.dK (putK kws kk vz))
                      have w7 := write_wd (c := .dK (putKD kvs kk z)) w6 q7 rfl hA6 ⟨_, upd_same, ksD_put hvz n2⟩
                      exact ⟨kws, kk, keyOf_ok hky q6, n1, by rw [← ksD_len n2]; have := szOk_le hz; omega, φ6, G6, _, (((st2.trans st3).trans st4).trans (st5.trans st6)).trans st7, pre2.trans (st3.pre.trans (st4.pre.trans (st5.pre.trans st6.pre))), w7, e3⟩
                    · cases e3
                  · cases e3
                · cases e3
              · cases e3
            · rename_i S3 q3
              refine ⟨φ', G3, g1, S2, _, _, w3, s4, q3, fun φ4 G4 H4 st4 w4 => ?_⟩
              show (if false = true then _ else _)
              rw [if_neg Bool.false_ne_true]
              exact ⟨φ4, G4, S3, (st2.trans st3).trans st4, pre2.trans (st3.pre.trans st4.pre), w4, e3⟩
            · cases e3
        · cases e3
    · cases e2
  · exact ⟨φ, G, g, S, _, _, w, s, e1, k⟩
theorem re_dc {kx vx tg iter : Expr} {ifs : List Expr} {scope : Scope} {own : List (Str × Nat)} {pos : Pos} {mi : M Src} {b : Bind} {mt : M Bool} {mk mv : M D} (hN : X.N.Nodup) (hi : RI X cl tk tg iter mi) (ok : BlkOk X.N X.env.scope scope own)
    (hg : ∀ (s : Shared) (H : Hp) (C : Addr) (cc : List (Str × Addr)) (fp : List Addr), RGw (X.blk s H scope (compEnvC scope cc C X.env) fp) cl (own.map (·.2)) tg b)
    (ht : ∀ (s : Shared) (H : Hp) (C : Addr) (cc : List (Str × Addr)) (fp : List Addr), PTs (X.blk s H scope (compEnvC scope cc C X.env) fp) ifs (tMT X.K cl (fun _ => False) mt))
    (hk : ∀ (s : Shared) (H : Hp) (C : Addr) (cc : List (Str × Addr)) (fp : List Addr), RE (X.blk s H scope (compEnvC scope cc C X.env) fp) cl (fun _ => False) kx mk)
    (he : ∀ (s : Shared) (H : Hp) (C : Addr) (cc : List (Str × Addr)) (fp : List Addr), RE (X.blk s H scope (compEnvC scope cc C X.env) fp) cl (fun _ => False) vx mv) (hc : X.calm = true := by rfl) (hs : ∀ x, foldedSetIterable iter X.env x = pure x := by intro _; rfl) (hh : cl.hd = none := by rfl) :
    RE X cl tk (.DictComp kx vx [⟨tg, iter, ifs, 0⟩] scope pos) (mDc (own.map (·.2)) mi b mt mk mv) :=
  pe_imp (pe_dc hc hN hi ok hg ht hk he hs) fun _ _ _ h => tDc_of hh T.ok h
end
end Mi
namespace Mi
open PySem L2
/-! ### a walk over an instance whose __iter__ returns iter(self.f) -/
/-- an iterator over the keys of the locked dict at d, at its start -/
def KtO (o : Obj) (d it : Addr) (n : Nat) : HO := .ext fun h => ∃ es ep, o.data = .dict es ep ∧ h.IsKeyIter it d 0 n ep
theorem ktO_ok {P : Program} {w : World} {H : Hp} {h : Heap} {o : Obj} {d it : Addr} {n : Nat} {es : Array DictEntry} {ep : Nat} (e0 : o.data = .dict es ep) (e : h.IsKeyIter it d 0 n ep) : ObjOk P w H h it (KtO o d it n) :=
  ⟨⟨es, ep, e0, e⟩, let ⟨oi, e1, _⟩ := e; ⟨oi, e1⟩, fun h1 h2 ⟨es, ep, q0, q⟩ k => ⟨es, ep, q0, q.at fun oi e => k oi e⟩⟩
/-- iter(xs): xs a list or a locked dict; the iterator is younger than n -/
def rIterG (K : PySem.W.Frag) (n : Nat) : List V → Hp → VK → Prop := fun xs H Q => ∃ l, xs = [.ref l] ∧ ((∃ zs, SqL K H l zs ∧ ∀ it, H it = none → n ≤ it → Q (.ref it) (upd H it (ItO l it 0))) ∨
  ∃ o kws, H l = some (.frz o (.dK kws)) ∧ ∀ it, H it = none → n ≤ it → Q (.ref it) (upd H it (KtO o l it kws.length)))
open Builtin Builtin.ObjectAttr in
theorem call_iterG {X : Cx} : CallR X (.builtin "iter") (rIterG X.K X.s_0.heap.objs.size) := by
  intro pins s σ H xs us Q I r h
  obtain ⟨l, rfl, h⟩ := h
  rcases h with ⟨zs, h1, h2⟩ | ⟨o, kws, h1, h2⟩
  · exact ItX.call_iterN pins s σ H _ us Q I r ⟨l, zs, rfl, h1, h2⟩
  · cases r with
    | cons ru rn =>
      cases rn
      cases ru
      obtain ⟨hs, hgd, hx, es, ep, vs, hdt, hsz, kv, hm⟩ := I.frzK h1
      refine Calls.call_function_entry (by decide +kernel) (by decide +kernel) PySem.W.kdk_entry_iter (PySem.W.kdk_args_iter _) ?_
      unfold Builtin.«iter»
      refine wpAny_bind (m := someArgs "iter" 1 2 _) (wpAny_of_eq (a := [Value.ref l]) (by first | rfl | kernel_rfl!) ?_)
      show wpAny _ _ (pyIter (.ref l) >>= _) _ _ _
      refine wpAny_bind (iter_keys hs hgd hx hdt ?_)
      refine wpAny_pure ⟨_, rfl, .ref s.heap.objs.size, _, I.laid (t' := s.toks) (fun b u e => Heap.get?_push_of_some _ e) (Nat.le_refl _) (ktO_ok hdt ⟨_, Heap.get?_push_size _ rfl, rfl, ?_⟩), rfl, h2 _ (I.hok.fresh (Nat.le_refl _)) I.sz⟩
      rw [hsz] <;> rfl
/-- the class at C walks its field f -/
structure IterOk (P : Program) (w : World) (K : PySem.W.Frag) (mg : Str → Option Value) (base : Heap) (C : Addr) (f : Str) : Prop where
  cls : L2.Cls K C
  no : NoAttr K C f
  ex : ∃ fi fd st qual sf, PySem.W.findIn K (.ref C) "__iter__" = some (some (.ref fi)) ∧ PySem.W.isFn K (.ref fi) = true ∧ Fun K "__iter__" qual st fi fd ∧ FnScope [sf] [sf] (defScope st) ∧ L2.Binds K fd [sf] [] ∧
    ∀ cdv A outer s H E, PSs (cxOf (L2.CX P w) P w K mg base [sf] qual (defScope st) fi cdv A outer s H E) (defBody st) (tRet (tCB (rIterG K s.heap.objs.size) (tCons (tFld K (tVar 0) f) tNil)))
section
variable {X : Cx} {cl : Cl} {tk : WX → Prop} [T : Tk X tk]
/-- a call of a def, its body read for this entry -/
theorem run_at {x qual : Str} {st : Stmt} {f : Addr} {fd : FuncData} {N ps : List Str} {us : List Value} {vs : List V} {pins : List (Addr × Obj)} {σ : L2.St} {H : Hp} {s : Shared} {Q : VK} {k : Nat}
    (F : Fun X.K x qual st f fd) (S : FnScope N ps (defScope st)) (hb : L2.Binds X.K fd ps []) (hr : Room (k + 1) X.A) (I : Inv X pins σ H s) (r : Vals vs us) (hl : vs.length = ps.length)
    (hbody : ∀ cdv, ∃ t, PSs (cxOf (L2.CX X.prog X.w) X.prog X.w X.K X.mg X.base N qual (defScope st) f cdv X.A X.stack s H (fun _ _ _ => False)) (defBody st) t ∧ t { nx := fun _ H' => Q .non H', rt := Q } (start N vs) H) :
    wpAny (model X.prog X.w) X.A (call (.ref f) us) (EP X pins σ Q) X.xe s := by
  obtain ⟨z1, z2, z3, z4, z5, z6, cv, z7, z8, rfl, found, isC⟩ := F.ex
  have env := I.env0
  have stays : ∀ c u, X.base.get? c = some u → s.heap.get? c = some u := fun c u q => (env.bs c u q).1
  have kin : X.K.In s.heap := env.mod.kin.keeps stays
  have free := env.mod.nolimit.keeps stays
  have bound := hb s us I.kIn (by rw [List.append_nil, ← r.length]; exact hl)
  rw [List.append_nil] at bound
  have kinds : ∀ z ∈ ps.zip us, (defScope st).names.lookup z.1 = some .local ∨ ((defScope st).names.lookup z.1 = some .cell ∧ ((cellsFrom (s.heap.objs.size + 1) (defScope st).names []).lookup z.1).isSome = true) := fun z hz =>
    (S.par z.1 (List.of_mem_zip (a := z.1) (b := z.2) hz).1).imp id fun q => ⟨q, PySem.W.cellsFrom_some _ _ _ (.inl q)⟩
  refine wpAny_call (codeAny_call_function hr.depth (kin _ _ found) rfl S.co S.gen rfl (PySem.W.codeRec_of kin isC) (bound _ _ _ _ ?_))
  refine wpAny_newFunctionEnv_cells S.kind kinds fun frame hf s1 inCall => ?_
  subst hf
  obtain ⟨t, body, want⟩ := hbody cv
  have J := inv_start (CX := L2.CX X.prog X.w) (E := fun _ _ _ => False) S hr.hd env (vs := vs) hl r inCall
  refine ⟨free.keeps inCall.toInCall.keep, codeAny_func (wpAny_mono (body.run [] s1 (start N vs) H _ J want) (fun way t2 w => ?_) fun e t2 w => wpAny_mono w (fun _ _ z => (cx_never z).elim) fun _ _ z => (cx_never z).elim)⟩
  cases way with
  | ret u =>
    obtain ⟨v, σ2, H2, J2, rv, q⟩ := w
    exact I.after ⟨v, H2, J2.os, J2.bare, J2.base, J2.hok, rv, q⟩
  | next =>
    obtain ⟨σ2, H2, J2, q⟩ := w
    exact I.after ⟨.non, H2, J2.os, J2.bare, J2.base, J2.hok, rfl, q⟩
  | brk => obtain ⟨_, _, _, q⟩ := w; exact q.elim
  | cont => obtain ⟨_, _, _, q⟩ := w; exact q.elim
theorem owit_ty {M : Model} {A : Around} {E : Value → Shared → Prop} {s : Shared} {Q : Value → Shared → Prop} {it v : Value} {ty : String} (hT : s.TypeIs it ty) (hl : typeLookup (.type ty) "__next__" = pure (some v)) (h : Q it s) : PySem.W.OwitIt M A Q E it s := by
  unfold PySem.W.OwitIt
  exact wpAny_specialOf (name := Str.ofString "__next__") hT hl h
def keysD (kvs : List (Key × D)) : List D := kvs.map fun kv => keyD kv.1
/-- what is walked: an instance of the table, a locked dict, or as before -/
def mIO (tab : Nat → Option Str) (m : M D) : M Src := fun g S => match m g S with
  | some (.ok (.ref i), S1) => match S1[i]? with
    | some (.dF kvs) => some (.ok (keysD kvs, none), S1)
    | some (.ins c fs) => match tab c with
      | some f => match fs.lookup f with
        | some (.lst l) => some (.ok (l, none), S1)
        | some (.ref j) => match S1[j]? with
          | some (.lst l) => some (.ok (l, some (j, l)), S1)
          | some (.dF kvs) => some (.ok (keysD kvs, none), S1)
          | _ => none
        | _ => none
      | none => none
    | _ => mI m g S
  | _ => mI m g S
theorem walk_lstD {K : PySem.W.Frag} {φ : List Addr} {G H : Hp} {a' : Addr} {xs : List V} {l : List D} (h1 : G a' = some (.lst xs)) (h2 : IsDs K φ G l xs) : WalkD K cl (Itl K a') φ G H (l, none) :=
  walk_at (Gd := fun H => SqL K H a' xs) (Y := YAt xs) (by show Walk _ l.length _ _; rw [h2.length]; exact walk_list) (fun φ' S' G' H' st w' _ => SqL.of (w'.sub _ _ (st.ex _ _ h1))) fun φ' S' G' H' i d x H2 st w' _ hd ⟨y1, y2⟩ => ⟨y1, by
    obtain ⟨v, h3, h4⟩ := h2.get hd
    rw [y2] at h3; cases h3
    exact h4.mono st.pre st.ex⟩
theorem walk_cellD {K : PySem.W.Frag} {φ : List Addr} {S : Store} {G H : Hp} {a' : Addr} {j : Nat} {l : List D} (w : Wd K cl φ S G H) (hi : S[j]? = some (.lst l)) (h1 : φ[j]? = some a') : (∃ xs, SqL K H a' xs) ∧ WalkD K cl (Itl K a') φ G H (l, some (j, l)) := by
  obtain ⟨vs, h3, h4⟩ := w.ok _ _ _ hi h1
  refine ⟨⟨vs, SqL.of h3⟩, fun H => ∃ ws, SqL K H a' ws ∧ ws.length = l.length, fun n H x H' => H' = H ∧ ∀ ws, SqL K H a' ws → ws[n]? = some x, ⟨fun n H hn ⟨ws, q1, q2⟩ => ⟨ws, ws[n], q1, by simp [q2, hn]⟩, fun H ⟨ws, q1, q2⟩ => ⟨ws, q1, by show ws.length ≤ l.length; omega⟩, fun n H x H' hn ⟨ws, q1, q2⟩ y => y⟩, fun φ' S' G' H' st w' ok => ?_, fun φ' S' G' H' n d x H2 st w' ok hd ⟨y1, y2⟩ => ?_⟩
  · obtain ⟨us, q1, q2⟩ := w'.ok _ _ _ ok (pre_get st.pre h1)
    exact ⟨us, SqL.of q1, by rw [← q2.length]⟩
  · subst y1
    obtain ⟨us, q1, q2⟩ := w'.ok _ _ _ ok (pre_get st.pre h1)
    obtain ⟨v, h5, h6⟩ := q2.get hd
    rw [y2 us (SqL.of q1)] at h5; cases h5
    exact ⟨G', Step.refl _ _ _, w', h6⟩
theorem keysD_get {K : PySem.W.Frag} {φ : List Addr} {G : Hp} {kvs : List (Key × D)} {kws : List (Key × V)} (h : KsD K φ G kvs kws) {i : Nat} {d : D} {k : Key} {v : V} (hd : (keysD kvs)[i]? = some d) (hk : kws[i]? = some (k, v)) : d = keyD k := by
  obtain ⟨z, e, _⟩ := ksD_get h hk
  unfold keysD at hd
  rw [List.getElem?_map, e] at hd
  cases hd
  rfl
theorem walk_frzD {K : PySem.W.Frag} {φ : List Addr} {G H : Hp} {a' : Addr} {o : Obj} {kws : List (Key × V)} {kvs : List (Key × D)} (h1 : G a' = some (.frz o (.dK kws))) (h2 : KsD K φ G kvs kws) : WalkD K cl (Itk a' o kws) φ G H (keysD kvs, none) := by
  have hl : (keysD kvs).length = kws.length := by unfold keysD; rw [List.length_map, ksD_len h2]
  refine ⟨fun H => H a' = some (.frz o (.dK kws)), fun i H x H' => H' = H ∧ ∃ k v, kws[i]? = some (k, v) ∧ x = kV k, ⟨fun n H hn q => ⟨q, by rw [← hl]; exact hn⟩, fun H q => ⟨q, by rw [← hl]; exact Nat.le_refl _⟩, fun n H x H' hn q y => y⟩, fun φ' S' G' H' st w' _ => w'.sub _ _ (st.ex _ _ h1), fun φ' S' G' H' i d x H2 st w' _ hd ⟨y1, k, v, y2, y3⟩ => ?_⟩
  subst y1 y3
  have := keysD_get h2 hd y2
  subst this
  exact ⟨G', Step.refl _ _ _, w', keyD_ok⟩
theorem ri_own {tab : Nat → Option Str} {tg a : Expr} {m : M D} (ht : ∀ c f, tab c = some f → IterOk X.prog X.w X.K X.mg X.base (cl.at_ c) f) {k : Nat} (hr : Room (k + 1) X.A) (h : RE X cl tk a m) : RI X cl tk tg a (mIO tab m) := by
  refine ⟨fun pins s σ H R I q => ?_⟩
  obtain ⟨φ, G, g, S, r, S', w, sl, e, kk⟩ := q
  have other : mI m g S = some (r, S') → wpAny (model X.prog X.w) X.A (eval a X.env) (fun v s1 => wpAny (model X.prog X.w) X.A (pyIter v) (PIE X pins σ tg R) X.xe s1) X.xe s := fun e' =>
    (ri_any h).run pins s σ H R I ⟨φ, G, g, S, r, S', w, sl, e', kk⟩
  unfold mIO at e
  split at e
  · rename_i i S1 q1
    split at e
    · rename_i kvs q2
      cases e
      refine (pi_keys h).run pins s σ H R I ⟨φ, G, g, S, _, _, w, sl, q1, fun φ1 G1 H1 st1 w1 v hv => ?_⟩
      simp only [IsD] at hv
      obtain ⟨a', rfl, ha⟩ := hv
      obtain ⟨o, kws, h1, h2⟩ := w1.ok _ _ _ q2 ha
      exact ⟨a', o, rfl, .inl ⟨kws, w1.sub _ _ h1, kk φ1 G1 H1 st1 w1 _ (walk_frzD h1 h2)⟩⟩
    · rename_i c fs q2
      split at e
      · rename_i f q3
        have OK := ht c f q3
        obtain ⟨fi, fd, st, qual, sf, n1, n2, F, SC, hb, body⟩ := OK.ex
        refine thn (h.run pins s σ H (fun x H1 => ∃ φ1 G1 a', x = .ref a' ∧ φ1[i]? = some a' ∧ Step φ G H φ1 G1 H1 ∧ Wd X.K cl φ1 S1 G1 H1) I ⟨φ, G, g, S, _, _, w, sl, q1, fun φ1 G1 H1 st w1 v hv => ?_⟩) fun u s1 ⟨x, H1, I1, rx, φ1, G1, a', ex, ea, st1, w1⟩ => ?_
        · simp only [IsD] at hv
          obtain ⟨a', rfl, ha⟩ := hv
          exact ⟨φ1, G1, a', rfl, ha, st, w1⟩
        subst ex
        have eu : u = Value.ref a' := rx
        subst eu
        obtain ⟨dx, fv, p1, p2⟩ := w1.ok _ _ _ q2 ea
        obtain ⟨mA, O, _⟩ := ins_get I1.hok p1
        obtain ⟨od, ho', _⟩ := lookIn_ns O.ns
        obtain ⟨m', Fm⟩ := I1.fr
        have J : PySem.W.InstAt s1.heap a' (PySem.W.instObj (cl.at_ c) dx) (cl.at_ c) (some od) := ⟨O.obj, rfl, rfl, ho'⟩
        have k1 := kk.step T.ok st1
        -- over a list
        have onList : ∀ (l : Addr) (src : Src), fv.lookup f = some (.ref l) → (∃ xs, SqL X.K H1 l xs) → WalkD X.K cl (Itl X.K l) φ1 G1 H1 src → R (Itl X.K l) H1 → wpAny (model X.prog X.w) X.A (pyIter (.ref a')) (PIE X pins σ tg R) X.xe s1 := fun l src e1 ⟨xs, e2⟩ wk hR => by
          refine PySem.W.owit_iter Fm I1.ok.mod.kin J n1 n2 (thn (run_at (k := k) (Q := fun v H' => ∃ it, v = .ref it ∧ H1 it = none ∧ s1.heap.objs.size ≤ it ∧ H' = upd H1 it (ItO l it 0)) F SC hb hr I1 (vs := [V.ref a']) (.cons rfl .nil) rfl fun cdv => ⟨_, body _ _ _ _ _ _, ?_⟩) fun v s2 ⟨x, H2, I2, rx, it, ex, hn, hy, eH⟩ => ?_)
          · exact ⟨.ref a', rfl, a', _, dx, fv, _, rfl, p1, OK.cls, OK.no, e1, l, rfl, .inl ⟨xs, e2, fun it h1 h2 => ⟨it, rfl, h1, h2, rfl⟩⟩⟩
          · subst ex eH
            have eu : v = Value.ref it := rx
            subst eu
            have hi : upd H1 it (ItO l it 0) it = some (ItO l it 0) := upd_same
            have eo := itO_get I2 hi
            have hd : ItX.dropH (upd H1 it (ItO l it 0)) it = H1 := ItX.dropH_upd hn
            have hi' := hi
            unfold ItO at hi'
            refine owit_ty (ty := "list_iterator") ⟨_, eo, rfl⟩ PySem.slot_listiter_next.lookup ⟨it, [it], _, _, H1, rfl, by rw [← hd]; exact ItX.inv_drop I2 hi', turn_list l it, ⟨_, eo, rfl, rfl⟩, fun b hb => ?_, hR⟩
            have e : b = it := by simpa using hb
            have z := ItX.inv_fp I2 hi (Nat.le_trans I1.sz hy)
            rw [hd] at z
            rw [e]
            exact z
        -- over a locked dict
        have onDict : ∀ (l : Addr) (o : Obj) (kws : List (Key × V)), fv.lookup f = some (.ref l) → H1 l = some (.frz o (.dK kws)) → R (Itk l o kws) H1 → wpAny (model X.prog X.w) X.A (pyIter (.ref a')) (PIE X pins σ tg R) X.xe s1 := fun l o kws e1 e2 hR => by
          refine PySem.W.owit_iter Fm I1.ok.mod.kin J n1 n2 (thn (run_at (k := k) (Q := fun v H' => ∃ it, v = .ref it ∧ H1 it = none ∧ s1.heap.objs.size ≤ it ∧ H' = upd H1 it (KtO o l it kws.length)) F SC hb hr I1 (vs := [V.ref a']) (.cons rfl .nil) rfl fun cdv => ⟨_, body _ _ _ _ _ _, ?_⟩) fun v s2 ⟨x, H2, I2, rx, it, ex, hn, hy, eH⟩ => ?_)
          · exact ⟨.ref a', rfl, a', _, dx, fv, _, rfl, p1, OK.cls, OK.no, e1, l, rfl, .inr ⟨o, kws, e2, fun it h1 h2 => ⟨it, rfl, h1, h2, rfl⟩⟩⟩
          · subst ex eH
            have eu : v = Value.ref it := rx
            subst eu
            have hi : upd H1 it (KtO o l it kws.length) it = some (KtO o l it kws.length) := upd_same
            obtain ⟨es, ep, e5, e6⟩ := (I2.hok it _ hi).1
            have hd : ItX.dropH (upd H1 it (KtO o l it kws.length)) it = H1 := ItX.dropH_upd hn
            have hi' := hi
            unfold KtO at hi'
            refine owit_ty (ty := "dict_keyiterator") e6.typeIs PySem.F.slot_dict_keyiterator_next.lookup ⟨it, [it], _, _, H1, rfl, by rw [← hd]; exact ItX.inv_drop I2 hi', turn_keys it e5, e6, fun b hb => ?_, hR⟩
            have e : b = it := by simpa using hb
            have z := ItX.inv_fp I2 hi (Nat.le_trans I1.sz hy)
            rw [hd] at z
            rw [e]
            exact z
        split at e
        · rename_i l q4
          cases e
          obtain ⟨v, e1, e2⟩ := fsD_get p2 q4
          simp only [IsD] at e2
          obtain ⟨b, xs, rfl, h1, h2⟩ := e2
          have wk := walk_lstD (cl := cl) (H := H1) h1 h2
          exact onList b _ e1 ⟨xs, SqL.of (w1.sub _ _ h1)⟩ wk (k1.now w1 _ wk)
        · rename_i j q4
          obtain ⟨v, e1, e2⟩ := fsD_get p2 q4
          simp only [IsD] at e2
          obtain ⟨b, rfl, hb'⟩ := e2
          split at e
          · rename_i l q5
            cases e
            obtain ⟨z1, wk⟩ := walk_cellD w1 q5 hb'
            exact onList b _ e1 z1 wk (k1.now w1 _ wk)
          · rename_i kvs q5
            cases e
            obtain ⟨o, kws, h1, h2⟩ := w1.ok _ _ _ q5 hb'
            exact onDict b o kws e1 (w1.sub _ _ h1) (k1.now w1 _ (walk_frzD h1 h2))
          · cases e
        · cases e
      · cases e
    · exact other e
  · exact other e
end
/-- which dict a walk over m locks -/
def lkO (tab : Nat → Option Str) (m : M D) : Gm → Store → Option Nat := fun g S => match m g S with
  | some (.ok (.ref i), _) => match S[i]? with
    | some (.dK _) => some i
    | some (.ins c fs) => match tab c with
      | some f => match fs.lookup f with
        | some (.ref j) => match S[j]? with
          | some (.dK _) => some j
          | _ => none
        | _ => none
      | none => none
    | _ => none
  | _ => none
end Mi
namespace Mi
open PySem L2 PySem.Spec PyProof.Rows
/-! ### a try with any number of clauses, each with or without a name -/
/-- an error that has come down into the frame of X: the state without it is one of X's -/
structure Cau (X : Cx) (pins : List (Addr × Obj)) (σ : L2.St) (H : Hp) (cls : Value) (d : Option Addr) (a : Addr) (B : Heap) (z t : Shared) : Prop where
  inv : Inv X pins σ H z
  old : ∀ b o, z.heap.get? b = some o → b ∉ frs X.stack → B.get? b = some o
  up : z.heap.UpToSlots t.heap
  fly : HandSPX.FlyingZ B (X.env :: X.outer) a (Zc cls d) t.heap
  new : H a = none
  os : t.os = z.os
  bare : AllBare t.gens
section
variable {X : Cx} {pins : List (Addr × Obj)} {σ : L2.St} {H : Hp} {cls : Value} {d : Option Addr} {a : Addr} {B : Heap} {z t : Shared}
theorem Cau.here (c : Cau X pins σ H cls d a B z t) : Inv X pins σ H t := c.inv.landed c.old c.fly.1 c.up c.os c.bare
theorem Cau.move (c : Cau X pins σ H cls d a B z t) {h : Heap} (f : HandSPX.FlyingZ B (X.env :: X.outer) a (Zc cls d) h) (u : t.heap.UpToSlots h) : Cau X pins σ H cls d a B z { t with heap := h } := ⟨c.inv, c.old, c.up.trans u, f, c.new, c.os, c.bare⟩
theorem Cau.in_suite (hf : X.env.frame = some X.env.locals) (c : Cau X pins σ H cls d a B z t) : ∃ oe, t.heap.get? a = some oe ∧ Zc cls d oe ∧ (∃ vs, oe.data = .fields vs) ∧ Inv (X.suite a ((a, oe) :: (X.pn ++ pins))) [] σ H t := by
  obtain ⟨oe, vs, h1, h2, h3⟩ := c.fly.there
  have away : a ∉ frs (X.env :: X.outer) := fun m => by
    obtain ⟨_, o2, h4, h5⟩ := c.fly.2.2.1.mem m
    rw [h1] at h4
    cases h4
    exact h5 _ h3
  refine ⟨oe, h1, h2, ⟨vs, h3⟩, c.here.suite h1 h3 c.new (fun q => away ?_) fun m => away ?_⟩
  · exact List.mem_filterMap.mpr ⟨X.env, List.mem_cons_self, hf.trans (by rw [q])⟩
  · obtain ⟨e, h4, h5⟩ := List.mem_filterMap.mp m
    exact List.mem_filterMap.mpr ⟨e, List.mem_cons_of_mem _ h4, h5⟩
/-- no clause takes it -/
theorem Cau.pass (hs : X.stack = X.env :: X.outer) (hf : X.env.frame = some X.env.locals) (c : Cau X pins σ H cls d a B z t) {W : WX} {Q : Flow → Shared → Prop} (tk : Takes X W) (q : W cls d σ H) : wpAny (model X.prog X.w) X.A (handleBy (.ref a) X.env []) Q X.xe t := by
  obtain ⟨p1, p2, p3, oe, vs, T, oT, _, g1, g2, g3, g4, _⟩ := id c.fly
  have last : wpAny (model X.prog X.w) X.A (setFlight (.ref a) X.env.frame) (fun _ t' => wpAny (model X.prog X.w) X.A (throw (.ref a) : Sem Flow) Q X.xe t') X.xe t := by
    rw [hf]
    exact HandSPX.setFlight_upZ c.fly fun h hh u => wpAny_throw (tk _ _ ⟨a, B, z, pins, σ, H, cls, d, rfl, c.inv, c.old, c.up.trans u, .inr (.inr (by rw [hs]; exact hh)), c.new, c.os, c.bare, q⟩)
  refine wpAny_handleBy_nil ?_
  unfold PySem.passOn
  refine wpAny_bind (wpAny_field g1 g3 g4 ?_)
  rw [if_neg (by simp : ¬ ((Value.ref T == Value.none) = true))]
  first
    | exact wpAny_bind (wpAny_pure (wpAny_bind last))
    | exact wpAny_bind last
/-- one clause's class is asked -/
theorem Cau.ask (hf : X.env.frame = some X.env.locals) (c : Cau X pins σ H cls d a B z t) {x : Str} {cv : Value} {b : Bool} {name : Option Str} {b₀ : Stmt} {suite : List Stmt} {np pos : Pos} {rest : List ExceptHandler} {Q : Flow → Shared → Prop} (hc : Names X x cv) (hb : PySem.W.exmOne X.K cls cv = some b)
    (yes : b = true → codeAny (model X.prog X.w) (X.A.mark (some (.ref a))) (.handlers (.ref a) [.ExceptHandler none name (b₀ :: suite) pos] X.env) (fun r t2 => match r with
      | .ok f => (match name with
        | none => Q f t2
        | some n => wpAny (model X.prog X.w) X.A (do bindName X.env n .none; unbindBehindTheSuite X.env n pos) (fun _ t3 => Q f t3) X.xe t2)
      | .error e => cameBackBy (model X.prog X.w) X.A X.env X.xe e t2) t)
    (no : b = false → wpAny (model X.prog X.w) X.A (handleBy (.ref a) X.env rest) Q X.xe t) :
    wpAny (model X.prog X.w) X.A (handleBy (.ref a) X.env (.ExceptHandler (some (.Name x np)) name (b₀ :: suite) pos :: rest)) Q X.xe t := by
  obtain ⟨oe, g1, g2, _, S⟩ := c.in_suite hf
  have ty : PySem.W.Looks (model X.prog X.w) t.heap (typeOf (.ref a)) cls := fun A' Q' E' s' k q => wpAny_typeOf_ref (k _ _ g1) (by rw [g2.1]; exact q)
  have hit := PySem.W.exm_one (M := model X.prog X.w) c.here.kIn ty hb
  refine wpAny_handleBy_cons (codeAny_handlers_test ?_) (by intro q; cases q)
  have ev : ∀ {Q' : Value → Shared → Prop} {E' : Value → Shared → Prop}, Q' cv t → wpAny (model X.prog X.w) (X.A.mark (some (.ref a))) (eval (.Name x np) X.env) Q' E' t := fun {Q' E'} q => by
    obtain ⟨n1, n2, n3 | ⟨n3, n4, n5⟩⟩ := hc
    · exact ld_glob (X := X.suite a ((a, oe) :: (X.pn ++ pins))) S n1 n3 q n2
    · exact ld_blt (X := X.suite a ((a, oe) :: (X.pn ++ pins))) S n1 n3 n4 q n5 n2
  refine ev (hit.here ?_)
  cases b with
  | true => exact yes rfl
  | false => exact no rfl
end
/-- a clause: its class, its name's slot, its suite's reading -/
structure ClR where
  c : Value
  i : Option Nat
  ts : Addr → Value → Option Addr → TS
def endsI (i : Option Nat) (D : Ends) : Ends := match i with
  | none => D
  | some i => { nx := fun σ H => D.nx (σ.set i none) H, rt := D.rt, bk := fun σ H => D.bk (σ.set i none) H, ct := fun σ H => D.ct (σ.set i none) H }
def setI (i : Option Nat) (a : Addr) (σ : L2.St) : L2.St := match i with
  | none => σ
  | some i => σ.set i (some (.ref a))
def wCls (K : PySem.W.Frag) (Wout : WX) (D : Ends) : List ClR → WX
  | [] => Wout
  | z :: r => fun cls d σ H => ∃ b, PySem.W.exmOne K cls z.c = some b ∧ (b = true → ∀ a, H a = none → z.ts a cls d (endsI z.i D) (setI z.i a σ) H) ∧ (b = false → wCls K Wout D r cls d σ H)
inductive ClsOk (X : Cx) : List ExceptHandler → List ClR → Prop
  | nil : ClsOk X [] []
  | plain {x : Str} {z : ClR} {b₀ : Stmt} {suite : List Stmt} {np pos : Pos} {hds : List ExceptHandler} {l : List ClR} (hc : Names X x z.c) (hi : z.i = none)
      (hsu : ∀ (a : Addr) (oe : Obj) (cls : Value) (d : Option Addr) (pn : List (Addr × Obj)), Zc cls d oe → (∃ vs, oe.data = .fields vs) → PSs (X.suite a ((a, oe) :: pn)) (b₀ :: suite) (z.ts a cls d)) (r : ClsOk X hds l) :
      ClsOk X (.ExceptHandler (some (.Name x np)) none (b₀ :: suite) pos :: hds) (z :: l)
  | named {x n : Str} {z : ClR} {i : Nat} {b₀ : Stmt} {suite : List Stmt} {np pos : Pos} {hds : List ExceptHandler} {l : List ClR} (hc : Names X x z.c) (hi : z.i = some i) (hN : X.N[i]? = some n) (hl : X.env.kindOf n = some .local)
      (hsu : ∀ (a : Addr) (oe : Obj) (cls : Value) (d : Option Addr) (pn : List (Addr × Obj)), Zc cls d oe → (∃ vs, oe.data = .fields vs) → PSs (X.suite a ((a, oe) :: pn)) (b₀ :: suite) (z.ts a cls d)) (r : ClsOk X hds l) :
      ClsOk X (.ExceptHandler (some (.Name x np)) (some n) (b₀ :: suite) pos :: hds) (z :: l)
theorem run_cls {X : Cx} (hs : X.stack = X.env :: X.outer) (hf : X.env.frame = some X.env.locals) (hN : X.N.Nodup) {pins : List (Addr × Obj)} {σ : L2.St} {H : Hp} {cls : Value} {d : Option Addr} {a : Addr} {B : Heap} {z t : Shared} {Wout : WX} {D : Ends} (c : Cau X pins σ H cls d a B z t) (tk : Takes X Wout) :
    ∀ {hds : List ExceptHandler} {l : List ClR}, ClsOk X hds l → wCls X.K Wout D l cls d σ H → wpAny (model X.prog X.w) X.A (handleBy (.ref a) X.env hds) (SP X pins D) X.xe t := by
  intro hds l hk
  have ok := c.inv.ok
  induction hk with
  | nil => exact fun q => c.pass hs hf tk q
  | @plain x z b₀ suite np pos hds l hc hi hsu r ih =>
    rintro ⟨b, q1, q2, q3⟩
    refine c.ask hf hc q1 (fun hb => codeAny_handlers_suite (HandSPX.lands_againZ c.fly fun h f u => ?_)) fun hb => ih (q3 hb)
    have c2 := c.move f u
    obtain ⟨oe, g1, g2, g3, S⟩ := c2.in_suite hf
    have q := q2 hb a c.new
    rw [hi] at q
    refine wpAny_mono ((hsu a oe cls d (X.pn ++ pins) g2 g3).run [] _ _ H _ S q) (fun fl t2 w => ?_) (fun _ _ w => w.elim)
    cases fl with
    | next => obtain ⟨σ2, H2, S2, w⟩ := w; exact ⟨σ2, H2, S2.unsuite ok, w⟩
    | brk => obtain ⟨σ2, H2, S2, w⟩ := w; exact ⟨σ2, H2, S2.unsuite ok, w⟩
    | cont => obtain ⟨σ2, H2, S2, w⟩ := w; exact ⟨σ2, H2, S2.unsuite ok, w⟩
    | ret u => obtain ⟨v2, σ2, H2, S2, r2, w⟩ := w; exact ⟨v2, σ2, H2, S2.unsuite ok, r2, w⟩
  | @named x n z i b₀ suite np pos hds l hc hi hNi hl hsu r ih =>
    rintro ⟨b, q1, q2, q3⟩
    refine c.ask hf hc q1 (fun hb => codeAny_handlers_suite_as (HandSPX.lands_againZ c.fly fun h f u => ?_)) fun hb => ih (q3 hb)
    have c2 := c.move f u
    obtain ⟨oe, g1, g2, g3, S⟩ := c2.in_suite hf
    have q := q2 hb a c.new
    rw [hi] at q
    refine store_ok (X := X.suite a ((a, oe) :: (X.pn ++ pins))) (v := .ref a) S hN hNi (.inl hl) rfl (fun t1 S1 => ?_) (.inr hl)
    refine wpAny_mono ((hsu a oe cls d (X.pn ++ pins) g2 g3).run [] t1 _ H _ S1 q) (fun fl t2 w => ?_) (fun _ _ w => w.elim)
    have clear : ∀ {σ2 : L2.St} {H2 : Hp} {R : Shared → Prop}, Inv (X.suite a ((a, oe) :: (X.pn ++ pins))) [] σ2 H2 t2 → (∀ t3, Inv X pins (σ2.set i none) H2 t3 → R t3) →
        wpAny (model X.prog X.w) X.A (do bindName X.env n .none; unbindBehindTheSuite X.env n pos) (fun _ t3 => R t3) X.xe t2 := fun {σ2 H2 R} S2 k => gone_ok (S2.unsuite ok) hN hNi hl k
    cases fl with
    | next => obtain ⟨σ2, H2, S2, w⟩ := w; exact clear S2 fun t3 J => ⟨_, _, J, w⟩
    | brk => obtain ⟨σ2, H2, S2, w⟩ := w; exact clear S2 fun t3 J => ⟨_, _, J, w⟩
    | cont => obtain ⟨σ2, H2, S2, w⟩ := w; exact clear S2 fun t3 J => ⟨_, _, J, w⟩
    | ret u => obtain ⟨v2, σ2, H2, S2, r2, w⟩ := w; exact clear S2 fun t3 J => ⟨_, _, _, J, r2, w⟩
theorem ps_try_cls {X : Cx} {body : List Stmt} {h₀ : ExceptHandler} {hds : List ExceptHandler} {l : List ClR} {pos : Pos} {tb : WX → TS} {Wout : WX} (hs : X.stack = X.env :: X.outer) (hf : X.env.frame = some X.env.locals) (hN : X.N.Nodup) (tk : Takes X Wout)
    (hb : ∀ (W : WX) (pn : List (Addr × Obj)) (xe : Value → Shared → Prop), Takes (X.tr pn xe) W → PassesOwn (model X.prog X.w) X.A X.env xe → PSs (X.tr pn xe) body (tb W)) (hh : ClsOk X (h₀ :: hds) l) : PS X (.Try body (h₀ :: hds) [] [] pos) (fun D σ H => tb (wCls X.K Wout D l) D σ H) := by
  refine ⟨fun pins s σ H D I h => wpAny_Try_except ?_⟩
  have ok := I.ok
  have hfr : X.A.frames = some (X.env :: X.outer) := ok.frames.trans (by rw [hs])
  let xe : Value → Shared → Prop := fun e t1 => wpAny (model X.prog X.w) X.A (noteFrame e X.env) (fun _ t2 => wpAny (model X.prog X.w) X.A (setFlight e none) (fun _ t3 => wpAny (model X.prog X.w) X.A (handleBy e X.env (h₀ :: hds)) (SP X pins D) X.xe t3) X.xe t2) X.xe t1
  refine wpAny_mono ((hb (wCls X.K Wout D l) (X.pn ++ pins) xe (fun u t1 w => ?_) PassesOwn.looking).run [] s σ H D (I.toTry xe) h) (fun fl t1 w => ?_) fun e t1 w => w
  · obtain ⟨a, B, z, pins', σ', H', cls, d, rfl, J, old, up, sky, na, os, ag, w⟩ := w
    rw [show (X.tr (X.pn ++ pins) xe).stack = X.env :: X.outer from hs] at sky
    exact Sky.land Zc.steady hfr hf sky fun h fl u2 => run_cls hs hf hN (z := z) (t := { t1 with heap := h }) ⟨J.ofTry ok, old, up.trans u2, fl, na, os, ag⟩ tk hh w
  · cases fl with
    | next => obtain ⟨σ', H', J, q⟩ := w; exact wpAny_execs_nil ⟨σ', H', J.ofTry ok, q⟩
    | brk => obtain ⟨σ', H', J, q⟩ := w; exact ⟨σ', H', J.ofTry ok, q⟩
    | cont => obtain ⟨σ', H', J, q⟩ := w; exact ⟨σ', H', J.ofTry ok, q⟩
    | ret u => obtain ⟨v, σ', H', J, r, q⟩ := w; exact ⟨v, σ', H', J.ofTry ok, r, q⟩

/-! ### by data -/
structure ClM where
  tab : Nat → Option Bool
  i : Option Nat
  mh : Nat → List (Str × D) → MS
def gI (i : Option Nat) (g : Gm) : Gm := match i with
  | none => g
  | some i => g.set i none
def outI (i : Option Nat) : Out → Option Out
  | .nx g => some (.nx (gI i g))
  | .bk g => some (.bk (gI i g))
  | .ct g => some (.ct (gI i g))
  | .rt d => some (.rt d)
  | .ex _ _ _ => none
def mCls : List ClM → Nat → List (Str × D) → MS
  | [], c, fs => fun g S => some (.ex g c fs, S)
  | z :: r, c, fs => fun g S => match z.tab c with
    | some true => match z.mh c fs (gI z.i g) S with
      | some (o, S2) => (outI z.i o).map fun o' => (o', S2)
      | none => none
    | some false => mCls r c fs g S
    | none => none
def mTryN (mb : MS) (l : List ClM) : MS := fun g S => match mb g S with
  | some (.ex g1 c fs, S1) => mCls l c fs g1 S1
  | r => r
/-- a clause's mirror stands for its reading -/
def hdI (i : Option Nat) (a : Addr) : Option (Nat × Addr) := i.map fun i => (i, a)
def clR (X : Cx) (cl : Cl) (cv : Value) (z : ClM) : ClR := ⟨cv, z.i, fun a cls d D σ H => ∃ c fs, cls = .ref (cl.at_ c) ∧ z.tab c = some true ∧ tMS X.K (clE X.K cl fs d (hdI z.i a)) (fun _ => False) (z.mh c fs) D σ H⟩
inductive ClsMk (X : Cx) (cl : Cl) : List ExceptHandler → List ClM → List ClR → Prop
  | nil : ClsMk X cl [] [] []
  | plain {x : Str} {cv : Value} {tab : Nat → Option Bool} {mh : Nat → List (Str × D) → MS} {b₀ : Stmt} {suite : List Stmt} {np pos : Pos} {hds : List ExceptHandler} {l : List ClM} {lr : List ClR} (hc : Names X x cv) (hx : ∀ c b, tab c = some b → PySem.W.exmOne X.K (.ref (cl.at_ c)) cv = some b)
      (hS : ∀ (a : Addr) (oe : Obj) (c : Nat) (fs : List (Str × D)) (d : Option Addr) (pn : List (Addr × Obj)), tab c = some true → Zc (.ref (cl.at_ c)) d oe → (∃ vs, oe.data = .fields vs) → RSs (X.suite a ((a, oe) :: pn)) (clE X.K cl fs d none) (fun _ => False) (b₀ :: suite) (mh c fs)) (r : ClsMk X cl hds l lr) :
      ClsMk X cl (.ExceptHandler (some (.Name x np)) none (b₀ :: suite) pos :: hds) (⟨tab, none, mh⟩ :: l) (clR X cl cv ⟨tab, none, mh⟩ :: lr)
  | named {i : Nat} {x n : Str} {cv : Value} {tab : Nat → Option Bool} {mh : Nat → List (Str × D) → MS} {b₀ : Stmt} {suite : List Stmt} {np pos : Pos} {hds : List ExceptHandler} {l : List ClM} {lr : List ClR} (hc : Names X x cv) (hx : ∀ c b, tab c = some b → PySem.W.exmOne X.K (.ref (cl.at_ c)) cv = some b) (hN : X.N[i]? = some n) (hl : X.env.kindOf n = some .local)
      (hS : ∀ (a : Addr) (oe : Obj) (c : Nat) (fs : List (Str × D)) (d : Option Addr) (pn : List (Addr × Obj)), tab c = some true → Zc (.ref (cl.at_ c)) d oe → (∃ vs, oe.data = .fields vs) → RSs (X.suite a ((a, oe) :: pn)) (clE X.K cl fs d (some (i, a))) (fun _ => False) (b₀ :: suite) (mh c fs)) (r : ClsMk X cl hds l lr) :
      ClsMk X cl (.ExceptHandler (some (.Name x np)) (some n) (b₀ :: suite) pos :: hds) (⟨tab, some i, mh⟩ :: l) (clR X cl cv ⟨tab, some i, mh⟩ :: lr)
section
variable {X : Cx} {cl : Cl} {tk : WX → Prop} [T : Tk X tk]
theorem ClsMk.ok : ∀ {hds : List ExceptHandler} {l : List ClM} {lr : List ClR}, ClsMk X cl hds l lr → ClsOk X hds lr := by
  intro hds l lr h
  induction h with
  | nil => exact .nil
  | plain hc hx hS r ih => exact .plain hc rfl (fun a oe cls d pn hz hf => ⟨fun pins s σ H D I ⟨c, fs, ec, et, q⟩ => by subst ec; exact (hS a oe c fs d pn et hz hf).run pins s σ H D I q⟩) ih
  | named hc hx hN hl hS r ih => exact .named hc rfl hN hl (fun a oe cls d pn hz hf => ⟨fun pins s σ H D I ⟨c, fs, ec, et, q⟩ => by subst ec; exact (hS a oe c fs d pn et hz hf).run pins s σ H D I q⟩) ih
/-- one clause takes it: nothing is wished of what goes on -/
theorem cls_take (hh : cl.hd = none) : ∀ {hds : List ExceptHandler} {l : List ClM} {lr : List ClR}, ClsMk X cl hds l lr → ∀ {c : Nat} {fs : List (Str × D)} {g : Gm} {S S' : Store} {o : Out} {φ : List Addr} {G H : Hp} {D : Ends}, mCls l c fs g S = some (o, S') → (∀ g c fs, o ≠ .ex g c fs) → Kos X.K cl tk φ G H o S' D →
    ∀ d σ' H', wOf X.K cl φ G H g S c fs (.ref (cl.at_ c)) d σ' H' → wCls X.K (fun _ _ _ _ => False) D lr (.ref (cl.at_ c)) d σ' H' := by
  intro hds l lr h
  have go : ∀ (tab : Nat → Option Bool) (i : Option Nat) (mh : Nat → List (Str × D) → MS) (l : List ClM) (lr : List ClR) (cv : Value), (∀ c b, tab c = some b → PySem.W.exmOne X.K (.ref (cl.at_ c)) cv = some b) →
      (∀ {c : Nat} {fs : List (Str × D)} {g : Gm} {S S' : Store} {o : Out} {φ : List Addr} {G H : Hp} {D : Ends}, mCls l c fs g S = some (o, S') → (∀ g c fs, o ≠ .ex g c fs) → Kos X.K cl tk φ G H o S' D → ∀ d σ' H', wOf X.K cl φ G H g S c fs (.ref (cl.at_ c)) d σ' H' → wCls X.K (fun _ _ _ _ => False) D lr (.ref (cl.at_ c)) d σ' H') →
      ∀ {c : Nat} {fs : List (Str × D)} {g : Gm} {S S' : Store} {o : Out} {φ : List Addr} {G H : Hp} {D : Ends}, mCls (⟨tab, i, mh⟩ :: l) c fs g S = some (o, S') → (∀ g c fs, o ≠ .ex g c fs) → Kos X.K cl tk φ G H o S' D → ∀ d σ' H', wOf X.K cl φ G H g S c fs (.ref (cl.at_ c)) d σ' H' → wCls X.K (fun _ _ _ _ => False) D (clR X cl cv ⟨tab, i, mh⟩ :: lr) (.ref (cl.at_ c)) d σ' H' := by
    intro tab i mh l lr cv hx ih c fs g S S' o φ G H D e ho k d σ' H' hw
    simp only [mCls] at e
    split at e
    · rename_i et
      split at e
      · rename_i o2 S2 q2
        cases e2 : outI i o2 with
        | none => rw [e2] at e; cases e
        | some o' =>
          rw [e2] at e
          cases e
          obtain ⟨φ', G', ⟨st, w', ec, hfo⟩, sl'⟩ := hw
          refine ⟨true, hx c true et, fun _ a ha => ⟨c, fs, rfl, et, φ', G', gI i g, S, o2, S', w'.toE hfo, ?_, q2, ?_⟩, fun z => by cases z⟩
          · cases i with
            | none => exact sl'.toO
            | some i => exact sl'.toE
          · cases o2 with
            | nx g2 =>
              cases e2
              intro φ2 G2 H2 st2 w2 σ2 s2
              cases i with
              | none => exact k φ2 G2 H2 (st.trans st2) w2.ofE _ (s2.ofE hh)
              | some i => exact k φ2 G2 H2 (st.trans st2) w2.ofE _ ((s2.ofE hh).wipe hh)
            | bk g2 =>
              cases e2
              intro φ2 G2 H2 st2 w2 σ2 s2
              cases i with
              | none => exact k φ2 G2 H2 (st.trans st2) w2.ofE _ (s2.ofE hh)
              | some i => exact k φ2 G2 H2 (st.trans st2) w2.ofE _ ((s2.ofE hh).wipe hh)
            | ct g2 =>
              cases e2
              intro φ2 G2 H2 st2 w2 σ2 s2
              cases i with
              | none => exact k φ2 G2 H2 (st.trans st2) w2.ofE _ (s2.ofE hh)
              | some i => exact k φ2 G2 H2 (st.trans st2) w2.ofE _ ((s2.ofE hh).wipe hh)
            | rt d2 =>
              cases e2
              intro φ2 G2 H2 st2 w2 v hv
              cases i with
              | none => exact k φ2 G2 H2 (st.trans st2) w2.ofE v hv
              | some i => exact k φ2 G2 H2 (st.trans st2) w2.ofE v hv
            | ex g2 c2 fs2 => cases e2
      · cases e
    · rename_i et
      exact ⟨false, hx c false et, fun z => (by cases z), fun _ => ih e ho k d σ' H' hw⟩
    · cases e
  induction h with
  | nil => intro c fs g S S' o φ G H D e ho k; cases e; exact absurd rfl (ho g c fs)
  | plain hc hx hS r ih => exact go _ _ _ _ _ _ hx ih
  | named hc hx hN hl hS r ih => exact go _ _ _ _ _ _ hx ih
/-- no clause takes it -/
theorem cls_pass : ∀ {hds : List ExceptHandler} {l : List ClM} {lr : List ClR}, ClsMk X cl hds l lr → ∀ {c c2 : Nat} {fs fs2 : List (Str × D)} {g g2 : Gm} {S S' : Store} {D : Ends} {W : WX} {d : Option Addr} {σ' : L2.St} {H' : Hp}, mCls l c fs g S = some (.ex g2 c2 fs2, S') →
    (g2 = g ∧ c2 = c ∧ fs2 = fs ∧ S' = S) ∧ (W (.ref (cl.at_ c)) d σ' H' → wCls X.K W D lr (.ref (cl.at_ c)) d σ' H') := by
  intro hds l lr h
  have noEx : ∀ {i : Option Nat} {o : Out} {g : Gm} {c : Nat} {fs : List (Str × D)}, outI i o ≠ some (.ex g c fs) := fun {i o g c fs} z => by cases o <;> cases z
  have go : ∀ (tab : Nat → Option Bool) (i : Option Nat) (mh : Nat → List (Str × D) → MS) (l : List ClM) (lr : List ClR) (cv : Value), (∀ c b, tab c = some b → PySem.W.exmOne X.K (.ref (cl.at_ c)) cv = some b) →
      (∀ {c c2 : Nat} {fs fs2 : List (Str × D)} {g g2 : Gm} {S S' : Store} {D : Ends} {W : WX} {d : Option Addr} {σ' : L2.St} {H' : Hp}, mCls l c fs g S = some (.ex g2 c2 fs2, S') → (g2 = g ∧ c2 = c ∧ fs2 = fs ∧ S' = S) ∧ (W (.ref (cl.at_ c)) d σ' H' → wCls X.K W D lr (.ref (cl.at_ c)) d σ' H')) →
      ∀ {c c2 : Nat} {fs fs2 : List (Str × D)} {g g2 : Gm} {S S' : Store} {D : Ends} {W : WX} {d : Option Addr} {σ' : L2.St} {H' : Hp}, mCls (⟨tab, i, mh⟩ :: l) c fs g S = some (.ex g2 c2 fs2, S') → (g2 = g ∧ c2 = c ∧ fs2 = fs ∧ S' = S) ∧ (W (.ref (cl.at_ c)) d σ' H' → wCls X.K W D (clR X cl cv ⟨tab, i, mh⟩ :: lr) (.ref (cl.at_ c)) d σ' H') := by
    intro tab i mh l lr cv hx ih c c2 fs fs2 g g2 S S' D W d σ' H' e
    simp only [mCls] at e
    split at e
    · split at e
      · rename_i o2 S2 q2
        cases e2 : outI i o2 with
        | none => rw [e2] at e; cases e
        | some o' => rw [e2] at e; cases e; exact absurd e2 noEx
      · cases e
    · rename_i et
      obtain ⟨h1, h2⟩ := ih (D := D) (W := W) (d := d) (σ' := σ') (H' := H') e
      exact ⟨h1, fun w => ⟨false, hx c false et, fun z => (by cases z), fun _ => h2 w⟩⟩
    · cases e
  induction h with
  | nil => intro c c2 fs fs2 g g2 S S' D W d σ' H' e; cases e; exact ⟨⟨rfl, rfl, rfl, rfl⟩, fun w => w⟩
  | plain hc hx hS r ih => exact go _ _ _ _ _ _ hx ih
  | named hc hx hN hl hS r ih => exact go _ _ _ _ _ _ hx ih
theorem rs_tryN {body : List Stmt} {h₀ : ExceptHandler} {hds : List ExceptHandler} {pos : Pos} {mb : MS} {l : List ClM} {lr : List ClR} (hN : X.N.Nodup) (hk : ClsMk X cl (h₀ :: hds) l lr)
    (hb : ∀ (W : WX) (pn : List (Addr × Obj)) (xe : Value → Shared → Prop), Tk (X.tr pn xe) (leW W) → PassesOwn (model X.prog X.w) X.A X.env xe → RSs (X.tr pn xe) cl (leW W) body mb)
    (hs : X.stack = X.env :: X.outer := by rfl) (hf : X.env.frame = some X.env.locals := by rfl) (hh : cl.hd = none := by rfl) : RS X cl tk (.Try body (h₀ :: hds) [] [] pos) (mTryN mb l) := by
  refine ⟨fun pins s σ H D I ⟨φ, G, g, S, o, S', w, sl, e, k⟩ => ?_⟩
  have main : ∀ Wout : WX, Takes X Wout → tMS X.K cl (leW (wCls X.K Wout D lr)) mb D σ H → wpAny (model X.prog X.w) X.A (exec (.Try body (h₀ :: hds) [] [] pos) X.env) (SP X pins D) X.xe s := fun Wout tkW h =>
    (ps_try_cls (tb := fun W => tMS X.K cl (leW W) mb) (Wout := Wout) hs hf hN tkW (fun W pn xe t hp => hb W pn xe (tk_le t) hp) hk.ok).run pins s σ H D I h
  unfold mTryN at e
  split at e
  · rename_i g1 c fs S1 q
    by_cases ho : ∃ g2 c2 fs2, o = .ex g2 c2 fs2
    · obtain ⟨g2, c2, fs2, rfl⟩ := ho
      obtain ⟨⟨rfl, rfl, rfl, rfl⟩, _⟩ := cls_pass hk (D := D) (W := fun _ _ _ _ => False) (d := none) (σ' := σ) (H' := H) e
      refine main _ (T.tk _ k) ⟨φ, G, g, S, _, _, w, sl, q, ?_⟩
      intro cls dd σ' H' hw
      obtain ⟨φ', G', ⟨st, w', ec, hfo⟩, sl'⟩ := id hw
      subst ec
      exact (cls_pass hk e).2 hw
    · refine main (fun _ _ _ _ => False) takes0 ⟨φ, G, g, S, _, _, w, sl, q, ?_⟩
      intro cls dd σ' H' hw
      obtain ⟨φ', G', ⟨st, w', ec, hfo⟩, sl'⟩ := id hw
      subst ec
      exact cls_take hh hk e (fun g c fs z => ho ⟨g, c, fs, z⟩) k dd σ' H' hw
  · rename_i hn
    exact main (fun _ _ _ _ => False) takes0 ⟨φ, G, g, S, o, S', w, sl, e, kos_le k fun g c fs z => by subst z; exact hn g c fs S' e⟩
end
end Mi
namespace Mi
open PySem L2
/-! ### is True, is False -/
def fIsB : Store → D → D → Option D := fun _ d e => match d, e with
  | .bl a, .bl b => some (.bl (decide (a = b)))
  | _, _ => none
def fNotB : Store → D → D → Option D := fun _ d e => match d, e with
  | .bl a, .bl b => some (.bl (!decide (a = b)))
  | _, _ => none
section
variable {K : PySem.W.Frag} {cl : Cl}
theorem fIsB_rel : RelS K cl rIsB fIsB := fun φ S G H x y d e z Q w h1 h2 h3 => by
  unfold fIsB at h3
  split at h3
  · cases h3
    simp only [IsD] at h1 h2
    exact ⟨_, rfl, fun k => ⟨_, _, h1, h2, k⟩⟩
  · cases h3
theorem fNotB_rel : RelS K cl rNotB fNotB := fun φ S G H x y d e z Q w h1 h2 h3 => by
  unfold fNotB at h3
  split at h3
  · cases h3
    simp only [IsD] at h1 h2
    exact ⟨_, rfl, fun k => ⟨_, _, h1, h2, k⟩⟩
  · cases h3
end
section
variable {X : Cx} {cl : Cl} {tk : WX → Prop} [T : Tk X tk]
/-! ### a constant read off its class -/
structure ConC (K : PySem.W.Frag) (C : Addr) (f : Str) (v : V) : Prop where
  ex : ∃ mc u, PySem.W.readsIn K C mc = true ∧ PySem.W.findCls K (.ref C) mc f = some (.val u) ∧ PySem.W.handedIn u = true ∧ RelV v u
theorem re_clsC {x f : Str} {C : Addr} {v : V} {d : D} {p pos : Pos} (hm : X.mg x = some (.ref C)) (hc : ConC X.K C f v) (hd : ∀ φ G, IsD X.K φ G d v) (hg : Gl X x := by rfl) (hdb : (x == ("__debug__" : Str)) = false := by decide)
    (hb : attributeBase (.Name x p) f X.env (eval (.Name x p) X.env) = eval (.Name x p) X.env := by rfl) : RE X cl tk (.Attribute (.Name x p) f pos) (mP d) := by
  refine ⟨fun pins s σ H Q I ⟨φ, G, g, S, r, S', w, sl, e, k⟩ => ?_⟩
  cases e
  obtain ⟨mc, u, h1, h2, h3, h4⟩ := hc.ex
  exact attr_of hb (ld_glob I hg hm (PySem.W.cls_value I.kIn h1 h2 h3 ⟨v, H, I.tok _, h4, k.now w v (hd _ _)⟩) hdb)

/-! ### list(x) as a cell -/
noncomputable def mListC (m : M (List D)) : M D := mB m fun ds => fun _ S => match ds with
  | [d] => match asL S d with
    | some l => some (.ok (.ref S.length), S ++ [.lst l])
    | none => none
  | _ => none
theorem re_listC {p pos : Pos} {e : Expr} {m : M (List D)} (hm : X.mg "list" = none) (ha : RA X cl tk [e] m) (hg : Gl X "list" := by rfl)
    (he : starEach [e] X.env = (false, eval e X.env) :: starEach [] X.env := by rfl) (hpl : (backTo pos (starEach [] X.env)).any (·.1) = false := by rfl) : RE X cl tk (.Call (.Name "list" p) [e] [] pos) (mListC m) := by
  refine pe_imp (pe_callTy call_list_of hg hm PyProof.Rows.boot_list ha (by decide) (by decide) he hpl) fun σ H Q ⟨φ, G, g, S, r, S', w, s, e, k⟩ => ?_
  refine tMA_bind T.ok w s e k fun ds φ1 G1 H1 S1 xs st1 w1 s1 hxs e1 k1 => ?_
  split at e1
  · rename_i d
    split at e1
    · rename_i l q
      cases e1
      obtain ⟨v, r, rfl, hv, hr⟩ := hxs.cons_inv
      rw [hr.nil_inv]
      obtain ⟨a, ys, rfl, h1, h2⟩ := asL_sq w1 hv q
      exact ⟨a, ys, rfl, h1, fun p hp => k1 _ _ _ (cell_step w1 hp _) (cell_wd w1 hp fun φ' G' H' p1 p2 h3 => ⟨_, h3, h2.mono p1 p2⟩) _ (cell_ref w1.len)⟩
    · cases e1
  · cases e1

/-! ### a comprehension as a cell -/
noncomputable def mLcC (vs : List Nat) (mi : M Src) (b : Bind) (mt : M Bool) (me : M D) : M D := mB mi fun src => fun g S =>
  match lcGo src b mt me (wipeG g vs) src.1 [] S with
  | some (l, S1) => some (.ok (.ref S1.length), S1 ++ [.lst l])
  | none => none
theorem LcSt.cell {K : PySem.W.Frag} {φ1 : List Addr} {G1 H1 : Hp} {S : Store} {acc : List D} {L : Addr} {H : Hp} {φ : List Addr} {G : Hp} (hL : H1 L = none) (a : LcSt K cl φ1 G1 H1 S acc L H φ G) :
    Step φ1 G1 H1 (φ ++ [L]) G H ∧ Wd K cl (φ ++ [L]) (S ++ [.lst acc]) G H ∧ IsD K (φ ++ [L]) G (.ref S.length) (.ref L) := by
  obtain ⟨vs, h1, h2⟩ := a.at_
  have low : ∀ {i : Nat} {x : Addr}, (φ ++ [L])[i]? = some x → φ[i]? = some x ∨ (i = S.length ∧ x = L) := fun {i x} h => by
    by_cases hi : i < φ.length
    · rw [List.getElem?_append_left hi] at h; exact .inl h
    · rw [List.getElem?_append_right (by omega)] at h
      have hj := (List.getElem?_eq_some_iff.mp h).1
      simp at hj
      have e0 : i - φ.length = 0 := by omega
      rw [e0] at h
      simp at h
      exact .inr ⟨by rw [← a.w.len]; omega, h.symm⟩
  have cellAt : ∀ {i : Nat} {c : Cell}, (S ++ [Cell.lst acc])[i]? = some c → (S[i]? = some c) ∨ (i = S.length ∧ c = .lst acc) := fun {i c} h => by
    by_cases hi : i < S.length
    · rw [List.getElem?_append_left hi] at h; exact .inl h
    · rw [List.getElem?_append_right (by omega)] at h
      have hj := (List.getElem?_eq_some_iff.mp h).1
      simp at hj
      have e0 : i - S.length = 0 := by omega
      rw [e0] at h
      simp at h
      exact .inr ⟨by omega, h.symm⟩
  refine ⟨⟨a.st.pre.trans (List.prefix_append _ _), a.st.ex, a.st.gn, a.st.keep, fun x h => ?_⟩, ⟨by simp [a.w.len], a.w.sub, ?_, fun x h => ?_, fun i c x q1 q2 q3 => ?_, fun i c x q1 q2 => ?_, a.w.iv⟩, ?_⟩
  · rcases List.mem_append.mp h with h | h
    · exact a.st.new x h
    · rw [List.mem_singleton.mp h]; exact .inr hL
  · refine List.nodup_append.mpr ⟨a.w.nd, by simp, fun x hx y hy e => ?_⟩
    rw [List.mem_singleton.mp hy] at e
    exact a.nφ (by rw [← e]; exact hx)
  · rcases List.mem_append.mp h with h | h
    · exact a.w.tr x h
    · rw [List.mem_singleton.mp h, h1]; simp
  · rcases low q2 with h | ⟨rfl, rfl⟩
    · rcases cellAt q1 with h' | ⟨rfl, rfl⟩
      · exact a.w.ap i c x h' h q3
      · exact absurd (List.getElem?_eq_some_iff.mp h).1 (by rw [a.w.len]; omega)
    · exact a.g
  · rcases low q2 with h | ⟨rfl, rfl⟩
    · rcases cellAt q1 with h' | ⟨rfl, rfl⟩
      · exact (a.w.ok i c x h' h).mono (List.prefix_append _ _) (Ex.refl _) fun o z => z
      · exact absurd (List.getElem?_eq_some_iff.mp h).1 (by rw [a.w.len]; omega)
    · rcases cellAt q1 with h' | ⟨_, rfl⟩
      · exact absurd (List.getElem?_eq_some_iff.mp h').1 (by omega)
      · exact ⟨vs, h1, h2.mono (List.prefix_append _ _) (Ex.refl _)⟩
  · simp only [IsD]
    exact ⟨L, rfl, by rw [← a.w.len, List.getElem?_append_right (Nat.le_refl _)]; simp⟩
theorem tLcC_of (hh : cl.hd = none) {K : PySem.W.Frag} {vs : List Nat} {mi : M Src} {b : Bind} {mt : M Bool} {me : M D} (ht : TkOk tk) {σ : L2.St} {H : Hp} {Q : VK}
    (h : tM K cl tk (mLcC vs mi b mt me) σ H Q) : tLc (tI K cl tk mi) (tGw K cl vs b) (tMT K cl (fun _ => False) mt) (tM K cl (fun _ => False) me) vs σ H Q := by
  obtain ⟨φ, G, g, S, r, S', w, s, e, k⟩ := h
  rcases mB_ok e with ⟨src, S1, e1, e2⟩ | ⟨c, fs, e1, rfl⟩
  · split at e2
    · rename_i l S2 q
      cases e2
      refine tLc_core hh w s e1 q fun φ1 G1 H1 L φ' G' H' st1 hL a => ?_
      obtain ⟨h2, h3, h4⟩ := a.cell hL
      exact k _ _ _ (st1.trans h2) h3 _ h4
    · cases e2
  · exact ⟨φ, G, g, S, _, _, w, s, e1, k⟩
theorem re_lcC {elt tg iter : Expr} {ifs : List Expr} {scope : Scope} {own : List (Str × Nat)} {pos : Pos} {mi : M Src} {b : Bind} {mt : M Bool} {me : M D} (hN : X.N.Nodup) (hi : RI X cl tk tg iter mi) (ok : BlkOk X.N X.env.scope scope own)
    (hg : ∀ (s : Shared) (H : Hp) (C : Addr) (cc : List (Str × Addr)) (fp : List Addr), RGw (X.blk s H scope (compEnvC scope cc C X.env) fp) cl (own.map (·.2)) tg b)
    (ht : ∀ (s : Shared) (H : Hp) (C : Addr) (cc : List (Str × Addr)) (fp : List Addr), PTs (X.blk s H scope (compEnvC scope cc C X.env) fp) ifs (tMT X.K cl (fun _ => False) mt))
    (he : ∀ (s : Shared) (H : Hp) (C : Addr) (cc : List (Str × Addr)) (fp : List Addr), RE (X.blk s H scope (compEnvC scope cc C X.env) fp) cl (fun _ => False) elt me) (hc : X.calm = true := by rfl) (hs : ∀ x, foldedSetIterable iter X.env x = pure x := by intro _; rfl) (hh : cl.hd = none := by rfl) :
    RE X cl tk (.ListComp elt [⟨tg, iter, ifs, 0⟩] scope pos) (mLcC (own.map (·.2)) mi b mt me) :=
  pe_imp (pe_lc hc hN hi ok hg ht he hs) fun _ _ _ h => tLcC_of hh T.ok h
theorem rs_setLcC {i : Nat} {y : Str} {py : Pos} {elt tg iter : Expr} {ifs : List Expr} {scope : Scope} {own : List (Str × Nat)} {pos spos : Pos} {mi : M Src} {b : Bind} {mt : M Bool} {me : M D} (hN : X.N.Nodup) (hi : RI X cl tk tg iter mi) (ok : BlkOk X.N X.env.scope scope own)
    (hg : ∀ (s : Shared) (H : Hp) (C : Addr) (cc : List (Str × Addr)) (fp : List Addr), RGw (X.blk s H scope (compEnvC scope cc C X.env) fp) cl (own.map (·.2)) tg b)
    (ht : ∀ (s : Shared) (H : Hp) (C : Addr) (cc : List (Str × Addr)) (fp : List Addr), PTs (X.blk s H scope (compEnvC scope cc C X.env) fp) ifs (tMT X.K cl (fun _ => False) mt))
    (he : ∀ (s : Shared) (H : Hp) (C : Addr) (cc : List (Str × Addr)) (fp : List Addr), RE (X.blk s H scope (compEnvC scope cc C X.env) fp) cl (fun _ => False) elt me) (hsw : swapsWith (.ListComp elt [⟨tg, iter, ifs, 0⟩] scope pos) (some (.Name y py)) spos.line X.env = pure true)
    (hy : X.N[i]? = some y := by rfl) (hyl : X.env.scope.names.lookup y = some .local := by rfl) (hc : X.calm = true := by rfl) (hs : ∀ x, foldedSetIterable iter X.env x = pure x := by intro _; rfl) (hh : cl.hd = none := by rfl) :
    RS X cl tk (.Assign [.Name y py] (.ListComp elt [⟨tg, iter, ifs, 0⟩] scope pos) spos) (mSet i (mLcC (own.map (·.2)) mi b mt me)) := by
  refine ps_imp (ps_setLc (g := tGw X.K cl (own.map (·.2)) b) (te := tM X.K cl (fun _ => False) me) hc hN hy hyl hsw hi ok hg ht he hs) fun Dn σ H ⟨φ, G, g, S, o, S', w, s, e, k⟩ => ?_
  show tLc _ _ _ _ _ _ _ _
  refine tLcC_of hh T.ok ?_
  refine tM_stmt (f := fun d g S1 => some (.nx (g.set i (some d)), S1)) w s e k T.ok fun d φ1 G1 H1 S1 v st1 w1 s1 hv e1 k1 => ?_
  cases e1
  exact k1 φ1 G1 H1 (Step.refl _ _ _) w1 _ (s1.set hv)
end
end Mi
namespace Mi
open PySem L2
open L2H (RoomH roomH_of)
open PyProof.Rows (envOfC)
/-! ### a call of a plain def within an except suite: no loop, no raise in it -/
def cxC (P : Program) (w : World) (K : PySem.W.Frag) (mg : Str → Option Value) (base : Heap) (N : List Str) (qual : Str) (scope : Scope) (f : Addr) (cd : Value) (A : Around) (outer : List Env) (s : Shared) (H : Hp) (E : XK) : Cx :=
  { cxOf (L2.CX P w) P w K mg base N qual scope f cd A outer s H E with calm := false }
structure FnC (P : Program) (w : World) (K : PySem.W.Frag) (mg : Str → Option Value) (base : Heap) (k : Nat) (f : Addr) (fd : FuncData) (ps : List Str) (sp : Sp) : Prop where
  len : ∀ vs H Q E, sp vs H Q E → vs.length = ps.length
  run : ∀ (A : Around) (outer : List Env) (s : Shared) (H : Hp) (args : Args) (us : List Value) (vs : List V) (Q : VK), RoomH k A → Env0 P w K mg base A outer s H → BindsTo s fd args (ps.zip us) → Vals vs us → sp vs H Q (fun _ _ _ => False) →
    codeAny (model P w) A (.call (.ref f) args) (CR (L2.CX P w) outer P w H s Q (fun _ _ _ => False)) s
/-- what is promised where m gives a value -/
def spV (K : PySem.W.Frag) (cl : Cl) (m : MF) : Sp := fun vs H Q _ => ∃ φ G S ds d S', Wd K cl φ S G H ∧ IsDs K φ G ds vs ∧ m ds S = some (.ok d, S') ∧ ∀ φ' G' H', Step φ G H φ' G' H' → Wd K cl φ' S' G' H' → ∀ v, Mi.IsD K φ' G' d v → Q v H'
/-- the same place, nothing handled -/
def coldA (A : Around) : Around := { A with handled := none }
theorem fn_okC {P : Program} {w : World} {K : PySem.W.Frag} {mg : Str → Option Value} {base : Heap} {cl : Cl} {x qual : Str} {st : Stmt} {f : Addr} {fd : FuncData} {N ps : List Str} {k : Nat} {mb : MS} (hh : cl.hd = none) (F : Fun K x qual st f fd) (S : FnScope N ps (defScope st))
    (hb : ∀ (cdv : Value) (A : Around) (outer : List Env) (s : Shared) (H : Hp), RoomH k (A.deeper (envOfC qual (defScope st) s.heap.objs.size f cdv)) →
      RSs (cxC P w K mg base N qual (defScope st) f cdv A outer s H (fun _ _ _ => False)) cl (fun _ => False) (defBody st) mb) : FnC P w K mg base (k + 1) f fd ps (spV K cl (mFn N.length ps.length mb)) := by
  have lenOk : ∀ vs H Q E, spV K cl (mFn N.length ps.length mb) vs H Q E → vs.length = ps.length := fun vs H Q E h => by
    obtain ⟨φ, G, T, ds, d, T', w, hd, e, _⟩ := h
    unfold mFn at e
    split at e
    · rename_i hl; rw [← hd.length]; exact hl
    · cases e
  refine ⟨lenOk, fun A outer s H args us vs Q hr env bound rv h => ?_⟩
  have hl := lenOk _ _ _ _ h
  obtain ⟨z1, z2, z3, z4, z5, z6, cv, z7, z8, rfl, found, isC⟩ := F.ex
  have stays : ∀ c u, base.get? c = some u → s.heap.get? c = some u := fun c u q => (env.bs c u q).1
  have kin : K.In s.heap := env.mod.kin.keeps stays
  have free := env.mod.nolimit.keeps stays
  have kinds : ∀ z ∈ ps.zip us, (defScope st).names.lookup z.1 = some .local ∨ ((defScope st).names.lookup z.1 = some .cell ∧ ((cellsFrom (s.heap.objs.size + 1) (defScope st).names []).lookup z.1).isSome = true) := fun z hz =>
    (S.par z.1 (List.of_mem_zip (a := z.1) (b := z.2) hz).1).imp id fun q => ⟨q, PySem.W.cellsFrom_some _ _ _ (.inl q)⟩
  refine codeAny_call_function hr.depth (kin _ _ found) rfl S.co S.gen rfl (PySem.W.codeRec_of kin isC) (bound _ _ _ _ ?_)
  refine wpAny_newFunctionEnv_cells S.kind kinds fun frame hf s1 inCall => ?_
  subst hf
  have J0 := inv_start (CX := L2.CX P w) (A := coldA A) (E := fun _ _ _ => False) S rfl (⟨env.frames, env.mod, env.bs, env.bsz, env.funs, env.frf, env.hok, env.bare⟩ : Env0 P w K mg base (coldA A) outer s H) (vs := vs) hl rv inCall
  have o := J0.ok
  have J : Inv (cxC P w K mg base N qual (defScope st) f cv A outer s H (fun _ _ _ => False)) [] (L2.start N vs) H s1 :=
    ⟨⟨o.mod, o.kind, o.glob, o.blt, o.above, o.inj, o.has, o.cab, fun z => (by cases z), Around.frames_deeper env.frames, o.stk, o.exf, o.bs, o.bsz, o.noex, o.exfs, o.funs, o.frf⟩, J0.os, J0.bare, J0.base, J0.loc, J0.cell, J0.free, J0.freeC, J0.pin, J0.hok, J0.len⟩
  obtain ⟨φ, G, T, ds, d, T', wd, hd, e, kq⟩ := h
  refine ⟨free.keeps inCall.toInCall.keep, codeAny_func (wpAny_mono ((hb cv A outer s H (hr.deeper _)).run [] s1 (L2.start N vs) H { nx := fun _ H' => Q .non H', rt := Q } J ?_) (fun way t2 q => ?_) fun err t2 q => q)⟩
  · unfold mFn at e
    split at e
    · rename_i hl2
      have sl := sl_start (N := N) hh hd
      rw [← hd.length, hl2] at sl
      split at e
      · rename_i d S1 q
        cases e
        exact ⟨φ, G, _, T, _, _, wd, sl, q, fun φ' G' H' st' w' v hv => kq φ' G' H' st' w' v hv⟩
      · rename_i g' S1 q
        cases e
        exact ⟨φ, G, _, T, _, _, wd, sl, q, fun φ' G' H' st' w' _ _ => kq φ' G' H' st' w' _ (by simp only [Mi.IsD])⟩
      · cases e
      · cases e
    · cases e
  · cases way with
    | ret u => obtain ⟨v, σ2, H2, J2, r2, q⟩ := q; exact ⟨v, H2, J2.os, J2.bare, J2.base, J2.hok, r2, q⟩
    | next => obtain ⟨σ2, H2, J2, q⟩ := q; exact ⟨.non, H2, J2.os, J2.bare, J2.base, J2.hok, rfl, q⟩
    | brk => obtain ⟨_, _, _, q⟩ := q; exact q.elim
    | cont => obtain ⟨_, _, _, q⟩ := q; exact q.elim
section
variable {X : Cx} {cl : Cl} {a : Addr} {oe : Obj} {d : Option Addr} {pn : List (Addr × Obj)} {fs : List (Str × D)} {i : Nat}
theorem Wd.moreE {K : PySem.W.Frag} {φ φ' : List Addr} {G G' H H' : Hp} {S S' : Store} {hd : Option (Nat × Addr)} (w : Wd K (clE K cl fs d hd) φ S G H) (st : Step φ G H φ' G' H') (w' : Wd K cl φ' S' G' H') : Wd K (clE K cl fs d hd) φ' S' G' H' :=
  w'.toE (((clE K cl fs d hd).mono _ _ st.ex w.iv).2)
/-- f(e, ..) in a suite -/
def mCallH (mf : MF) (ma : M (List D)) : M D := fun g S => match ma g S with
  | some (.ok ds, S1) => match mf ds S1 with
    | some (.ok z, S2) => some (.ok z, S2)
    | _ => none
  | _ => none
theorem re_callH {hd : Option (Nat × Addr)} {k : Nat} {f : Addr} {fd : FuncData} {ps : List Str} {mf : MF} {x : Str} {p pos : Pos} {e : Expr} {es : List Expr} {ma : M (List D)} (F : FnC X.prog X.w X.K X.mg X.base k f fd ps (spV X.K cl mf)) (hr : RoomH k (X.suite a ((a, oe) :: pn)).A) (hm : X.mg x = some (.ref f)) (hk : PySem.W.keepIn X.K (.ref f) = true) (hb : L2.Binds X.K fd ps [])
    (ha : RA (X.suite a ((a, oe) :: pn)) (clE X.K cl fs d hd) (fun _ => False) (e :: es) ma) (hg : Gl X x := by rfl) (hdb : (x == ("__debug__" : Str)) = false := by decide)
    (he : starEach (e :: es) X.env = (false, eval e X.env) :: starEach es X.env := by rfl) (hpl : (backTo pos (starEach es X.env)).any (·.1) = false := by rfl) :
    RE (X.suite a ((a, oe) :: pn)) (clE X.K cl fs d hd) (fun _ => False) (.Call (.Name x p) (e :: es) [] pos) (mCallH mf ma) := by
  refine ⟨fun pins s σ H Q I ⟨φ, G, g, S, r, S', w, sl, e1, kq⟩ => ?_⟩
  unfold mCallH at e1
  split at e1
  · rename_i ds S1 q1
    split at e1
    · rename_i z S2 q2
      cases e1
      refine wpAny_Call_Name_kw (ld_glob (X := X.suite a ((a, oe) :: pn)) I hg hm ?_ hdb)
      refine PySem.W.callWith_K (h₀ := X.base) I.ok.mod.kin hk (thn (ha.run pos pins s σ H (fun vs H1 => ∃ φ1 G1, Step φ G H φ1 G1 H1 ∧ Wd X.K (clE X.K cl fs d hd) φ1 S1 G1 H1 ∧ IsDs X.K φ1 G1 ds vs) I ⟨φ, G, g, S, _, _, w, sl, q1, fun φ1 G1 H1 st w1 vs hv => ⟨φ1, G1, st, w1, hv⟩⟩) fun us s1 ⟨vs, H1, I1, rv, φ1, G1, st, w1, hv⟩ => ⟨I1.kIn, ?_⟩) he hpl
      have sp : spV X.K cl mf vs H1 Q (fun _ _ _ => False) := ⟨φ1, G1, S1, ds, z, _, w1.ofE, hv, q2, fun φ2 G2 H2 st2 w2 v hv2 => kq φ2 G2 H2 (st.trans st2) (w1.moreE st2 w2) v hv2⟩
      have hl := F.len _ _ _ _ sp
      have bound := hb s1 us I1.kIn (by rw [List.append_nil, ← rv.length]; exact hl)
      rw [List.append_nil] at bound
      refine wpAny_call (codeAny_mono (F.run (X.suite a ((a, oe) :: pn)).A X.stack s1 H1 ⟨us, []⟩ us vs Q hr I1.env0 bound rv sp) fun r2 s2 hq => ?_)
      cases r2 with
      | error er => exact (cx_never hq).elim
      | ok way =>
        cases way with
        | ret u => exact I1.after hq
        | next => exact hq.elim
        | brk => exact hq.elim
        | cont => exact hq.elim
    · cases e1
  · cases e1
end
section
variable {X : Cx} {cl : Cl} {tk : WX → Prop} [T : Tk X tk]
/-- not run here -/
def mNoE : M D := fun _ _ => none
theorem re_noE {e : Expr} : RE X cl tk e mNoE := ⟨fun pins s σ H Q I ⟨φ, G, g, S, r, S', w, sl, e, k⟩ => by cases e⟩
theorem op_eqU (hu : X.A.units + 64 < cLine) : OpR X (compareOp .Eq) (rEqA X.K) := op_eq.or (op_eqD hu)
theorem op_neU (hu : X.A.units + 64 < cLine) : OpR X (compareOp .NotEq) (rNeA X.K) := op_ne.or (op_neD hu)
theorem unitsH {k : Nat} {A : Around} (h : RoomH k A) : A.units + 64 < cLine := by have := h.un; omega
theorem roomS {k : Nat} {A : Around} {v : Option Value} (h : Room k A) : RoomH k (A.mark v) := ⟨h.dp, h.un⟩
end
end Mi
namespace Mi
open PySem L2
open PyProof.Rows (envOfC)
/-! ### defaults and keywords -/
/-- n values and the keywords ks, then the defaults dd that fill up -/
structure KB (K : PySem.W.Frag) (fd : FuncData) (ps : List Str) (n : Nat) (ks : List Str) (dd : List D) : Prop where
  ex : ∃ (g : List Value → List Value → List Value) (dv : List V), L2.KBn K fd ps n ks g (fun vs zs => vs ++ (zs ++ dv)) ∧ ∀ φ G, IsDs K φ G dd dv
section
variable {K : PySem.W.Frag} {x qual : Str} {params : Arguments} {body : List Stmt} {scope : Scope} {dvs : List V} {kws : List (Str × V)} {f : Addr} {fd : FuncData} {ps : List Str}
theorem kb_of (F : FunD K x qual params body scope dvs kws f fd) (n : Nat) (ks : List Str) (j : Nat) (dd : List D) (hd : dvs ≠ []) (hdd : ∀ φ G, IsDs K φ G dd (dvs.drop j))
    (h : ∀ (T : Addr) (kV doc pm : Value) (an : Option Addr) (cdv ct : Value) (us its ws : List Value), us.length = n → its.length = dvs.length → ws.length = ks.length →
      ∃ k, bindArgs (PySem.W.fnOf x qual params body scope (.ref T) kV doc pm an cdv ct) ⟨us, ks.zip ws⟩ = seqItems? (.ref T) >>= k ∧ k (some its.toArray) = pure (ps.zip (us ++ (ws ++ its.drop j)))) : KB K fd ps n ks dd := by
  obtain ⟨its, hb⟩ := F.kbindsD n ks (fun us its ws => us ++ (ws ++ its.drop j)) hd (fun h1 h2 h3 => h1.append (h3.append (h2.drop j))) h
  exact ⟨_, dvs.drop j, hb, hdd⟩
/-- THE RULE for a def with defaults -/
theorem fn_okD {P : Program} {w : World} {mg : Str → Option Value} {base : Heap} {cl : Cl} {st : Stmt} {N : List Str} {k : Nat} {mb : MS}
    (hh : cl.hd = none) (F : FunD K x qual (defArgs st) (defBody st) (defScope st) dvs kws f fd) (S : FnScope N ps (defScope st))
    (hb : ∀ (cdv : Value) (A : Around) (outer : List Env) (s : Shared) (H : Hp) (E : XK), Room k (A.deeper (envOfC qual (defScope st) s.heap.objs.size f cdv)) →
      RSs (cxOf (L2.CX P w) P w K mg base N qual (defScope st) f cdv A outer s H E) cl (Takes (cxOf (L2.CX P w) P w K mg base N qual (defScope st) f cdv A outer s H E)) (defBody st) mb) :
    FnOk P w K mg base (L2.CX P w) (k + 1) f fd ps (spM K cl (mFn N.length ps.length mb)) := by
  refine F.ok S (fun vs H Q E h => ?_) (fun cdv A outer s H vs Q E hr h => ⟨_, hb cdv A outer s H E hr, ?_⟩)
  · obtain ⟨φ, G, S, ds, r, S', w, hd, e, _⟩ := h
    unfold mFn at e
    split at e
    · rename_i hl; rw [← hd.length]; exact hl
    · cases e
  · obtain ⟨φ, G, S, ds, r, S', w, hd, e, k⟩ := h
    unfold mFn at e
    split at e
    · rename_i hl
      have sl := sl_start (N := N) hh hd
      rw [← hd.length, hl] at sl
      split at e
      · rename_i d S1 q
        cases e
        exact ⟨φ, G, _, S, _, _, w, sl, q, fun φ' G' H' st w' v hv => k φ' G' H' st w' v hv⟩
      · rename_i d S1 q
        cases e
        exact ⟨φ, G, _, S, _, _, w, sl, q, fun φ' G' H' st w' v hv => k φ' G' H' st w' _ (by simp only [Mi.IsD])⟩
      · rename_i c fs S1 q
        cases e
        refine ⟨φ, G, _, S, _, _, w, sl, q, ?_⟩
        exact Takes.imp (takes_of (E := E) rfl rfl rfl rfl) fun cls d σ H' ⟨φ', G', hw, _⟩ => k cls d φ' G' H' hw
      · cases e
    · cases e
end
section
variable {X : Cx} {cl : Cl} {tk : WX → Prop} [T : Tk X tk]
abbrev RK (X : Cx) (cl : Cl) (tk : WX → Prop) (a : List Keyword) (m : M (List D)) : Prop := PK X a (tMA X.K cl tk m)
theorem pk_imp {X : Cx} {a : List Keyword} {t t' : TA} (h : PK X a t) (i : ∀ σ H Q, t' σ H Q → t σ H Q) : PK X a t' := ⟨fun p pins s σ H Q I q => h.run p pins s σ H Q I (i σ H Q q)⟩
theorem rk_nil : RK X cl tk [] mNil := by
  refine pk_imp pk_nil fun σ H Q ⟨φ, G, g, S, r, S', w, s, e, k⟩ => ?_
  cases e
  exact k.now w _ .nil
theorem rk_cons {a : Expr} {es : List Keyword} {m : M D} {n : M (List D)} {nm : Option Str} {kpos : Pos} (ha : RE X cl tk a m) (hr : RK X cl tk es n) : RK X cl tk (⟨nm, a, kpos⟩ :: es) (mCons m n) := by
  refine pk_imp (pk_cons ha hr) fun σ H Q ⟨φ, G, g, S, r, S', w, s, e, k⟩ => ?_
  refine tM_bind T.ok w s e k fun d φ1 G1 H1 S1 x st1 w1 s1 hx e1 k1 => ?_
  refine tMA_bind T.ok w1 s1 e1 k1 fun ds φ2 G2 H2 S2 xs st2 w2 s2 hxs e2 k2 => ?_
  cases e2
  exact k2.now w2 _ (.cons (hx.mono st2.pre st2.ex) hxs)
/-- a call by values, with keywords and defaults, at a place A' of the same frames -/
theorem run_fnB {A' : Around} (hA : A'.frames = X.A.frames) {k n : Nat} {f : Addr} {fd : FuncData} {ps ks : List Str} {dd : List D} {mf : MF} {ds es : List D} {us ws : List Value} {vs zs : List V} {pins : List (Addr × Obj)} {σ : L2.St} {φ : List Addr} {S S' : Store} {G H : Hp} {s : Shared} {r : R D} {Q : VK}
    (F : FnOk X.prog X.w X.K X.mg X.base (L2.CX X.prog X.w) k f fd ps (spM X.K cl mf)) (hr : Room k A') (hb : KB X.K fd ps n ks dd)
    (I : Inv X pins σ H s) (rv : Vals vs us) (rz : Vals zs ws) (l1 : ds.length = n) (l2 : es.length = ks.length) {g : Gm} (sl : Sl X.K cl φ G g σ) (w : Wd X.K cl φ S G H) (h : IsDs X.K φ G ds vs) (h2 : IsDs X.K φ G es zs)
    (e : mf (ds ++ (es ++ dd)) S = some (r, S')) (kq : Ko X.K cl tk φ G H g r S' fun φ' G' H' d => ∀ v, IsD X.K φ' G' d v → Q v H') :
    wpAny (model X.prog X.w) A' (call (.ref f) us (ks.zip ws)) (EP X pins σ Q) X.xe s := by
  obtain ⟨gv, dv, hb, hdd⟩ := hb.ex
  let E : XK := EofR X.K cl φ G H S' r
  have sp : spM X.K cl mf (vs ++ (zs ++ dv)) H Q E := by
    refine ⟨φ, G, S, ds ++ (es ++ dd), r, S', w, h.append (h2.append (hdd _ _)), e, ?_⟩
    cases r with
    | ok d => exact kq
    | exc c fs => exact fun cls dd φ' G' H' q => ⟨φ', G', q⟩
  have r2 := hb.rel rv rz
  have e0 := I.env0
  refine wpAny_call (codeAny_mono (F.run A' X.stack s H ⟨us, ks.zip ws⟩ (gv us ws) _ Q E hr ⟨hA.trans e0.frames, e0.mod, e0.bs, e0.bsz, e0.funs, e0.frf, e0.hok, e0.bare⟩ (hb.to s us ws I.kIn (by rw [← rv.length, ← h.length]; exact l1) (by rw [← rz.length, ← h2.length]; exact l2)) r2 sp) fun r' s' hq => ?_)
  cases r' with
  | error e' =>
    cases r with
    | ok d =>
      obtain ⟨_, _, _, _, _, _, _, _, _, _, _, _, z⟩ := (show L2.CX X.prog X.w X.stack H s E e' s' from hq)
      exact z.elim
    | exc c fs => exact T.tk _ kq e' s' (XE.of_call (E := EofR X.K cl φ G H S' (.exc c fs)) I (fun cls d H' ⟨φ', G', q⟩ => ⟨φ', G', q, sl.step q.1⟩) hq)
  | ok fl =>
    cases fl with
    | ret u => exact I.after hq
    | next => exact False.elim hq
    | brk => exact False.elim hq
    | cont => exact False.elim hq
/-! ### an instance made with keywords, defaults -/
noncomputable def mMakeB (c n m : Nat) (dd : List D) (mf : MF) (ma mk : M (List D)) : M D := fun g S => match ma g S with
  | some (.ok ds, S1) => match mk g S1 with
    | some (.ok zs, S2) => if ds.length + 1 = n ∧ zs.length = m then match mf (.ref S2.length :: (ds ++ (zs ++ dd))) (S2 ++ [.ins c []]) with
      | some (.ok .non, S') => some (.ok (.ref S2.length), S')
      | some (.exc c' fs, S') => some (.exc c' fs, S')
      | _ => none else none
    | some (.exc c fs, S2) => some (.exc c fs, S2)
    | none => none
  | some (.exc c fs, S1) => some (.exc c fs, S1)
  | none => none
theorem run_mkB {k n : Nat} {f : Addr} {fd : FuncData} {ps ks : List Str} {dd : List D} {mf : MF} {c : Nat} {ds es : List D} {us ws : List Value} {vs zs : List V} {pins : List (Addr × Obj)} {σ : L2.St} {φ : List Addr} {S S' : Store} {G H : Hp} {s : Shared} {r : R D} {Q : VK} {g : Gm}
    (M : L2.Mk X.K (cl.at_ c) f) (F : FnOk X.prog X.w X.K X.mg X.base (L2.CX X.prog X.w) k f fd ps (spM X.K cl mf)) (hr : Room (k + 1) X.A) (hb : KB X.K fd ps n ks dd)
    (I : Inv X pins σ H s) (rv : Vals vs us) (rz : Vals zs ws) (l1 : ds.length + 1 = n) (l2 : es.length = ks.length) (sl : Sl X.K cl φ G g σ) (w : Wd X.K cl φ S G H) (h : IsDs X.K φ G ds vs) (h2 : IsDs X.K φ G es zs)
    (e : (match mf (.ref S.length :: (ds ++ (es ++ dd))) (S ++ [.ins c []]) with
      | some (.ok .non, S') => some (R.ok (D.ref S.length), S')
      | some (.exc c' fs, S') => some (.exc c' fs, S')
      | _ => none) = some (r, S'))
    (kq : Ko X.K cl tk φ G H g r S' fun φ' G' H' d => ∀ v, IsD X.K φ' G' d v → Q v H') :
    wpAny (model X.prog X.w) X.A (call (.ref (cl.at_ c)) us (ks.zip ws)) (EP X pins σ Q) X.xe s := by
  obtain ⟨gv, dv, hb, hdd⟩ := hb.ex
  have nx : H (s.heap.objs.size + 1) = none := I.hok.fresh (Nat.le_succ _)
  have nd : H s.heap.objs.size = none := I.hok.fresh (Nat.le_refl _)
  have ne : s.heap.objs.size ≠ s.heap.objs.size + 1 := Nat.ne_of_lt (Nat.lt_succ_self _)
  have st := made_step w nx nd ne (.ins (cl.at_ c) s.heap.objs.size [])
  have w1 := made_wd w nx nd ne c
  have I2 := Inv.made (C := cl.at_ c) I
  have r2 : Vals (V.ref (s.heap.objs.size + 1) :: vs) (Value.ref (s.heap.objs.size + 1) :: us) := .cons rfl rv
  have hnew : (φ ++ [s.heap.objs.size + 1])[S.length]? = some (s.heap.objs.size + 1) := by
    rw [← w.len, List.getElem?_append_right (Nat.le_refl _)]; simp
  have hds : IsDs X.K (φ ++ [s.heap.objs.size + 1]) (upd G s.heap.objs.size (.own (s.heap.objs.size + 1))) (.ref S.length :: (ds ++ (es ++ dd))) (V.ref (s.heap.objs.size + 1) :: (vs ++ (zs ++ dv))) :=
    .cons (by simp only [Mi.IsD]; exact ⟨_, rfl, hnew⟩) ((h.append (h2.append (hdd _ _))).mono st.pre st.ex)
  let E : XK := fun cls d H' => ∃ c' fs φ' G', r = .exc c' fs ∧ wE X.K cl φ G H S' c' fs cls d φ' G' H'
  have sp : spM X.K cl mf (V.ref (s.heap.objs.size + 1) :: vs ++ (zs ++ dv)) (upd (upd H s.heap.objs.size (.own (s.heap.objs.size + 1))) (s.heap.objs.size + 1) (.ins (cl.at_ c) s.heap.objs.size [])) (fun v H2 => v = .non ∧ Q (.ref (s.heap.objs.size + 1)) H2) E := by
    split at e
    · rename_i S1 q
      cases e
      refine ⟨_, _, _, _, _, _, w1, hds, q, fun φ' G' H' st' w' v hv => ?_⟩
      simp only [Mi.IsD] at hv
      refine ⟨hv, kq φ' G' H' (st.trans st') w' _ ?_⟩
      simp only [Mi.IsD]
      exact ⟨_, rfl, pre_get st'.pre hnew⟩
    · rename_i c' fs S1 q
      cases e
      exact ⟨_, _, _, _, _, _, w1, hds, q, fun cls dd φ' G' H' z => ⟨c', fs, φ', G', rfl, st.trans z.1, z.2⟩⟩
    · cases e
  have rr2 := hb.rel r2 rz
  refine wpAny_call (make_map (f := f) I.kIn M.makes M.init (beq_iff_eq.mp M.fn) (codeAny_mono (F.run _ X.stack _ _ ⟨Value.ref (s.heap.objs.size + 1) :: us, ks.zip ws⟩ (gv (Value.ref (s.heap.objs.size + 1) :: us) ws) _ _ E (hr.make (cl.at_ c) us (ks.zip ws))
    (I2.env0.make (cl.at_ c) us (ks.zip ws)) (hb.to _ (Value.ref (s.heap.objs.size + 1) :: us) ws I2.kIn (by rw [List.length_cons, ← rv.length, ← h.length]; exact l1) (by rw [← rz.length, ← h2.length]; exact l2)) rr2 sp) fun rr s' hq' => ?_))
  cases rr with
  | error er =>
    cases r with
    | ok d =>
      obtain ⟨_, _, _, _, _, _, _, _, _, _, _, _, _, _, _, _, z, _⟩ := (show L2.CX X.prog X.w X.stack _ _ E er s' from hq')
      cases z
    | exc c' fs =>
      refine T.tk _ kq er s' (XE.of_call (E := E) I2 (fun cls d H' ⟨c2, fs2, φ', G', z, q⟩ => ?_) hq')
      cases z
      exact ⟨φ', G', q, sl.step q.1⟩
  | ok fl =>
    cases fl with
    | ret u =>
      obtain ⟨v, H', I3, rv3, ev, q3⟩ := I2.after hq'
      subst ev
      exact ⟨rv3, ⟨V.ref (s.heap.objs.size + 1), H', I3, rfl, q3⟩⟩
    | next => exact False.elim hq'
    | brk => exact False.elim hq'
    | cont => exact False.elim hq'
theorem re_makeB {k n m : Nat} {f : Addr} {fd : FuncData} {ps ks : List Str} {dd : List D} {mf : MF} {c : Nat} {x : Str} {p pos : Pos} {e : Expr} {es : List Expr} {kws : List Keyword} {ma mk : M (List D)} (M : L2.Mk X.K (cl.at_ c) f) (hm : X.mg x = some (.ref (cl.at_ c)))
    (F : FnOk X.prog X.w X.K X.mg X.base (L2.CX X.prog X.w) k f fd ps (spM X.K cl mf)) (hr : Room (k + 1) X.A) (hb : KB X.K fd ps n ks dd) (ha : RA X cl tk (e :: es) ma) (hkw : RK X cl tk kws mk) (hm2 : m = ks.length := by rfl) (hg : Gl X x := by rfl) (hdb : (x == ("__debug__" : Str)) = false := by decide)
    (hall : (backToKw pos (keywordEach kws X.env)).all (·.1.isSome) = true := by rfl) (hks : (backToKw pos (keywordEach kws X.env)).filterMap (·.1) = ks := by rfl)
    (he : starEach (e :: es) X.env = (false, eval e X.env) :: starEach es X.env := by rfl)
    (hpl : ((backTo pos (starEach (e :: es) X.env)).any (·.1) || (backToKw pos (keywordEach kws X.env)).any (·.1.isNone)) = false := by rfl) : RE X cl tk (.Call (.Name x p) (e :: es) kws pos) (mMakeB c n m dd mf ma mk) := by
  subst hm2
  refine ⟨fun pins s σ H Q I ⟨φ, G, g, S, r, S', w, sl, e1, kq⟩ => ?_⟩
  refine wpAny_Call_Name_kw (ld_glob I hg hm ?_ hdb)
  unfold mMakeB at e1
  split at e1
  · rename_i ds S1 q1
    refine PySem.W.callWith_KW (h₀ := X.base) I.ok.mod.kin M.kp hall (thn (ha.run pos pins s σ H (fun vs H1 => ∃ φ1 G1, Step φ G H φ1 G1 H1 ∧ Wd X.K cl φ1 S1 G1 H1 ∧ IsDs X.K φ1 G1 ds vs) I ⟨φ, G, g, S, _, _, w, sl, q1, fun φ1 G1 H1 st w1 vs hv => ⟨φ1, G1, st, w1, hv⟩⟩) fun us s1 ⟨vs, H1, I1, rv, φ1, G1, st, w1, hv⟩ => ?_) hpl he
    split at e1
    · rename_i zs S2 q2
      refine thn (hkw.run pos pins s1 σ H1 (fun ws H2 => ∃ φ2 G2, Step φ1 G1 H1 φ2 G2 H2 ∧ Wd X.K cl φ2 S2 G2 H2 ∧ IsDs X.K φ2 G2 zs ws) I1 ⟨φ1, G1, g, S1, _, _, w1, sl.step st, q2, fun φ2 G2 H2 st2 w2 vs hv => ⟨φ2, G2, st2, w2, hv⟩⟩) fun ws s2 ⟨zv, H2, I2, rz, φ2, G2, st2, w2, hz⟩ => ⟨I2.kIn, ?_⟩
      rw [hks]
      split at e1
      · rename_i hl
        exact run_mkB M F hr hb I2 rv rz hl.1 hl.2 (sl.step (st.trans st2)) w2 (hv.mono st2.pre st2.ex) hz e1 (kq.step T.ok (st.trans st2))
      · cases e1
    · rename_i c' fs S2 q2
      cases e1
      exact thn (hkw.run pos pins s1 σ H1 (fun _ _ => False) I1 ⟨φ1, G1, g, S1, _, _, w1, sl.step st, q2, kq.step T.ok st⟩) fun ws s2 ⟨_, _, _, _, z⟩ => z.elim
    · cases e1
  · rename_i c' fs S1 q1
    cases e1
    exact PySem.W.callWith_KW (h₀ := X.base) I.ok.mod.kin M.kp hall (thn (ha.run pos pins s σ H (fun _ _ => False) I ⟨φ, G, g, S, _, _, w, sl, q1, kq⟩) fun us s1 ⟨_, _, _, _, z⟩ => z.elim) hpl he
  · cases e1
end
/-- a def with defaults dd, behind the top -/
structure FunV (K : PySem.W.Frag) (x qual : Str) (st : Stmt) (f : Addr) (fd : FuncData) (dd : List D) : Prop where
  ex : ∃ dvs, dvs ≠ [] ∧ dvs.length = dd.length ∧ FunD K x qual (defArgs st) (defBody st) (defScope st) dvs [] f fd ∧ ∀ φ G, IsDs K φ G dd dvs
  kp : PySem.W.keepIn K (.ref f) = true
section
variable {K : PySem.W.Frag} {x qual : Str} {st : Stmt} {f : Addr} {fd : FuncData} {ps : List Str} {dd : List D}
theorem fn_okV {P : Program} {w : World} {mg : Str → Option Value} {base : Heap} {cl : Cl} {N : List Str} {k : Nat} {mb : MS}
    (hh : cl.hd = none) (F : FunV K x qual st f fd dd) (S : FnScope N ps (defScope st))
    (hb : ∀ (cdv : Value) (A : Around) (outer : List Env) (s : Shared) (H : Hp) (E : XK), Room k (A.deeper (envOfC qual (defScope st) s.heap.objs.size f cdv)) →
      RSs (cxOf (L2.CX P w) P w K mg base N qual (defScope st) f cdv A outer s H E) cl (Takes (cxOf (L2.CX P w) P w K mg base N qual (defScope st) f cdv A outer s H E)) (defBody st) mb) :
    FnOk P w K mg base (L2.CX P w) (k + 1) f fd ps (spM K cl (mFn N.length ps.length mb)) := by
  obtain ⟨dvs, _, _, F', _⟩ := F.ex
  exact fn_okD hh F' S hb
theorem IsDs.dropD {φ : List Addr} {G : Hp} {ds : List D} {vs : List V} (j : Nat) (h : IsDs K φ G ds vs) : IsDs K φ G (ds.drop j) (vs.drop j) := h.drop j
theorem kb_ofV (F : FunV K x qual st f fd dd) (n : Nat) (ks : List Str) (j : Nat)
    (h : ∀ (T : Addr) (kV doc pm : Value) (an : Option Addr) (cdv ct : Value) (us its ws : List Value), us.length = n → its.length = dd.length → ws.length = ks.length →
      ∃ k, bindArgs (PySem.W.fnOf x qual (defArgs st) (defBody st) (defScope st) (.ref T) kV doc pm an cdv ct) ⟨us, ks.zip ws⟩ = seqItems? (.ref T) >>= k ∧ k (some its.toArray) = pure (ps.zip (us ++ (ws ++ its.drop j)))) : KB K fd ps n ks (dd.drop j) := by
  obtain ⟨dvs, hd, hl, F', hdd⟩ := F.ex
  exact kb_of F' n ks j (dd.drop j) hd (fun φ G => (hdd φ G).drop j) fun T kV doc pm an cdv ct us its ws h1 h2 h3 => h T kV doc pm an cdv ct us its ws h1 (h2.trans hl) h3
/-- a default's value -/
def DvOk (K : PySem.W.Frag) (d : D) (u : Value) : Prop := ∃ v, RelV v u ∧ ∀ φ G, IsD K φ G d v
inductive DvsOk (K : PySem.W.Frag) : List D → List Value → Prop where
  | nil : DvsOk K [] []
  | cons {d : D} {u : Value} {ds : List D} {us : List Value} : DvOk K d u → DvsOk K ds us → DvsOk K (d :: ds) (u :: us)
theorem DvsOk.vs {ds : List D} {us : List Value} (h : DvsOk K ds us) : ∃ vs, Vals vs us ∧ vs.length = ds.length ∧ ∀ φ G, IsDs K φ G ds vs := by
  induction h with
  | nil => exact ⟨[], .nil, rfl, fun _ _ => .nil⟩
  | cons h1 _ ih =>
    obtain ⟨v, r, hv⟩ := h1
    obtain ⟨vs, r2, l, hvs⟩ := ih
    exact ⟨v :: vs, .cons r r2, by simp [l], fun φ G => .cons (hv φ G) (hvs φ G)⟩
theorem dv_non : DvOk K .non .none := ⟨.non, rfl, fun _ _ => by simp only [Mi.IsD]⟩
theorem dv_tup {E : Addr} {od : Option Addr} {n : Nat} {sl : Array (Option Value)} (h : K.lookup E = some ⟨.type "tuple", od, .seq #[] n, sl⟩) : DvOk K (.tup []) (.ref E) :=
  ⟨.ref E, rfl, fun φ G => by simp only [Mi.IsD]; exact ⟨E, [], rfl, .inr ⟨_, _, _, h, rfl, rfl, Nat.zero_le _, .nil⟩, .nil⟩⟩
theorem funV_mk {T : Addr} {oc : Value} {od : Option Addr} {kV doc pm : Value} {an : Option Addr} {cdv ct : Value} {osl : Array (Option Value)} {to : Value} {td : Option Addr} {tn : Nat} {ts : Array (Option Value)} {us : List Value} {d : D} {ds : List D}
    (l : K.lookup f = some ⟨oc, od, .func (PySem.W.fnOf x qual (defArgs st) (defBody st) (defScope st) (.ref T) kV doc pm an cdv ct), osl⟩) (c : PySem.W.codeIn K cdv qual = true) (k : PySem.W.keepIn K (.ref f) = true)
    (lT : K.lookup T = some ⟨to, td, .seq us.toArray tn, ts⟩) (h : DvsOk K (d :: ds) us) : FunV K x qual st f (PySem.W.fnOf x qual (defArgs st) (defBody st) (defScope st) (.ref T) kV doc pm an cdv ct) (d :: ds) := by
  obtain ⟨vs, r, hl, hv⟩ := h.vs
  refine ⟨⟨vs, fun e => (by rw [e] at hl; cases hl), hl, ⟨⟨_, _, _, _, _, _, _, _, _, _, rfl, l, c, .inr ⟨fun e => (by rw [e] at hl; cases hl), T, _, us, tn, rfl, lT, rfl, r⟩, .inl rfl⟩, k⟩, hv⟩, k⟩
end
end Mi
namespace Mi
open PySem L2
/-! ### own operators between two instances of one class -/
/-- what a own dunder of two answers -/
def own2 (tab : Nat → Option MF) (S : Store) (d e : D) : Option (D × Store) := match d, e with
  | .ref i, .ref j => match S[i]?, S[j]? with
    | some (.ins c _), some (.ins c' _) => if c = c' then (tab c).bind fun mf => match mf [.ref i, .ref j] S with
      | some (.ok z, S') => some (z, S')
      | _ => none else none
    | _, _ => none
  | _, _ => none
/-- an own dunder at f, of class c -/
def Dun2 (X : Cx) (cl : Cl) (k : Nat) (m : Str) (c : Nat) (mf : MF) : Prop := PySem.W.selfFirst X.K (cl.at_ c) = true ∧ DunOk X cl k m c mf
def rOwn2 (X : Cx) (cl : Cl) (tab : Nat → Option MF) : R2 := fun x y H Q => ∃ φ G S d e z S', Wd X.K cl φ S G H ∧ IsD X.K φ G d x ∧ IsD X.K φ G e y ∧ own2 tab S d e = some (z, S') ∧
  ∀ φ' G' H', Step φ G H φ' G' H' → Wd X.K cl φ' S' G' H' → ∀ v, IsD X.K φ' G' z v → Q v H'
section
variable {X : Cx} {cl : Cl}
theorem own2_ok {tab : Nat → Option MF} {S S' : Store} {d e z : D} (h : own2 tab S d e = some (z, S')) : ∃ i j c fs fs' mf, d = .ref i ∧ e = .ref j ∧ S[i]? = some (.ins c fs) ∧ S[j]? = some (.ins c fs') ∧ tab c = some mf ∧ mf [.ref i, .ref j] S = some (.ok z, S') := by
  unfold own2 at h
  split at h
  · rename_i i j
    split at h
    · rename_i c fs c' fs' q1 q2
      split at h
      · rename_i ec
        subst ec
        cases ht : tab c with
        | none => rw [ht] at h; cases h
        | some mf =>
          rw [ht, Option.bind_some] at h
          split at h
          · rename_i z' S1 q3
            cases h
            exact ⟨i, j, c, fs, fs', mf, rfl, rfl, q1, q2, ht, q3⟩
          · cases h
      · cases h
    · cases h
  · cases h
theorem run_own2 {A' : Around} (hA : A'.frames = X.A.frames) {k : Nat} {tab : Nat → Option MF} {m : Str} (hh : cl.hd = none) (ht : ∀ c mf, tab c = some mf → Dun2 X cl k m c mf) (hr : Room k A') {pins : List (Addr × Obj)} {s : Shared} {σ : L2.St} {H : Hp} {x y : V} {v u : Value} {Q : VK}
    (I : Inv X pins σ H s) (rx : RelV x v) (ry : RelV y u) (h : rOwn2 X cl tab x y H Q) :
    ∃ a b f C ox od, v = .ref a ∧ u = .ref b ∧ PySem.W.InstAt s.heap a ox C od ∧ PySem.W.Looks (model X.prog X.w) s.heap (typeOf (.ref b)) (.ref C) ∧ PySem.W.selfFirst X.K C = true ∧ PySem.W.findIn X.K (.ref C) m = some (some (.ref f)) ∧ PySem.W.isFn X.K (.ref f) = true ∧
      wpAny (model X.prog X.w) A' (call (.ref f) [.ref a, .ref b]) (PySem.W.CmpBack (EP X pins σ Q)) X.xe s := by
  obtain ⟨φ, G, S, d, e, z, S', w, hd, he, ho, q⟩ := h
  obtain ⟨i, j, c, fs, fs', mf, rfl, rfl, q1, q2, q3, q4⟩ := own2_ok ho
  obtain ⟨hsf, f, fd, ps, h1, h2, h3, h4, F⟩ := ht c mf q3
  have hd' := hd
  have he' := he
  simp only [Mi.IsD] at hd' he'
  obtain ⟨a, rfl, ha⟩ := hd'
  obtain ⟨b, rfl, hb⟩ := he'
  have ev : v = Value.ref a := rx
  have eu : u = Value.ref b := ry
  subst ev; subst eu
  obtain ⟨dx, fv, n1, n2⟩ := w.ok _ _ _ q1 ha
  obtain ⟨mA, O, _⟩ := ins_get I.hok n1
  obtain ⟨od, ho2, _⟩ := lookIn_ns O.ns
  obtain ⟨dx', fv', n1', n2'⟩ := w.ok _ _ _ q2 hb
  obtain ⟨mA', O', _⟩ := ins_get I.hok n1'
  obtain ⟨od', ho2', _⟩ := lookIn_ns O'.ns
  have J : PySem.W.InstAt s.heap a (PySem.W.instObj (cl.at_ c) dx) (cl.at_ c) (some od) := ⟨O.obj, rfl, rfl, ho2⟩
  have J' : PySem.W.InstAt s.heap b (PySem.W.instObj (cl.at_ c) dx') (cl.at_ c) (some od') := ⟨O'.obj, rfl, rfl, ho2'⟩
  refine ⟨a, b, f, cl.at_ c, _, _, rfl, rfl, J, J'.type, hsf, h1, h2, ?_⟩
  have sl : Sl X.K cl φ G (List.replicate σ.length none) σ := by
    refine ⟨by simp, fun j e z => ?_, fun j e z => ?_⟩
    · rw [List.getElem?_replicate] at z
      split at z <;> cases z
    · rw [hh] at z; cases z
  refine thn (run_fnA (tk := fun _ => False) (A' := A') hA (vs := [V.ref a, V.ref b]) (Q := Q) F hr h4 I (.cons rfl (.cons rfl .nil)) sl w (.cons hd (.cons he .nil)) q4 q) fun r s' hq => ?_
  obtain ⟨v', H', I', rv', q'⟩ := hq
  cases r <;> first | exact ⟨v', H', I', rv', q'⟩ | (exfalso; cases v' <;> first | (cases rv'; done) | (obtain ⟨_, z⟩ := rv'; cases z))
theorem op_own2 {op : Operator} {k : Nat} {tab : Nat → Option MF} (hh : cl.hd = none) (ht : ∀ c mf, tab c = some mf → Dun2 X cl k (PySem.dunder op.info.2) c mf) (hr : Room k X.A) : OpR X (binaryOp op) (rOwn2 X cl tab) := by
  intro pins s σ H x y v u Q I rx ry h
  obtain ⟨a, b, f, C, ox, od, rfl, rfl, J, J', h1, h2, h3, h4⟩ := run_own2 rfl hh ht hr I rx ry h
  obtain ⟨m, Fm⟩ := I.fr
  exact PySem.W.binop_K Fm I.ok.mod.kin J J' h1 h2 h3 h4
theorem ip_own2 {op : Operator} {k : Nat} {tab : Nat → Option MF} (hh : cl.hd = none) (ht : ∀ c mf, tab c = some mf → Dun2 X cl k (PySem.dunderI op.info.2) c mf) (hr : Room k X.A) : PIp X op (rOwn2 X cl tab) := by
  intro pins s σ H x y v u Q I rx ry h
  obtain ⟨a, b, f, C, ox, od, rfl, rfl, J, J', h1, h2, h3, h4⟩ := run_own2 rfl hh ht hr I rx ry h
  obtain ⟨m, Fm⟩ := I.fr
  exact PySem.W.ksp_inplace Fm I.ok.mod.kin J h1 h2 h3 h4
theorem op_leOwn {k : Nat} {tab : Nat → Option MF} (hh : cl.hd = none) (ht : ∀ c mf, tab c = some mf → Dun2 X cl k "__le__" c mf) (hr : Room k X.A) : OpR X (compareOp .LtE) (rOwn2 X cl tab) := by
  intro pins s σ H x y v u Q I rx ry h
  obtain ⟨a, b, f, C, ox, od, rfl, rfl, J, J', h1, h2, h3, h4⟩ := run_own2 rfl hh ht hr I rx ry h
  obtain ⟨m, Fm⟩ := I.fr
  exact PySem.W.cmp_K (op := .LtE) (by have := hu_of hr; omega) Fm I.ok.mod.kin J J' (by unfold PySem.W.notFirst; simp) h2 h3 h4
/-- a <= b, own or of ints; the store stays -/
noncomputable def fLeO (tab : Nat → Option MF) : Store → D → D → Option D := fun S d e => match own2 tab S d e with
  | some (z, S') => if cdec (S' = S) = true then some z else none
  | none => fLe S d e
theorem fLeO_ok {tab : Nat → Option MF} : OpS X.K cl (fun x y H Q => rOwn2 X cl tab x y H Q ∨ (rI0 fun i j => .bl (decide (i ≤ j))) x y H Q) (fLeO tab) := fun φ S G H x y d e z Q w h1 h2 h3 k => by
  unfold fLeO at h3
  split at h3
  · rename_i z' S' ho
    split at h3
    · rename_i hc
      cases h3
      have eS : S' = S := cdec_iff.mp hc
      subst eS
      exact .inl ⟨φ, G, _, d, e, z, _, w, h1, h2, ho, k⟩
    · cases h3
  · exact .inr (fLe_rel.op φ S G H x y d e z Q w h1 h2 h3 k)
theorem op_leG {k : Nat} {tab : Nat → Option MF} (hh : cl.hd = none) (ht : ∀ c mf, tab c = some mf → Dun2 X cl k "__le__" c mf) (hr : Room k X.A) : OpR X (compareOp .LtE) (fun x y H Q => rOwn2 X cl tab x y H Q ∨ (rI0 fun i j => .bl (decide (i ≤ j))) x y H Q) :=
  (op_leOwn hh ht hr).or op_le
/-- a - b, own -/
def mOwn2 (tab : Nat → Option MF) (ma mb : M D) : M D := mB ma fun d => mB mb fun e => fun _ S => match own2 tab S d e with
  | some (z, S') => some (.ok z, S')
  | none => none
variable {tk : WX → Prop} [T : Tk X tk]
theorem re_own2 {op : Operator} {k : Nat} {tab : Nat → Option MF} {a b : Expr} {pos : Pos} {ma mb : M D} (ht : ∀ c mf, tab c = some mf → Dun2 X cl k (PySem.dunder op.info.2) c mf) (hr : Room k X.A) (ha : RE X cl tk a ma) (hb : RE X cl tk b mb) (hh : cl.hd = none := by rfl) :
    RE X cl tk (.BinOp a op b pos) (mOwn2 tab ma mb) := by
  refine pe_imp (pe_op (op_own2 hh ht hr) ha hb) fun σ H Q ⟨φ, G, g, S, r, S', w, s, e, k⟩ => ?_
  refine tM_bind T.ok w s e k fun d φ1 G1 H1 S1 x st1 w1 s1 hx e1 k1 => ?_
  refine tM_bind T.ok w1 s1 e1 k1 fun d2 φ2 G2 H2 S2 y st2 w2 s2 hy e2 k2 => ?_
  split at e2
  · rename_i z S3 q
    cases e2
    exact ⟨φ2, G2, S2, d, d2, z, _, w2, hx.mono st2.pre st2.ex, hy, q, k2⟩
  · cases e2
/-- x op= e at a local name: own -/
def mAugO (i : Nat) (tab : Nat → Option MF) (mb : M D) : MS := fun g S => match g[i]? with
  | some (some d) => match mb g S with
    | some (.ok e, S1) => match own2 tab S1 d e with
      | some (z, S2) => some (.nx (g.set i (some z)), S2)
      | none => none
    | _ => none
  | _ => none
theorem rs_augO {op : Operator} {i k : Nat} {x : Str} {tab : Nat → Option MF} {b : Expr} {pos' pos : Pos} {mb : M D} (ht : ∀ c mf, tab c = some mf → Dun2 X cl k (PySem.dunderI op.info.2) c mf) (hr : Room k X.A) (hN : X.N.Nodup) (hb : RE X cl tk b mb) (hi : X.N[i]? = some x := by rfl) (hx : Loc X.env.scope x := by first | exact .inl rfl | exact .inr rfl)
    (hf : X.fn x = true ∨ X.env.scope.names.lookup x = some .local := by first | exact .inl rfl | exact .inr rfl) (hh : cl.hd = none := by rfl) : RS X cl tk (.AugAssign (.Name x pos') op b pos) (mAugO i tab mb) := by
  refine ps_imp (ps_aug hN hi hx hb (ip_own2 hh ht hr) hf) fun Dn σ H ⟨φ, G, g, S, o, S', w, s, e, k⟩ => ?_
  unfold mAugO at e
  split at e
  · rename_i d hd
    split at e
    · rename_i e' S1 q1
      split at e
      · rename_i z S2 q2
        cases e
        obtain ⟨v, hv, hv2⟩ := s.at_ i d hd
        refine ⟨v, hv, φ, G, g, S, _, _, w, s, q1, fun φ1 G1 H1 st1 w1 y hy => ⟨φ1, G1, S1, d, e', z, _, w1, hv2.mono st1.pre st1.ex, hy, q2, fun φ2 G2 H2 st2 w2 u hu => ?_⟩⟩
        exact k φ2 G2 H2 (st1.trans st2) w2 _ ((s.step (st1.trans st2)).set hu)
      · cases e
    · cases e
  · cases e
end
end Mi
namespace Mi
open PySem L2
/-! ### reverse, |, += -/
def mRev (mo : M D) : M D := mB mo fun d => fun _ S => match atC S d with
  | some (i, l) => some (.ok .non, S.set i (.lst l.reverse))
  | none => none
theorem IsDs.reverse {K : PySem.W.Frag} {φ : List Addr} {G : Hp} : ∀ {ds : List D} {vs : List V}, IsDs K φ G ds vs → IsDs K φ G ds.reverse vs.reverse
  | [], _, h => by rw [h.nil_inv]; exact .nil
  | d :: ds, _, h => by
    obtain ⟨v, t, rfl, h1, h2⟩ := h.cons_inv
    rw [List.reverse_cons, List.reverse_cons]
    exact (IsDs.reverse h2).append (.cons h1 .nil)
section
variable {K : PySem.W.Frag} {cl : Cl}
def fOr : Store → D → D → Option D := f2I cTrue fun i j => .int (Builtin.bitOr i j)
theorem fOr_ok : OpS K cl (rI0 fun i j => .int (Builtin.bitOr i j)) fOr := s2I0 fun i j φ G => by simp only [Mi.IsD]
end
@[simp] theorem v_orI (S : Store) (i j : Int) : fOr S (.int i) (.int j) = some (.int (Builtin.bitOr i j)) := id rfl
section
variable {X : Cx} {cl : Cl} {tk : WX → Prop} [T : Tk X tk]
theorem re_rev {o : Expr} {apos cpos : Pos} {mo : M D} (ho : RE X cl tk o mo)
    (hbase : attributeBase o "reverse" X.env (eval o X.env) = eval o X.env := by rfl) (hline : (apos.endLine == cpos.line) = true := by rfl) :
    RE X cl tk (.Call (.Attribute o "reverse" apos) [] [] cpos) (mRev mo) := by
  refine pe_imp (pe_bm0 (r := rReverse) PySem.F.plainAttrs_list PySem.F.slot_list_reverse PySem.F.type_list_reverse mt_reverse ho hbase hline) fun σ H Q ⟨φ, G, g, S, r, S', w, s, e', k⟩ => ?_
  refine tM_bind T.ok w s e' k fun d φ1 G1 H1 S1 x st1 w1 s1 hx e1 k1 => ?_
  split at e1
  · rename_i i l q
    cases e1
    obtain ⟨h0, a, xs, rfl, h1, h2, h3⟩ := atC_ok w1 hx q
    refine ⟨.inl ⟨rfl, _, SqL.of h2⟩, a, xs, rfl, rfl, h2, ?_⟩
    exact k1 _ _ _ (write_step w1 h1 _) (write_wd w1 h0 rfl h1 ⟨_, upd_same, h3.reverse⟩) _ (by simp only [Mi.IsD])
  · cases e1
/-- x op= e: ints -/
def mAugI (i : Nat) (f : Int → Int → Int) (mb : M D) : MS := fun g S => match g[i]? with
  | some (some (.int n)) => match mb g S with
    | some (.ok (.int m), S1) => some (.nx (g.set i (some (.int (f n m)))), S1)
    | _ => none
  | _ => none
theorem rs_augI {op : Operator} {i : Nat} {x : Str} {f : Int → Int → Int} {b : Expr} {pos' pos : Pos} {mb : M D} (ho : PIp X op (ipI f)) (hN : X.N.Nodup) (hb : RE X cl tk b mb) (hi : X.N[i]? = some x := by rfl) (hx : Loc X.env.scope x := by first | exact .inl rfl | exact .inr rfl)
    (hf : X.fn x = true ∨ X.env.scope.names.lookup x = some .local := by first | exact .inl rfl | exact .inr rfl) : RS X cl tk (.AugAssign (.Name x pos') op b pos) (mAugI i f mb) := by
  refine ps_imp (ps_aug hN hi hx hb ho hf) fun Dn σ H ⟨φ, G, g, S, o, S', w, s, e, k⟩ => ?_
  unfold mAugI at e
  split at e
  · rename_i n hd
    split at e
    · rename_i m S1 q1
      cases e
      obtain ⟨v, hv, hv2⟩ := s.at_ i _ hd
      simp only [Mi.IsD] at hv2
      subst hv2
      refine ⟨_, hv, φ, G, g, S, _, _, w, s, q1, fun φ1 G1 H1 st1 w1 y hy => ?_⟩
      simp only [Mi.IsD] at hy
      exact ⟨n, m, rfl, hy, k φ1 G1 H1 st1 w1 _ ((s.step st1).set (by simp only [Mi.IsD]))⟩
    · cases e
  · cases e
end
end Mi
/-! MiEval2: lists of texts, walks over ranges and texts, parts of a body. -/
namespace Mi
open PySem L2
theorem seq_go {m n : MS} {g g1 : Gm} {S S1 : Store} (h : m g S = some (.nx g1, S1)) : mSeq m n g S = n g1 S1 := by simp [h]
theorem fn_rt {N np : Nat} {b : MS} {ds : List D} {S S' : Store} {d : D} (hl : ds.length = np) (h : b (ds.map some ++ List.replicate (N - np) none) S = some (.rt d, S')) : mFn N np b ds S = some (.ok d, S') := by
  rw [v_fn, if_pos hl, h]
theorem fn_nx {N np : Nat} {b : MS} {ds : List D} {S S' : Store} {g : Gm} (hl : ds.length = np) (h : b (ds.map some ++ List.replicate (N - np) none) S = some (.nx g, S')) : mFn N np b ds S = some (.ok .non, S') := by
  rw [v_fn, if_pos hl, h]
theorem fn_ex {N np : Nat} {b : MS} {ds : List D} {S S' : Store} {g : Gm} {c : Nat} {fs : List (Str × D)} (hl : ds.length = np) (h : b (ds.map some ++ List.replicate (N - np) none) S = some (.ex g c fs, S')) : mFn N np b ds S = some (.exc c fs, S') := by
  rw [v_fn, if_pos hl, h]
theorem nat_of {i m : Int} (h : 0 ≤ i) (h2 : i < m) : ∃ a : Nat, i = (a : Int) ∧ (a : Int) < m := ⟨i.toNat, by omega, by omega⟩
theorem at_str {cs : List Str} {k : Nat} (h : k < cs.length) : atI (cs.map D.str) (k : Int) = some (.str cs[k]) := by
  rw [atI_natD (l := cs.map D.str) (i := (k : Int)) (j := k) rfl (by simpa using h)]
  simp
theorem at_int {cs : List Int} {k : Nat} (h : k < cs.length) : atI (cs.map D.int) (k : Int) = some (.int cs[k]) := by
  rw [atI_natD (l := cs.map D.int) (i := (k : Int)) (j := k) rfl (by simpa using h)]
  simp
theorem cut_to (l : List D) (n : Nat) : cutD l none (some (n : Int)) = l.take n := by
  unfold cutD
  have e : HT.sIx l.length 0 none = 0 := rfl
  have e2 : HT.sIx l.length l.length (some (n : Int)) = min n l.length := HT.sIx_nat _ _ n
  rw [e, e2, List.drop_zero, Nat.sub_zero, List.take_eq_take_iff]
  omega
theorem cut_from (l : List D) (n : Nat) : cutD l (some (n : Int)) none = l.drop n := by
  unfold cutD
  have e : HT.sIx l.length 0 (some (n : Int)) = min n l.length := HT.sIx_nat _ _ n
  have e2 : HT.sIx l.length l.length none = l.length := rfl
  rw [e, e2]
  by_cases h : n ≤ l.length
  · rw [Nat.min_eq_left h, List.take_of_length_le (by simp)]
  · rw [Nat.min_eq_right (by omega), List.drop_eq_nil_of_le (Nat.le_refl _), List.drop_eq_nil_of_le (by omega)]
    simp
theorem cut_mid (l : List D) (n m : Nat) (hm : m ≤ l.length) (hn : n ≤ m) : cutD l (some (n : Int)) (some (m : Int)) = (l.take m).drop n := by
  unfold cutD
  have e : HT.sIx l.length 0 (some (n : Int)) = min n l.length := HT.sIx_nat _ _ n
  have e2 : HT.sIx l.length l.length (some (m : Int)) = min m l.length := HT.sIx_nat _ _ m
  rw [e, e2, Nat.min_eq_left hm, Nat.min_eq_left (by omega), List.drop_take]
theorem ixN_nat {n w : Nat} (h : w < n) : ixN n (w : Int) = some w := by
  unfold ixN
  simp [h]
/-! ### texts -/
theorem toPs_strs : ∀ l : List Str, toPs (l.map D.str) = some (l.map PyData.str)
  | [] => rfl
  | x :: l => by simp [toPs, toP, toPs_strs l]
theorem lay_strs : ∀ l : List Str, PyData.canLayAll0 (l.map PyData.str) = l.all PyData.strOk
  | [] => rfl
  | x :: l => by simp [PyData.canLayAll0, PyData.canLay0, lay_strs l]
theorem dep_strs : ∀ l : List Str, PyData.depthAll (l.map PyData.str) = 0
  | [] => rfl
  | x :: l => by simp [PyData.depthAll, PyData.depth, dep_strs l]
theorem eqv_strs : ∀ l m : List Str, PyData.eqvAll (l.map PyData.str) (m.map PyData.str) = decide (l = m)
  | [], [] => rfl
  | [], _ :: _ => rfl
  | _ :: _, [] => rfl
  | x :: l, y :: m => by
    simp only [List.map_cons, PyData.eqvAll, eqv_strs l m, PyData.eqv]
    rw [Bool.beq_eq_decide_eq, ← Bool.decide_and]
    simp
theorem shaped_strs {l : List Str} (h : l.all PyData.strOk = true) : SeqAt.shaped (.list (l.map PyData.str)) = true := by
  simp [SeqAt.shaped, PyData.canLay0, lay_strs, h, PyData.depth, dep_strs]
theorem shaped_str {c : Str} (h : PyData.strOk c = true) : SeqAt.shaped (.str c) = true := by
  simp [SeqAt.shaped, PyData.canLay0, h, PyData.depth]
theorem any_strs {c : Str} (l : List Str) : ((l.map PyData.str).any fun z => PyData.eqv z (.str c)) = decide (c ∈ l) := by
  induction l with
  | nil => rfl
  | cons x l ih =>
    rw [List.map_cons, List.any_cons, ih]
    simp only [PyData.eqv, List.mem_cons]
    rw [Bool.beq_eq_decide_eq, ← Bool.decide_or]
    exact decide_eq_decide.mpr ⟨fun h => h.imp Eq.symm id, fun h => h.imp Eq.symm id⟩
theorem allFl_strs : ∀ l : List Str, allFl (l.map D.str) = some (l.map V.str)
  | [] => rfl
  | x :: l => by simp [allFl, flV, allFl_strs l]
theorem inV_strs {c : Str} (l : List Str) : inV (.str c) (l.map V.str) = decide (c ∈ l) := by
  unfold inV
  induction l with
  | nil => rfl
  | cons x l ih =>
    rw [List.map_cons, List.any_cons, ih]
    show ((x == c) || _) = _
    rw [Bool.beq_eq_decide_eq, ← Bool.decide_or]
    exact decide_eq_decide.mpr ⟨fun h => (h.imp Eq.symm id).elim (fun h => h ▸ List.mem_cons_self) (List.mem_cons_of_mem _), fun h => (List.mem_cons.mp h).imp Eq.symm id⟩
section
variable {S : Store} {c : Str} {l m : List Str} {i : Nat}
theorem inB_tup : inB S (.str c) (.tup (l.map .str)) = some (decide (c ∈ l)) := by
  show ((allFl (l.map D.str)).map fun vs => inV (.str c) vs) = _
  rw [allFl_strs]
  exact congrArg some (inV_strs l)
theorem inB_lst (hc : PyData.strOk c = true) (hl : l.all PyData.strOk = true) : inB S (.str c) (.lst (l.map .str)) = some (decide (c ∈ l)) := by
  have e1 : toPS S (.str c) = some (.str c) := rfl
  have e2 : toPS S (.lst (l.map .str)) = some (.list (l.map PyData.str)) := by simp [toPS, atC, toP, toPs_strs]
  simp only [inB, e1, e2, shaped_str hc, shaped_strs hl, and_self, if_true, any_strs]
theorem inB_ref (hi : S[i]? = some (.lst (l.map .str))) (hc : PyData.strOk c = true) (hl : l.all PyData.strOk = true) : inB S (.str c) (.ref i) = some (decide (c ∈ l)) := by
  have e1 : toPS S (.str c) = some (.str c) := rfl
  have e2 : toPS S (.ref i) = some (.list (l.map PyData.str)) := by simp [toPS, atC, hi, toPs_strs]
  simp only [inB, e1, e2, shaped_str hc, shaped_strs hl, and_self, if_true, any_strs]
theorem in_of {d : D} {b : Bool} (h : inB S (.str c) d = some b) : fIn S (.str c) d = some (.bl b) := by simp [fIn, h]
theorem notIn_of {d : D} {b : Bool} (h : inB S (.str c) d = some b) : fNotIn S (.str c) d = some (.bl (!b)) := by simp [fNotIn, h]
theorem eqB_strs {d e : D} (hd : flV d = none) (h1 : toPS S d = some (.list (l.map PyData.str))) (h2 : toPS S e = some (.list (m.map PyData.str))) (hl : l.all PyData.strOk = true) (hm : m.all PyData.strOk = true) : eqB S d e = some (decide (l = m)) := by
  unfold eqB
  rw [hd]
  simp only [h1, h2, shaped_strs hl, shaped_strs hm, and_self, if_true, PyData.eqv, eqv_strs]
theorem toPS_lst : toPS S (.lst (l.map .str)) = some (.list (l.map PyData.str)) := by simp [toPS, atC, toP, toPs_strs]
theorem toPS_ref (hi : S[i]? = some (.lst (l.map .str))) : toPS S (.ref i) = some (.list (l.map PyData.str)) := by simp [toPS, atC, hi, toPs_strs]
end
/-- ints in a list -/
theorem toPs_ints : ∀ l : List Int, toPs (l.map D.int) = some (l.map PyData.int)
  | [] => rfl
  | x :: l => by simp [toPs, toP, toPs_ints l]
theorem lay_ints : ∀ l : List Int, PyData.canLayAll0 (l.map PyData.int) = true
  | [] => rfl
  | x :: l => by simp [PyData.canLayAll0, PyData.canLay0, lay_ints l]
theorem dep_ints : ∀ l : List Int, PyData.depthAll (l.map PyData.int) = 0
  | [] => rfl
  | x :: l => by simp [PyData.depthAll, PyData.depth, dep_ints l]
theorem any_ints {c : Int} (l : List Int) : ((l.map PyData.int).any fun z => PyData.eqv z (.int c)) = decide (c ∈ l) := by
  induction l with
  | nil => rfl
  | cons x l ih =>
    rw [List.map_cons, List.any_cons, ih]
    simp only [PyData.eqv, List.mem_cons]
    rw [Bool.beq_eq_decide_eq, ← Bool.decide_or]
    exact decide_eq_decide.mpr ⟨fun h => h.imp Eq.symm id, fun h => h.imp Eq.symm id⟩
theorem inB_ints {S : Store} {c : Int} {l : List Int} : inB S (.int c) (.lst (l.map .int)) = some (decide (c ∈ l)) := by
  have e1 : toPS S (.int c) = some (.int c) := rfl
  have e2 : toPS S (.lst (l.map .int)) = some (.list (l.map PyData.int)) := by simp [toPS, atC, toP, toPs_ints]
  have e3 : SeqAt.shaped (.list (l.map PyData.int)) = true := by simp [SeqAt.shaped, PyData.canLay0, lay_ints, PyData.depth, dep_ints]
  have e4 : SeqAt.shaped (.int c) = true := rfl
  simp only [inB, e1, e2, e3, e4, and_self, if_true, any_ints]
/-! ### walks -/
theorem rngD_cons (k n : Nat) : rngD (k : Int) (n + 1) = .int k :: rngD ((k + 1 : Nat) : Int) n := by
  simp only [rngD, List.range_succ_eq_map, List.map_cons, List.map_map]
  have e : (List.range n).map ((fun (i : Nat) => D.int ((k : Int) + (i : Int))) ∘ Nat.succ) = (List.range n).map fun (i : Nat) => D.int (((k + 1 : Nat) : Int) + (i : Int)) := List.map_congr_left fun a _ => by
    simp only [Function.comp_apply, D.int.injEq]
    omega
  rw [e]
  simp
theorem forGo_rngAux {b : Bind} {body : MS} {src : Src} {n : Nat} (I : Nat → Gm → Store → Prop) (hs : ∀ S, srcOk S src)
    (turn : ∀ k g S, k < n → I k g S → ∃ g1 g2 S2, b (.int k) g = some g1 ∧ (body g1 S = some (.nx g2, S2) ∨ body g1 S = some (.ct g2, S2)) ∧ I (k + 1) g2 S2) :
    ∀ (m k : Nat) (g : Gm) (S : Store), k + m = n → I k g S → ∃ g' S', forGo src b body (rngD (k : Int) m) g S = some (.nx g', S') ∧ I n g' S'
  | 0, k, g, S, hk, h => ⟨g, S, by simp only [rngD, List.range_zero, List.map_nil, forGo, if_pos (hs S)], by rw [← hk]; exact h⟩
  | m + 1, k, g, S, hk, h => by
    obtain ⟨g1, g2, S2, e1, e2, h2⟩ := turn k g S (by omega) h
    obtain ⟨g', S', e3, h3⟩ := forGo_rngAux I hs turn m (k + 1) g2 S2 (by omega) h2
    refine ⟨g', S', ?_, h3⟩
    rw [rngD_cons]
    rcases e2 with e2 | e2
    · simp only [forGo, if_pos (hs S), e1, e2, e3]
    · simp only [forGo, if_pos (hs S), e1, e2, e3]
/-- for k in range(n), never left -/
theorem forGo_rng {b : Bind} {body : MS} {n : Nat} (I : Nat → Gm → Store → Prop)
    (turn : ∀ k g S, k < n → I k g S → ∃ g1 g2 S2, b (.int k) g = some g1 ∧ (body g1 S = some (.nx g2, S2) ∨ body g1 S = some (.ct g2, S2)) ∧ I (k + 1) g2 S2) {g : Gm} {S : Store} (h : I 0 g S) :
    ∃ g' S', forGo (rngD 0 n, none) b body (rngD 0 n) g S = some (.nx g', S') ∧ I n g' S' :=
  forGo_rngAux (src := (rngD 0 n, none)) I (fun _ => True.intro) turn n 0 g S (by omega) h
theorem rngD0 (n : Nat) : rngD 0 n = (List.range n).map fun (k : Nat) => D.int k := by simp [rngD]
section
variable {vs : List Nat} {mi : M Src} {b : Bind} {mt : M Bool} {me : M D} {g : Gm} {S : Store} {n : Nat}
theorem lc_rng (f : Nat → D) (h1 : mi g S = some (.ok (rngD 0 n, none), S)) (hn : n ≤ 16777216) (h : ∀ k, k < n → ∃ g1, b (.int k) (wipeG g vs) = some g1 ∧ me g1 S = some (.ok (f k), S)) :
    mLc vs mi b (mP true) me g S = some (.ok (.lst ((List.range n).map f)), S) := by
  refine v_lc h1 ?_
  rw [lcGo_map (src := (rngD 0 n, none)) (fun d => match d with | .int k => f k.toNat | d => d) True.intro]
  · simp [rngD0]
  · intro d hd
    simp only [rngD0, List.mem_map, List.mem_range] at hd
    obtain ⟨k, hk, rfl⟩ := hd
    obtain ⟨g1, e1, e2⟩ := h k hk
    exact ⟨g1, e1, by simpa using e2⟩
  · simp [rngD]; omega
theorem lcC_rng (f : Nat → D) (h1 : mi g S = some (.ok (rngD 0 n, none), S)) (hn : n ≤ 16777216) (h : ∀ k, k < n → ∃ g1, b (.int k) (wipeG g vs) = some g1 ∧ me g1 S = some (.ok (f k), S)) :
    mLcC vs mi b (mP true) me g S = some (.ok (.ref S.length), S ++ [.lst ((List.range n).map f)]) := by
  have e : lcGo (rngD 0 n, none) b (mP true) me (wipeG g vs) (rngD 0 n) [] S = some ((List.range n).map f, S) := by
    rw [lcGo_map (src := (rngD 0 n, none)) (fun d => match d with | .int k => f k.toNat | d => d) True.intro]
    · simp [rngD0]
    · intro d hd
      simp only [rngD0, List.mem_map, List.mem_range] at hd
      obtain ⟨k, hk, rfl⟩ := hd
      obtain ⟨g1, e1, e2⟩ := h k hk
      exact ⟨g1, e1, by simpa using e2⟩
    · simp [rngD]; omega
  unfold mLcC mB
  rw [h1]
  simp only [e]
theorem lc_rngF (p : Nat → Bool) (f : Nat → D) (h1 : mi g S = some (.ok (rngD 0 n, none), S)) (hn : n ≤ 16777216) (h : ∀ k, k < n → ∃ g1, b (.int k) (wipeG g vs) = some g1 ∧ mt g1 S = some (.ok (p k), S) ∧ (p k = true → me g1 S = some (.ok (f k), S))) :
    mLc vs mi b mt me g S = some (.ok (.lst (((List.range n).filter p).map f)), S) := by
  refine v_lc h1 ?_
  rw [lcGo_filter (src := (rngD 0 n, none)) (fun d => match d with | .int k => p k.toNat | d => true) (fun d => match d with | .int k => f k.toNat | d => d) True.intro]
  · simp only [List.nil_append, rngD0, List.filter_map, List.map_map]
    rfl
  · intro d hd
    simp only [rngD0, List.mem_map, List.mem_range] at hd
    obtain ⟨k, hk, rfl⟩ := hd
    obtain ⟨g1, e1, e2, e3⟩ := h k hk
    exact ⟨g1, e1, by simpa using e2, by simpa using e3⟩
  · simp [rngD]; omega
theorem lc_strsF {l : List Str} {o : Option (Nat × List D)} (p : Str → Bool) (f : Str → D) (h1 : mi g S = some (.ok (l.map .str, o), S)) (hok : srcOk S (l.map .str, o)) (hn : l.length ≤ 16777216) (h : ∀ c ∈ l, ∃ g1, b (.str c) (wipeG g vs) = some g1 ∧ mt g1 S = some (.ok (p c), S) ∧ (p c = true → me g1 S = some (.ok (f c), S))) :
    mLc vs mi b mt me g S = some (.ok (.lst ((l.filter p).map f)), S) := by
  refine v_lc h1 ?_
  rw [lcGo_filter (src := (l.map D.str, o)) (fun d => match d with | .str k => p k | d => true) (fun d => match d with | .str k => f k | d => d) hok]
  · simp only [List.nil_append, List.filter_map, List.map_map]
    rfl
  · intro d hd
    obtain ⟨k, hk, rfl⟩ := List.mem_map.mp hd
    obtain ⟨g1, e1, e2, e3⟩ := h k hk
    exact ⟨g1, e1, e2, e3⟩
  · simp; omega
theorem lc_strs {l : List Str} {o : Option (Nat × List D)} (f : Str → D) (h1 : mi g S = some (.ok (l.map .str, o), S)) (hok : srcOk S (l.map .str, o)) (hn : l.length ≤ 16777216) (h : ∀ c ∈ l, ∃ g1, b (.str c) (wipeG g vs) = some g1 ∧ me g1 S = some (.ok (f c), S)) :
    mLc vs mi b (mP true) me g S = some (.ok (.lst (l.map f)), S) := by
  have := lc_strsF (mt := mP true) (fun _ => true) f h1 hok hn fun c hc => by
    obtain ⟨g1, e1, e2⟩ := h c hc
    exact ⟨g1, e1, rfl, fun _ => e2⟩
  rwa [List.filter_eq_self.mpr fun _ _ => rfl] at this
theorem lcC_strs {l : List Str} {o : Option (Nat × List D)} (f : Str → D) (h1 : mi g S = some (.ok (l.map .str, o), S)) (hok : srcOk S (l.map .str, o)) (hn : l.length ≤ 16777216) (h : ∀ c ∈ l, ∃ g1, b (.str c) (wipeG g vs) = some g1 ∧ me g1 S = some (.ok (f c), S)) :
    mLcC vs mi b (mP true) me g S = some (.ok (.ref S.length), S ++ [.lst (l.map f)]) := by
  have e : lcGo (l.map D.str, o) b (mP true) me (wipeG g vs) (l.map D.str) [] S = some (l.map f, S) := by
    rw [lcGo_map (src := (l.map D.str, o)) (fun d => match d with | .str k => f k | d => d) hok]
    · simp
    · intro d hd
      obtain ⟨k, hk, rfl⟩ := List.mem_map.mp hd
      exact h k hk
    · simp; omega
  unfold mLcC mB
  rw [h1]
  simp only [e]
end
end Mi
namespace Mi
open PySem L2 PySem.Spec PyProof.Rows
/-! ### set(xs), xs a list of texts -/
/-- the texts of l, each once -/
def once (l : List Str) : List Str := l.foldl (fun acc x => if x ∈ acc then acc else acc ++ [x]) []
theorem once_snoc (l : List Str) (x : Str) : once (l ++ [x]) = if x ∈ once l then once l else once l ++ [x] := by
  unfold once; rw [List.foldl_append]; rfl
theorem once_le (l : List Str) : (once l).length ≤ l.length := by
  suffices h : ∀ (l acc : List Str), (l.foldl (fun acc x => if x ∈ acc then acc else acc ++ [x]) acc).length ≤ acc.length + l.length by simpa [once] using h l []
  intro l
  induction l with
  | nil => intro acc; simp
  | cons x l ih =>
    intro acc
    rw [List.foldl_cons]
    refine Nat.le_trans (ih _) ?_
    split <;> simp <;> omega
/-- the set at a holds the texts of l -/
def HoldsS (P : Program) (w : World) (h : Heap) (a : Addr) (l : List Str) : Prop := h.SetOf (PySem.strKind P w) a (fun k => decide (k ∈ once l)) (once l).length
theorem HoldsS.keep {P : Program} {w : World} {h h' : Heap} {a : Addr} {l : List Str} (H : HoldsS P w h a l) (k : ∀ o, h.get? a = some o → h'.get? a = some o) : HoldsS P w h' a l :=
  let ⟨o, es, ep, t, ho, rest⟩ := H
  ⟨o, es, ep, t, k o ho, rest⟩
section
variable {P : Program} {w : World} {A : Around} {E : Value → Shared → Prop}
/-- one text more -/
theorem HoldsS.add {s : Shared} {a : Addr} {l : List Str} {x : Str} {t : Tok} {Q : Value → Shared → Prop} (H : HoldsS P w s.heap a l) (hr : l.length + 1 < scanBound)
    (h : ∀ b h' tk, s.toks ≤ tk → (∀ c o, c ≠ a → s.heap.get? c = some o → h'.get? c = some o) → HoldsS P w h' a (l ++ [x]) → Q (.bool b) { s with heap := h', toks := tk }) :
    wpAny (model P w) A (setAdd a (.str x t)) (fun b s' => Q (.bool b) s') E s := by
  have hroom : (once l).length + 1 < scanBound := by have := once_le l; omega
  have key : (PySem.strKind P w).is x (.str x t) = true := strKind_is P w x t
  unfold setAdd
  refine wpAny_holding (wpAny_bind ((PySem.strKind P w).pyHash key (wpAny_setAddHashed_of (knd := PySem.strKind P w) (s := { s with toks := s.toks + 1 }) key rfl H hroom fun h' same now => ?_)))
  refine h _ h' _ (Nat.le_succ _) (fun c o hc e => (same.2 c hc).trans e) ?_
  have e1 : (if decide (x ∈ once l) = true then (once l).length else (once l).length + 1) = (once (l ++ [x])).length := by
    rw [once_snoc]; by_cases q : x ∈ once l <;> simp [q]
  have e2 : ∀ k : Str, (decide (k ∈ once l) || decide (k = x)) = decide (k ∈ once (l ++ [x])) := fun k => by
    rw [once_snoc]
    by_cases q : x ∈ once l
    · simp only [q, if_true]
      by_cases q2 : k = x
      · subst q2; simp [q]
      · simp [q2]
    · simp [q]
  exact SetOf_congr now e2 e1
/-- the walk that fills it -/
theorem fill_strs {I a : Addr} {fp wr : List Addr} {G : Array GenState → Array GenState → Prop} {n : Nat} {Pv : Nat → Value → Prop} {St : Nat → Shared → Prop} {R : Result → Shared → Prop} (W : WalksS P w A.in1 I fp wr G n Pv St) (ha : a ∉ fp) (xs : List Str)
    (hn : n = xs.length) (hv : ∀ (i : Nat) (v : Value), Pv i v → ∃ x t, xs[i]? = some x ∧ v = Value.str x t) (hb : xs.length + 1 < scanBound) : ∀ (k i : Nat) (s : Shared), i + k = n → St i s → HoldsS P w s.heap a (xs.take i) →
      (∀ s', Moved (a :: wr) G s s' → HoldsS P w s'.heap a xs → R (.ok (.ret .none)) s') → codeAny (model P w) A (.builtin "set.update.loop" ⟨[.ref a, .ref I], []⟩) R s := by
  have aw : a ∉ wr := fun h => ha (W.sub _ h)
  have up : ∀ b ∈ wr, b ∈ a :: wr := fun b h => .tail _ h
  intro k
  induction k with
  | zero =>
    intro i s hi st H hR
    have hi' : i = n := hi
    subst hi'
    rw [hn, List.take_length] at H
    exact codeAny_builtin PyProof.Rows.F.entry_set_update_loop ((Around.under_plainId PyProof.Rows.F.plain_set_update_loop _).symm ▸ wpAny_bind (m := pyNext (.ref I)) (W.done s _ _ st fun s' hm => wpAny_pure (hR s' (hm.mono up) (H.keep fun o e => hm.heap a o aw e))))
  | succ k ih =>
    intro i s hi st H hR
    refine codeAny_builtin PyProof.Rows.F.entry_set_update_loop ((Around.under_plainId PyProof.Rows.F.plain_set_update_loop _).symm ▸ wpAny_bind (m := pyNext (.ref I)) (W.item i s _ _ (by omega) st fun v s' hp st' hm => ?_))
    obtain ⟨x, t, hx, rfl⟩ := hv i v hp
    have H' := H.keep (h' := s'.heap) fun o e => hm.heap a o aw e
    have ht : xs.take i ++ [x] = xs.take (i + 1) := by rw [List.take_add_one, hx]; rfl
    refine wpAny_bind (m := holding [Value.str x t] (setAdd a (.str x t))) (wpAny_holding (wpAny_mono (H'.add (t := t) (x := x) (Q := fun _ s2 => ∃ h' tk, s2 = { s' with heap := h', toks := tk } ∧ s'.toks ≤ tk ∧ (∀ c o, c ≠ a → s'.heap.get? c = some o → h'.get? c = some o) ∧ HoldsS P w h' a (xs.take (i + 1))) (by rw [List.length_take]; omega) fun b h' tk h1 h2 h3 => ⟨h', tk, rfl, h1, h2, ht ▸ h3⟩) (fun b s2 z => ?_) fun _ _ z => z))
    obtain ⟨h', tk, rfl, h1, h2, h3⟩ := z
    exact wpAny_pure ⟨plainId_quiet PyProof.Rows.F.plain_set_update_loop _, ih (i + 1) _ (by omega) (W.frame _ s' h' tk st' h1 fun b hb o e => h2 b o (fun q => ha (q ▸ hb)) e) h3 fun s3 hm3 H3 =>
      hR s3 (Moved.trans W.gtrans ((hm.mono up).then_heap h1 fun b o hb e => h2 b o (fun q => hb (q ▸ .head _)) e) hm3) H3⟩
/-- set(xs) -/
theorem call_set_strs {l : Addr} {items : Array Value} {xs : List Str} {s : Shared} {Q : Value → Shared → Prop} (hh : A.handled = none) (hl : s.heap.IsList l items) (hsz : items.size = xs.length) (hv : ∀ (i : Nat) (v : Value), items[i]? = some v → ∃ x t, xs[i]? = some x ∧ v = Value.str x t) (hb : xs.length + 1 < scanBound)
    (h : ∀ h' tk, HoldsS P w h' s.heap.objs.size xs → (∀ b o, s.heap.get? b = some o → h'.get? b = some o) → Q (.ref s.heap.objs.size) { s with heap := h', toks := tk }) : wpAny (model P w) A (call (.type "set") [.ref l]) Q E s := by
  obtain ⟨c, tl, hmro⟩ := PySem.F.called_set.mro
  have m1 := PySem.F.called_set.made; have m2 := PySem.F.called_set.sub; have m3 := PySem.F.called_set.notType; have m4 := PySem.F.called_set.canCreate; have m5 := PySem.F.typeCall_set_1 (.ref l)
  refine wpAny_call (codeAny_of_tree (show wpAny _ _ (callAny (.type "set") _) _ _ _ from ?_))
  refine wpAny_pure ⟨Code.quiet_builtin _ (by decide +kernel), codeAny_builtin PySem.F.entry_type_call ((Around.under_plain (weight_type_call_type "set" [.ref l] []) rfl).symm ▸ ?_)⟩
  repeat (any_goals (first | assumption | wp_step))
  let new : Bool → Heap := fun led => s.heap.push { cls := .type "set", dict := none, data := .set #[] 0 (.fresh 0 0 led) }
  refine codeAny_mono (code_set_new_1 (.ref l) (E := E) (Q₁ := fun obj z => ∃ led, obj = .ref s.heap.objs.size ∧ z = { s with heap := new led }) fun led => ⟨led, rfl, rfl⟩) fun r z hr => ?_
  match r, hr with
  | .error e, hr => exact hr
  | .ok .next, hr | .ok .brk, hr | .ok .cont, hr => exact hr.elim
  | .ok (.ret obj), hr =>
    obtain ⟨led, rfl, rfl⟩ := hr
    have at0 : (new led).get? s.heap.objs.size = some { cls := .type "set", dict := none, data := .set #[] 0 (.fresh 0 0 led) } := Heap.get?_push_size _ rfl
    have ty : Shared.TypeIs { s with heap := new led } (.ref s.heap.objs.size) "set" := ⟨_, at0, rfl⟩
    have i1 := PySem.F.called_set.init.lookup; have i2 := PySem.F.called_set.init.bind (.ref s.heap.objs.size)
    repeat (any_goals (first | assumption | wp_step))
    refine codeAny_mono (codeAny_call_builtin (R := wants (fun r z => r = .none ∧ ∃ h' tk, z = { s with heap := h', toks := tk } ∧ HoldsS P w h' s.heap.objs.size xs ∧ ∀ b o, s.heap.get? b = some o → h'.get? b = some o) E) PySem.F.called_set.init.plain PySem.F.entry_set_init (check_set_init_1 ty ?_)) fun r2 z2 hr2 => ?_
    · obtain ⟨⟨oc, od, oda, osl⟩, hol, hcl, nl, hdl⟩ := hl
      simp only at hcl hdl
      subst hcl hdl
      have hol' : (new led).get? l = some { cls := .type "list", dict := od, data := .seq items nl, slots := osl } := Heap.get?_push_of_some _ hol
      have q1 := PySem.F.sub_list_set; have q2 := PySem.F.sub_list_frozenset; have q3 : (Value.type "list" == Value.type "dict") = false := by decide
      have il : (new led).IsList l items := ⟨_, hol', rfl, nl, rfl⟩
      unfold Builtin.«set.__init__» noKeywords Builtin.Frozenset.updateFrom
      generalize hPI : pyIter = PI
      wp_walk
      subst hPI
      refine wpAny_pyIter_list il (wpAny_bind (wpAny_runValue ?_))
      have lt := Heap.lt_size hol
      have sz : (new led).objs.size = s.heap.objs.size + 1 := Heap.size_push ..
      have ne : l ≠ (new led).objs.size := sz ▸ Nat.ne_of_lt (Nat.lt_succ_of_lt lt)
      have out : s.heap.objs.size ∉ [(new led).objs.size, l] := by rw [sz]; simp only [List.mem_cons, List.not_mem_nil, or_false, not_or]; exact ⟨Nat.ne_of_lt (Nat.lt_succ_self _), Nat.ne_of_gt lt⟩
      have at1 : ((new led).push { cls := .type "list_iterator", data := .fields #[.ref l, .int 0 0] }).get? s.heap.objs.size = some { cls := .type "set", dict := none, data := .set #[] 0 (.fresh 0 0 led) } := Heap.get?_push_of_some _ at0
      refine fill_strs ((Walks.list (by simp [hh]) _ l ne items).toS) out xs hsz hv hb items.size 0 _ (by omega) ⟨⟨_, Heap.get?_push_size _ rfl, rfl, rfl⟩, il.push _⟩ (SetOf_congr ((setObjOf_fresh (knd := PySem.strKind P w) led).setOf at1 (by unfold scanBound; omega)) (fun _ => rfl) rfl) fun ⟨h', g', d', tk', os'⟩ hm H' => ?_
      obtain ⟨k1, k2, k3, k4, k5⟩ := hm
      have k2' : g' = s.gens := k2
      have k3' : d' = s.drawn := k3
      have k4' : os' = s.os := k4
      subst k2' k3' k4'
      refine wpAny_pure (wpAny_pure ⟨rfl, h', tk', rfl, H', fun b o e => k1 b o (fun hb => ?_) (Heap.get?_push_of_some _ (Heap.get?_push_of_some _ e))⟩)
      have lb := Heap.lt_size e
      simp only [List.mem_cons, List.not_mem_nil, or_false, sz] at hb
      rcases hb with rfl | rfl
      · exact Nat.lt_irrefl _ lb
      · exact Nat.lt_irrefl _ (Nat.lt_of_succ_lt lb)
    · match r2, hr2 with
      | .error e, hr => exact hr
      | .ok .next, hr | .ok .brk, hr | .ok .cont, hr => exact hr.elim
      | .ok (.ret r), hr =>
        obtain ⟨rfl, h', tk, rfl, H', hk⟩ := hr
        repeat (any_goals (first | assumption | wp_step))
        exact h _ _ H' hk
/-- set(xs), xs a tuple -/
theorem call_set_strsT {l : Addr} {items : Array Value} {xs : List Str} {s : Shared} {Q : Value → Shared → Prop} (hh : A.handled = none) (hl : s.heap.IsTuple l items) (hsz : items.size = xs.length) (hv : ∀ (i : Nat) (v : Value), items[i]? = some v → ∃ x t, xs[i]? = some x ∧ v = Value.str x t) (hb : xs.length + 1 < scanBound)
    (h : ∀ h' tk, HoldsS P w h' s.heap.objs.size xs → (∀ b o, s.heap.get? b = some o → h'.get? b = some o) → Q (.ref s.heap.objs.size) { s with heap := h', toks := tk }) : wpAny (model P w) A (call (.type "set") [.ref l]) Q E s := by
  obtain ⟨c, tl, hmro⟩ := PySem.F.called_set.mro
  have m1 := PySem.F.called_set.made; have m2 := PySem.F.called_set.sub; have m3 := PySem.F.called_set.notType; have m4 := PySem.F.called_set.canCreate; have m5 := PySem.F.typeCall_set_1 (.ref l)
  refine wpAny_call (codeAny_of_tree (show wpAny _ _ (callAny (.type "set") _) _ _ _ from ?_))
  refine wpAny_pure ⟨Code.quiet_builtin _ (by decide +kernel), codeAny_builtin PySem.F.entry_type_call ((Around.under_plain (weight_type_call_type "set" [.ref l] []) rfl).symm ▸ ?_)⟩
  repeat (any_goals (first | assumption | wp_step))
  let new : Bool → Heap := fun led => s.heap.push { cls := .type "set", dict := none, data := .set #[] 0 (.fresh 0 0 led) }
  refine codeAny_mono (code_set_new_1 (.ref l) (E := E) (Q₁ := fun obj z => ∃ led, obj = .ref s.heap.objs.size ∧ z = { s with heap := new led }) fun led => ⟨led, rfl, rfl⟩) fun r z hr => ?_
  match r, hr with
  | .error e, hr => exact hr
  | .ok .next, hr | .ok .brk, hr | .ok .cont, hr => exact hr.elim
  | .ok (.ret obj), hr =>
    obtain ⟨led, rfl, rfl⟩ := hr
    have at0 : (new led).get? s.heap.objs.size = some { cls := .type "set", dict := none, data := .set #[] 0 (.fresh 0 0 led) } := Heap.get?_push_size _ rfl
    have ty : Shared.TypeIs { s with heap := new led } (.ref s.heap.objs.size) "set" := ⟨_, at0, rfl⟩
    have i1 := PySem.F.called_set.init.lookup; have i2 := PySem.F.called_set.init.bind (.ref s.heap.objs.size)
    repeat (any_goals (first | assumption | wp_step))
    refine codeAny_mono (codeAny_call_builtin (R := wants (fun r z => r = .none ∧ ∃ h' tk, z = { s with heap := h', toks := tk } ∧ HoldsS P w h' s.heap.objs.size xs ∧ ∀ b o, s.heap.get? b = some o → h'.get? b = some o) E) PySem.F.called_set.init.plain PySem.F.entry_set_init (check_set_init_1 ty ?_)) fun r2 z2 hr2 => ?_
    · obtain ⟨⟨oc, od, oda, osl⟩, hol, hcl, nl, hdl⟩ := hl
      simp only at hcl hdl
      subst hcl hdl
      have hol' : (new led).get? l = some { cls := .type "tuple", dict := od, data := .seq items nl, slots := osl } := Heap.get?_push_of_some _ hol
      have q1 := PySem.F.sub_tuple_set; have q2 := PySem.F.sub_tuple_frozenset; have q3 : (Value.type "tuple" == Value.type "dict") = false := by decide
      have il : (new led).IsTuple l items := ⟨_, hol', rfl, nl, rfl⟩
      unfold Builtin.«set.__init__» noKeywords Builtin.Frozenset.updateFrom
      generalize hPI : pyIter = PI
      wp_walk
      subst hPI
      refine wpAny_pyIter_tuple il (wpAny_bind (wpAny_runValue ?_))
      have lt := Heap.lt_size hol
      have sz : (new led).objs.size = s.heap.objs.size + 1 := Heap.size_push ..
      have ne : l ≠ (new led).objs.size := sz ▸ Nat.ne_of_lt (Nat.lt_succ_of_lt lt)
      have out : s.heap.objs.size ∉ [(new led).objs.size, l] := by rw [sz]; simp only [List.mem_cons, List.not_mem_nil, or_false, not_or]; exact ⟨Nat.ne_of_lt (Nat.lt_succ_self _), Nat.ne_of_gt lt⟩
      have at1 : ((new led).push { cls := .type "tuple_iterator", data := .fields #[.ref l, .int 0 0] }).get? s.heap.objs.size = some { cls := .type "set", dict := none, data := .set #[] 0 (.fresh 0 0 led) } := Heap.get?_push_of_some _ at0
      refine fill_strs ((Walks.tuple (by simp [hh]) _ l ne items).toS) out xs hsz hv hb items.size 0 _ (by omega) ⟨⟨_, Heap.get?_push_size _ rfl, rfl, rfl⟩, il.push _⟩ (SetOf_congr ((setObjOf_fresh (knd := PySem.strKind P w) led).setOf at1 (by unfold scanBound; omega)) (fun _ => rfl) rfl) fun ⟨h', g', d', tk', os'⟩ hm H' => ?_
      obtain ⟨k1, k2, k3, k4, k5⟩ := hm
      have k2' : g' = s.gens := k2
      have k3' : d' = s.drawn := k3
      have k4' : os' = s.os := k4
      subst k2' k3' k4'
      refine wpAny_pure (wpAny_pure ⟨rfl, h', tk', rfl, H', fun b o e => k1 b o (fun hb => ?_) (Heap.get?_push_of_some _ (Heap.get?_push_of_some _ e))⟩)
      have lb := Heap.lt_size e
      simp only [List.mem_cons, List.not_mem_nil, or_false, sz] at hb
      rcases hb with rfl | rfl
      · exact Nat.lt_irrefl _ lb
      · exact Nat.lt_irrefl _ (Nat.lt_of_succ_lt lb)
    · match r2, hr2 with
      | .error e, hr => exact hr
      | .ok .next, hr | .ok .brk, hr | .ok .cont, hr => exact hr.elim
      | .ok (.ret r), hr =>
        obtain ⟨rfl, h', tk, rfl, H', hk⟩ := hr
        repeat (any_goals (first | assumption | wp_step))
        exact h _ _ H' hk
end
section
variable {X : Cx} {cl : Cl} {tk : WX → Prop} [T : Tk X tk]
/-- len(set(e)) -/
noncomputable def strsOnly : List D → Option (List Str)
  | [] => some []
  | .str x :: r => (strsOnly r).map fun l => x :: l
  | _ :: _ => none
theorem strsOnly_ok {K : PySem.W.Frag} {φ : List Addr} {G : Hp} : ∀ {l : List D} {xs : List Str} {vs : List V}, strsOnly l = some xs → IsDs K φ G l vs → vs = xs.map V.str
  | [], _, _, h, hv => by simp only [strsOnly] at h; cases h; exact hv.nil_inv
  | d :: r, _, _, h, hv => by
    obtain ⟨v, t, rfl, h1, h2⟩ := hv.cons_inv
    cases d <;> simp only [strsOnly] at h <;> try (cases h; done)
    rename_i x
    cases q : strsOnly r with
    | none => rw [q] at h; cases h
    | some l =>
      rw [q] at h; cases h
      simp only [Mi.IsD] at h1
      rw [h1, strsOnly_ok q h2]; rfl
noncomputable def mLenSet (m : M D) : M D := mB m fun d => mL fun S => (asL S d).bind fun l => (strsOnly l).bind fun xs => if cdec (xs.length ≤ 64) = true then some (.int (once xs).length) else none
theorem vals_strs : ∀ {xs : List Str} {us : List Value}, Vals (xs.map V.str) us → us.length = xs.length ∧ ∀ (i : Nat) (v : Value), us[i]? = some v → ∃ x t, xs[i]? = some x ∧ v = Value.str x t
  | [], _, .nil => ⟨rfl, fun i v h => by simp at h⟩
  | x :: xs, _, .cons r t => by
    obtain ⟨h1, h2⟩ := vals_strs t
    obtain ⟨tk, rfl⟩ := r
    refine ⟨by simp [h1], fun i v h => ?_⟩
    match i, h with
    | 0, h => simp at h; exact ⟨x, tk, rfl, h.symm⟩
    | i + 1, h => simp at h; simpa using h2 i v h
theorem re_lenSet {a : Expr} {p p2 q pos : Pos} {ma : M D} (hm : X.mg "len" = none) (hm2 : X.mg "set" = none) (ha : RE X cl tk a ma) (hc : X.calm = true := by rfl) (hg : Gl X "len" := by rfl) (hg2 : Gl X "set" := by rfl)
    (na : starEach [a] X.env = (false, eval a X.env) :: starEach [] X.env := by rfl) : RE X cl tk (.Call (.Name "len" p) [.Call (.Name "set" p2) [a] [] q] [] pos) (mLenSet ma) := by
  refine ⟨fun pins s σ H Q I h => ?_⟩
  obtain ⟨φ, G, g, S, r, S', w, sl, e, k⟩ := h
  refine Call_ (ld_blt I hg hm PySem.boot_len (PyProof.Rows.callWith_builtin1 (PyProof.Rows.args_cons (Call_ (ld_blt I hg2 hm2 PyProof.Rows.boot_set (PyProof.Rows.callWith_type1 (PyProof.Rows.args_cons (?_) na) na rfl))) rfl) rfl rfl))
  rcases mB_ok e with ⟨d, S1, e1, e2⟩ | ⟨c, fs, e1, rfl⟩
  · refine thn (ha.run pins s σ H (fun x H1 => ∃ φ1 G1, Step φ G H φ1 G1 H1 ∧ Wd X.K cl φ1 S1 G1 H1 ∧ IsD X.K φ1 G1 d x) I ⟨φ, G, g, S, _, _, w, sl, e1, fun φ1 G1 H1 st w1 v hv => ⟨φ1, G1, st, w1, hv⟩⟩) fun v s1 ⟨x, H1, I1, r1, φ1, G1, st, w1, hx⟩ => PyProof.Rows.args_nil ?_
    obtain ⟨z, ez, rfl, rfl⟩ := mL_ok e2
    cases q1 : asL S' d with
    | none => rw [q1] at ez; cases ez
    | some l =>
      rw [q1, Option.bind_some] at ez
      cases q2 : strsOnly l with
      | none => rw [q2] at ez; cases ez
      | some xs =>
        rw [q2, Option.bind_some] at ez
        split at ez
        · rename_i hz
          cases ez
          have hz' : xs.length ≤ 64 := cdec_iff.mp hz
          obtain ⟨b, ys, rfl, h1, h2⟩ := asL_sq w1 hx q1
          have ey := strsOnly_ok q2 h2
          subst ey
          cases r1
          have sb : xs.length + 1 < scanBound := by unfold scanBound; omega
          have fin : ∀ h' tk', HoldsS X.prog X.w h' s1.heap.objs.size xs → (∀ b o, s1.heap.get? b = some o → h'.get? b = some o) → wpAny (model X.prog X.w) X.A (call (.builtin "len") [.ref s1.heap.objs.size]) (EP X pins σ Q) X.xe { s1 with heap := h', toks := tk' } := fun h' tk' hS hk => by
            obtain ⟨o, es, ep, t, ho, hex, hd, _, _, _, hf, hn⟩ := hS
            have I2 : Inv X pins σ H1 { s1 with heap := h', toks := tk' } := I1.kept fun b o e => hk b o e
            have hle := once_le xs
            refine call_len_set ho hex hd hf (by rw [hn]; omega) ⟨.int (once xs).length, H1, I2.tok _, ⟨_, by rw [hn]⟩, ?_⟩
            exact (k.step T.ok st).now w1 _ (by simp only [Mi.IsD])
          rcases h1 with h1 | h1
          · obtain ⟨its, rv, pl, hsz⟩ := I1.list h1
            obtain ⟨v1, v2⟩ := vals_strs rv
            exact call_set_strs (xs := xs) (I1.ok.hd hc) pl.isList (by rw [List.size_toArray]; exact v1) (fun i v hi => v2 i v (by simpa using hi)) sb fun h' tk' hS hk => PyProof.Rows.args_nil (fin h' tk' hS hk)
          · obtain ⟨its, rv, pl, hsz⟩ := I1.tuple h1
            obtain ⟨v1, v2⟩ := vals_strs rv
            exact call_set_strsT (xs := xs) (I1.ok.hd hc) pl (by rw [List.size_toArray]; exact v1) (fun i v hi => v2 i v (by simpa using hi)) sb fun h' tk' hS hk => PyProof.Rows.args_nil (fin h' tk' hS hk)
        · cases ez
  · exact thn (ha.run pins s σ H (fun _ _ => False) I ⟨φ, G, g, S, _, _, w, sl, e1, k⟩) fun v s1 ⟨_, _, _, _, z⟩ => z.elim
end
end Mi
namespace Mi
open PySem L2
section
variable {X : Cx} {cl : Cl} {tk : WX → Prop} [T : Tk X tk]
/-! ### enumerate -/
def enumF : Int → List D → List D
  | _, [] => []
  | k, d :: r => .tup [.int k, d] :: enumF (k + 1) r
theorem enumF_len : ∀ (k : Int) (l : List D), (enumF k l).length = l.length
  | _, [] => rfl
  | k, d :: r => by simp only [enumF, List.length_cons, enumF_len (k + 1) r]
theorem enumF_get : ∀ (k : Int) (l : List D) (i : Nat) (d : D), (enumF k l)[i]? = some d → ∃ e, l[i]? = some e ∧ d = .tup [.int (k + i), e]
  | _, [], _, _, h => by simp [enumF] at h
  | k, e :: r, 0, d, h => by simp [enumF] at h; exact ⟨e, rfl, by simp [← h]⟩
  | k, e :: r, i + 1, d, h => by
    simp only [enumF, List.getElem?_cons_succ] at h
    obtain ⟨z, h1, h2⟩ := enumF_get (k + 1) r i d h
    refine ⟨z, by simpa using h1, ?_⟩
    rw [h2]
    have : k + 1 + (i : Int) = k + ((i + 1 : Nat) : Int) := by omega
    rw [this]
def mEnum (m : M (List D)) : M Src := mB m fun ds => mL fun _ => match ds with
  | [.lst l] => some (enumF 0 l, none)
  | _ => none
theorem walk_enumD {K : PySem.W.Frag} {φ : List Addr} {G H : Hp} {a' : Addr} {xs : List V} {l : List D} (h1 : G a' = some (.lst xs)) (h2 : IsDs K φ G l xs) : WalkD K cl (Ite K a') φ G H (enumF 0 l, none) := by
  have hl : (enumF 0 l).length = xs.length := by rw [enumF_len, h2.length]
  refine ⟨fun H => SqL K H a' xs, YPair (fun i => some (.int (i : Nat))) (fun i => xs[i]?), hl ▸ walk_enum, fun φ' S' G' H' st w' _ => SqL.of (w'.sub _ _ (st.ex _ _ h1)), fun φ' S' G' H' i d v H2 st w' _ hd ⟨TT, x, y, h3, h4, h5, h6, h7⟩ => ?_⟩
  subst h3 h5
  cases h6
  obtain ⟨e, h8, rfl⟩ := enumF_get 0 l i d hd
  obtain ⟨z, h9, h10⟩ := h2.get h8
  have h7' : xs[i]? = some y := h7
  rw [h7'] at h9; cases h9
  refine ⟨upd G' TT (.tup [.int (i : Nat), y]), fresh_step w' h4 _, fresh_wd w' h4 _, ?_⟩
  have ex : Ex G' (upd G' TT (.tup [.int (i : Nat), y])) := (fresh_step w' h4 (.tup [.int (i : Nat), y])).ex
  simp only [Mi.IsD]
  refine ⟨TT, _, rfl, SqT.of upd_same, .cons (by simp only [Mi.IsD]; simp) (.cons ((h10.mono st.pre st.ex).mono (List.prefix_refl _) ex) .nil)⟩
theorem ri_enum {p pos tpos : Pos} {e : Expr} {elts : List Expr} {kk : Nat} {ma : M (List D)} (hm : X.mg "enumerate" = none) (ha : RA X cl tk [e] ma) (hg : Gl X "enumerate" := by rfl) (hs : starEach [e] X.env = [(false, eval e X.env)] := by rfl) :
    RI X cl tk (.Tuple elts kk tpos) (.Call (.Name "enumerate" p) [e] [] pos) (mEnum ma) := by
  refine pi_imp (pi_enum hg hm ha hs) fun σ H R ⟨φ, G, g, S, r, S', w, s, e, k⟩ => ?_
  refine tMA_bind T.ok w s e k fun ds φ1 G1 H1 S1 xs st1 w1 s1 hxs e1 k1 => ?_
  obtain ⟨z, ez, rfl, rfl⟩ := mL_ok e1
  split at ez
  · rename_i l
    cases ez
    obtain ⟨v, r, rfl, hv, hr⟩ := hxs.cons_inv
    rw [hr.nil_inv]
    simp only [Mi.IsD] at hv
    obtain ⟨a, ys, rfl, h1, h2⟩ := hv
    exact ⟨a, ys, rfl, SqL.of (w1.sub _ _ h1), k1.now w1 _ (walk_enumD h1 h2)⟩
  · cases ez
end
end Mi
namespace Mi
open PySem L2
/-! ### a property, read -/
/-- where class c's property f stands and what its getter promises -/
def PropK (X : Cx) (cl : Cl) (k : Nat) (f : Str) (c : Nat) (mf : MF) : Prop := ∃ p fg fd ps, L2.Cls X.K (cl.at_ c) ∧ L2.PropOf X.K (cl.at_ c) f p fg ∧ L2.Binds X.K fd ps [] ∧ FnOk X.prog X.w X.K X.mg X.base (L2.CX X.prog X.w) k fg fd ps (spM X.K cl mf)
def mProp (tab : Nat → Option MF) (mo : M D) : M D := fun g S => match mo g S with
  | some (.ok (.ref i), S1) => match S1[i]? with
    | some (.ins c _) => match tab c with
      | some mf => match mf [.ref i] S1 with
        | some (.ok d, S2) => some (.ok d, S2)
        | _ => none
      | none => none
    | _ => none
  | some (.exc c fs, S1) => some (.exc c fs, S1)
  | _ => none
section
variable {X : Cx} {cl : Cl} {tk : WX → Prop} [T : Tk X tk]
theorem re_prop {k : Nat} {tab : Nat → Option MF} {o : Expr} {f : Str} {pos : Pos} {mo : M D} (ht : ∀ c mf, tab c = some mf → PropK X cl k f c mf) (hr : Room (k + 1) X.A) (ho : RE X cl tk o mo) (hab : attributeBase o f X.env (eval o X.env) = eval o X.env := by rfl) :
    RE X cl tk (.Attribute o f pos) (mProp tab mo) := by
  refine ⟨fun pins s σ H Q I ⟨φ, G, g, S, r, S', w, sl, e1, kq⟩ => ?_⟩
  unfold mProp at e1
  split at e1
  · rename_i i S1 q1
    split at e1
    · rename_i c fs q2
      split at e1
      · rename_i mf q3
        split at e1
        · rename_i d S2 q4
          cases e1
          obtain ⟨p, fg, fd, ps, h1, h2, h3, F⟩ := ht c mf q3
          refine attr_of hab (thn (ho.run pins s σ H (fun x H1 => ∃ φ1 G1 a, x = .ref a ∧ φ1[i]? = some a ∧ Step φ G H φ1 G1 H1 ∧ Wd X.K cl φ1 S1 G1 H1) I ⟨φ, G, g, S, _, _, w, sl, q1, fun φ1 G1 H1 st w1 v hv => ?_⟩) fun u s1 ⟨x, H1, I1, rx, φ1, G1, a, ex, ea, st, w1⟩ => ?_)
          · simp only [Mi.IsD] at hv
            obtain ⟨a, rfl, ha⟩ := hv
            exact ⟨φ1, G1, a, rfl, ha, st, w1⟩
          · subst ex
            obtain rfl : u = Value.ref a := rx
            obtain ⟨dx, fv, n1, n2⟩ := w1.ok _ _ _ q2 ea
            refine getprop_ok (dvs := []) (ds := []) (E := fun _ _ _ => False) I1 n1 h1 h2 F hr h3 .nil (fun _ _ _ _ _ _ _ z => (cx_never z).elim) ?_
            exact ⟨φ1, G1, S1, [.ref i], _, _, w1, .cons (by simp only [Mi.IsD]; exact ⟨a, rfl, ea⟩) .nil, q4, fun φ2 G2 H2 st2 w2 v hv => kq φ2 G2 H2 (st.trans st2) w2 v hv⟩
        · cases e1
      · cases e1
    · cases e1
  · rename_i c fs S1 q1
    cases e1
    exact attr_of hab (thn (ho.run pins s σ H (fun _ _ => False) I ⟨φ, G, g, S, _, _, w, sl, q1, kq⟩) fun u s1 ⟨_, _, _, _, z⟩ => z.elim)
  · cases e1
/-! ### an instance is called -/
/-- class c's __call__ -/
def CallK (X : Cx) (cl : Cl) (k n : Nat) (ks : List Str) (dd : List D) (c : Nat) (mf : MF) : Prop := ∃ f fd ps, PySem.W.findIn X.K (.ref (cl.at_ c)) "__call__" = some (some (.ref f)) ∧ PySem.W.isFn X.K (.ref f) = true ∧ PySem.W.fnIn X.K f = true ∧ KB X.K fd ps n ks dd ∧ FnOk X.prog X.w X.K X.mg X.base (L2.CX X.prog X.w) k f fd ps (spM X.K cl mf)
def mCallO (tab : Nat → Option MF) (n m : Nat) (dd : List D) (mo : M D) (ma mk : M (List D)) : M D := fun g S => match mo g S with
  | some (.ok (.ref i), S1) => match S1[i]? with
    | some (.ins c _) => match tab c with
      | some mf => match ma g S1 with
        | some (.ok ds, S2) => match mk g S2 with
          | some (.ok zs, S3) => if ds.length + 1 = n ∧ zs.length = m then match S3[i]? with
            | some (.ins c' _) => if c' = c then mf (.ref i :: (ds ++ (zs ++ dd))) S3 else none
            | _ => none else none
          | _ => none
        | _ => none
      | none => none
    | _ => none
  | _ => none
theorem run_callO {k n : Nat} {ks : List Str} {dd : List D} {c i : Nat} {mf : MF} {a : Addr} {dx : Addr} {fv : List (Str × V)} {ds zs : List D} {us ws : List Value} {vs xs : List V} {pins : List (Addr × Obj)} {σ : L2.St} {φ : List Addr} {S S' : Store} {G H : Hp} {s : Shared} {r : R D} {Q : VK} {g : Gm}
    (C : CallK X cl k n ks dd c mf) (hr : Room k X.A) (I : Inv X pins σ H s) (ha : φ[i]? = some a) (n1 : H a = some (.ins (cl.at_ c) dx fv)) (rv : Vals vs us) (rz : Vals xs ws) (l1 : ds.length + 1 = n) (l2 : zs.length = ks.length) (sl : Sl X.K cl φ G g σ) (w : Wd X.K cl φ S G H)
    (h1 : IsDs X.K φ G ds vs) (h2 : IsDs X.K φ G zs xs) (e : mf (.ref i :: (ds ++ (zs ++ dd))) S = some (r, S')) (kq : Ko X.K cl tk φ G H g r S' fun φ' G' H' d => ∀ v, IsD X.K φ' G' d v → Q v H') :
    ∃ od, PySem.W.kco_P X.K a (cl.at_ c) (PySem.W.instObj (cl.at_ c) dx) (some od) s.heap ∧ wpAny (model X.prog X.w) X.A (call (.ref a) us (ks.zip ws)) (EP X pins σ Q) X.xe s := by
  obtain ⟨f, fd, ps, h3, h4, h5, hb, F⟩ := C
  obtain ⟨gv, dv, hb, hdd⟩ := hb.ex
  obtain ⟨mA, O, _⟩ := ins_get I.hok n1
  obtain ⟨od, ho', _⟩ := lookIn_ns O.ns
  have J : PySem.W.InstAt s.heap a (PySem.W.instObj (cl.at_ c) dx) (cl.at_ c) (some od) := ⟨O.obj, rfl, rfl, ho'⟩
  let E : XK := EofR X.K cl φ G H S' r
  have hd : IsDs X.K φ G (.ref i :: (ds ++ (zs ++ dd))) (V.ref a :: vs ++ (xs ++ dv)) := .cons (by simp only [Mi.IsD]; exact ⟨a, rfl, ha⟩) (h1.append (h2.append (hdd _ _)))
  have sp : spM X.K cl mf (V.ref a :: vs ++ (xs ++ dv)) H Q E := by
    refine ⟨φ, G, S, _, r, S', w, hd, e, ?_⟩
    cases r with
    | ok d => exact kq
    | exc c fs => exact fun cls dd φ' G' H' q => ⟨φ', G', q⟩
  have rv2 : Vals (V.ref a :: vs) (Value.ref a :: us) := .cons rfl rv
  have r2 := hb.rel rv2 rz
  refine ⟨od, ⟨I.kIn, J⟩, wpAny_call (PySem.W.kco_code I.kIn J rfl h3 h4 h5 (codeAny_mono (F.run X.A X.stack s H ⟨.ref a :: us, ks.zip ws⟩ (gv (.ref a :: us) ws) _ Q E hr I.env0 (hb.to s (.ref a :: us) ws I.kIn (by rw [List.length_cons, ← rv.length, ← h1.length]; exact l1) (by rw [← rz.length, ← h2.length]; exact l2)) r2 sp) fun r' s' hq => ?_))⟩
  cases r' with
  | error e' =>
    cases r with
    | ok d =>
      obtain ⟨_, _, _, _, _, _, _, _, _, _, _, _, z⟩ := (show L2.CX X.prog X.w X.stack H s E e' s' from hq)
      exact z.elim
    | exc c fs => exact T.tk _ kq e' s' (XE.of_call (E := EofR X.K cl φ G H S' (.exc c fs)) I (fun cls d H' ⟨φ', G', q⟩ => ⟨φ', G', q, sl.step q.1⟩) hq)
  | ok fl =>
    cases fl with
    | ret u => exact I.after hq
    | next => exact False.elim hq
    | brk => exact False.elim hq
    | cont => exact False.elim hq
/-- the positional arguments -/
structure PosA (X : Cx) (cl : Cl) (tk : WX → Prop) (es : List Expr) (ma : M (List D)) : Prop where
  run : ∀ (pos : Pos) (pins : List (Addr × Obj)) (s : Shared) (σ : L2.St) (H : Hp) (f : Value) (kws : List Keyword) (Q : List V → Hp → Prop) (Qa : Args → Shared → Prop), Inv X pins σ H s → tMA X.K cl tk ma σ H Q → (backToKw pos (keywordEach kws X.env)).all (·.1.isSome) = true →
    (∀ vs us H1 s1, Inv X pins σ H1 s1 → Vals vs us → Q vs H1 → wpAny (model X.prog X.w) X.A (evalAll ((backToKw pos (keywordEach kws X.env)).map (·.2))) (fun ks s2 => Qa ⟨us, ((backToKw pos (keywordEach kws X.env)).filterMap (·.1)).zip ks⟩ s2) X.xe s1) →
    wpAny (model X.prog X.w) X.A (evalArgs f true (backTo pos (starEach es X.env)) (backToKw pos (keywordEach kws X.env))) Qa X.xe s
theorem pos_nil : PosA X cl tk [] mNil := ⟨fun pos pins s σ H f kws Q Qa I ⟨φ, G, g, S, r, S', w, sl, e, k⟩ hall h => by
  cases e
  exact PyProof.Rows.evalArgs_kw2_nil hall (h [] [] H s I .nil (k.now w _ .nil))⟩
theorem pos_cons {e : Expr} {es : List Expr} {ma : M (List D)} (ha : RA X cl tk (e :: es) ma) (he : starEach (e :: es) X.env = (false, eval e X.env) :: starEach es X.env := by rfl) : PosA X cl tk (e :: es) ma := ⟨fun pos pins s σ H f kws Q Qa I hq hall h =>
  PyProof.Rows.evalArgs_kw2 hall (thn (ha.run pos pins s σ H Q I hq) fun us s1 ⟨vs, H1, I1, rv, q⟩ => h vs us H1 s1 I1 rv q) he⟩
theorem re_callO {k n m : Nat} {ks : List Str} {dd : List D} {tab : Nat → Option MF} {x : Str} {p pos : Pos} {es : List Expr} {kws : List Keyword} {mo : M D} {ma mk : M (List D)} (ht : ∀ c mf, tab c = some mf → CallK X cl k n ks dd c mf) (hr : Room k X.A) (ho : RE X cl tk (.Name x p) mo) (ha : PosA X cl tk es ma) (hkw : RK X cl tk kws mk)
    (hm : m = ks.length := by rfl) (hall : (backToKw pos (keywordEach kws X.env)).all (·.1.isSome) = true := by rfl) (hks : (backToKw pos (keywordEach kws X.env)).filterMap (·.1) = ks := by rfl)
    (hpl : ((backTo pos (starEach es X.env)).any (·.1) || (backToKw pos (keywordEach kws X.env)).any (·.1.isNone)) = false := by rfl) : RE X cl tk (.Call (.Name x p) es kws pos) (mCallO tab n m dd mo ma mk) := by
  subst hm
  refine ⟨fun pins s σ H Q I ⟨φ, G, g, S, r, S', w, sl, e1, kq⟩ => ?_⟩
  refine wpAny_Call_Name_kw ?_
  unfold mCallO at e1
  split at e1
  · rename_i i S1 q1
    split at e1
    · rename_i c fs q2
      split at e1
      · rename_i mf q3
        refine thn (ho.run pins s σ H (fun x H1 => ∃ φ1 G1 a, x = .ref a ∧ φ1[i]? = some a ∧ Step φ G H φ1 G1 H1 ∧ Wd X.K cl φ1 S1 G1 H1) I ⟨φ, G, g, S, _, _, w, sl, q1, fun φ1 G1 H1 st w1 v hv => ?_⟩) fun u s1 ⟨x, H1, I1, rx, φ1, G1, a, ex, ea, st, w1⟩ => ?_
        · simp only [Mi.IsD] at hv
          obtain ⟨a, rfl, ha⟩ := hv
          exact ⟨φ1, G1, a, rfl, ha, st, w1⟩
        · subst ex
          have eu : u = Value.ref a := rx
          subst eu
          split at e1
          · rename_i ds S2 q4
            split at e1
            · rename_i zs S3 q5
              split at e1
              · rename_i hl
                obtain ⟨l1, l2⟩ := hl
                have C := ht c mf q3
                obtain ⟨fs3, q6, e1⟩ : ∃ fs3, S3[i]? = some (.ins c fs3) ∧ mf (.ref i :: (ds ++ (zs ++ dd))) S3 = some (r, S') := by
                  split at e1
                  · rename_i c' fs' q6
                    split at e1
                    · rename_i ec; subst ec; exact ⟨fs', q6, e1⟩
                    · cases e1
                  · cases e1
                have main : ∀ (vs : List V) (us : List Value) (xs : List V) (ws : List Value) (φ3 : List Addr) (G3 H3 : Hp) (s3 : Shared), Inv X pins σ H3 s3 → Vals vs us → Vals xs ws → Step φ1 G1 H1 φ3 G3 H3 → Wd X.K cl φ3 S3 G3 H3 → IsDs X.K φ3 G3 ds vs → IsDs X.K φ3 G3 zs xs →
                    ∃ dx od, PySem.W.kco_P X.K a (cl.at_ c) (PySem.W.instObj (cl.at_ c) dx) (some od) s3.heap ∧ wpAny (model X.prog X.w) X.A (call (.ref a) us (ks.zip ws)) (EP X pins σ Q) X.xe s3 := fun vs us xs ws φ3 G3 H3 s3 I3 rv rz st3 w3 hv hz => by
                  have ea3 := pre_get st3.pre ea
                  obtain ⟨dx, fv, n1, n2⟩ := w3.ok _ _ _ q6 ea3
                  obtain ⟨od, h1, h2⟩ := run_callO C hr I3 ea3 n1 rv rz l1 l2 (sl.step (st.trans st3)) w3 hv hz e1 (kq.step T.ok (st.trans st3))
                  exact ⟨dx, od, h1, h2⟩
                unfold callWith
                refine wpAny_bind (wpAny_holding (wpAny_mono (ha.run pos pins s1 σ H1 _ kws (fun vs H2 => ∃ φ2 G2, Step φ1 G1 H1 φ2 G2 H2 ∧ Wd X.K cl φ2 S2 G2 H2 ∧ IsDs X.K φ2 G2 ds vs) (fun ar s3 => ∃ dx od, PySem.W.kco_P X.K a (cl.at_ c) (PySem.W.instObj (cl.at_ c) dx) (some od) s3.heap ∧ wpAny (model X.prog X.w) X.A (call (.ref a) ar.pos ar.kw) (EP X pins σ Q) X.xe s3) I1
                  ⟨φ1, G1, g, S1, _, _, w1, sl.step st, q4, fun φ2 G2 H2 st2 w2 vs hv => ⟨φ2, G2, st2, w2, hv⟩⟩ hall fun vs us H2 s2 I2 rv ⟨φ2, G2, st2, w2, hv⟩ => ?_) (fun ar s3 ⟨dx, od, h1, h2⟩ => wpAny_bind (wpAny_standAt ?_)) fun _ _ y => y))
                · refine thn (hkw.run pos pins s2 σ H2 (fun xs H3 => ∃ φ3 G3, Step φ2 G2 H2 φ3 G3 H3 ∧ Wd X.K cl φ3 S3 G3 H3 ∧ IsDs X.K φ3 G3 zs xs) I2 ⟨φ2, G2, g, S2, _, _, w2, sl.step (st.trans st2), q5, fun φ3 G3 H3 st3 w3 vs hv => ⟨φ3, G3, st3, w3, hv⟩⟩) fun ws s3 ⟨xs, H3, I3, rz, φ3, G3, st3, w3, hz⟩ => ?_
                  rw [hks]
                  exact main vs us xs ws φ3 G3 H3 s3 I3 rv rz (st2.trans st3) w3 (hv.mono st3.pre st3.ex) hz
                · have L := PySem.W.kco_keeper (M := model X.prog X.w) h1.2 rfl
                  simp only [hpl]
                  refine wpAny_bind (L.here (wpAny_bind (wpAny_mono (wpAny_operateT h2) (fun r s4 hr4 => wpAny_bind (wpAny_holding (wpAny_point (wpAny_pure hr4)))) fun _ _ y => y)))
              · cases e1
            · cases e1
          · cases e1
      · cases e1
    · cases e1
  · cases e1
/-! ### a tuple of texts in the module -/
inductive TupStr : List Str → List Value → Prop where
  | nil : TupStr [] []
  | cons {x : Str} {t : Tok} {xs : List Str} {us : List Value} : TupStr xs us → TupStr (x :: xs) (.str x t :: us)
theorem TupStr.vals {xs : List Str} {us : List Value} (h : TupStr xs us) : Vals (xs.map V.str) us := by
  induction h with
  | nil => exact .nil
  | cons _ ih => exact .cons ⟨_, rfl⟩ ih
theorem re_gtup {x : Str} {pos : Pos} {a : Addr} {xs : List Str} {us : List Value} {od : Option Addr} {n : Nat} {sl : Array (Option Value)} (hm : X.mg x = some (.ref a)) (hk : X.K.lookup a = some ⟨.type "tuple", od, .seq us.toArray n, sl⟩) (h : TupStr xs us) (hz : us.length ≤ sizeLine) (hg : Gl X x := by rfl) (hdb : (x == ("__debug__" : Str)) = false := by decide) :
    RE X cl tk (.Name x pos) (mP (.tup (xs.map .str))) := by
  refine ⟨fun pins s σ H Q I ⟨φ, G, g, S, r, S', w, sl, e, k⟩ => ?_⟩
  cases e
  refine ld_glob I hg hm ⟨.ref a, H, I, rfl, k.now w _ ?_⟩ hdb
  simp only [Mi.IsD]
  exact ⟨a, xs.map V.str, rfl, .inr ⟨_, _, _, hk, rfl, rfl, by simpa using hz, by simpa using h.vals⟩, IsDs.of_strs xs⟩
end
end Mi
namespace Mi
open PySem L2
/-! ### xs += ys at a local name -/
noncomputable def mAugL (i : Nat) (mb : M D) : MS := fun g S => match g[i]? with
  | some (some (.ref j)) => match mb g S with
    | some (.ok e, S1) => match S1[j]?, asLL S1 e with
      | some (.lst l), some m => if szOk (l.length + m.length) = true then some (.nx (g.set i (some (.ref j))), S1.set j (.lst (l ++ m))) else none
      | _, _ => none
    | _ => none
  | _ => none
section
variable {X : Cx} {cl : Cl} {tk : WX → Prop} [T : Tk X tk]
theorem rs_augL {i : Nat} {x : Str} {b : Expr} {pos' pos : Pos} {mb : M D} (hN : X.N.Nodup) (hb : RE X cl tk b mb) (hi : X.N[i]? = some x := by rfl) (hx : Loc X.env.scope x := by first | exact .inl rfl | exact .inr rfl)
    (hf : X.fn x = true ∨ X.env.scope.names.lookup x = some .local := by first | exact .inl rfl | exact .inr rfl) : RS X cl tk (.AugAssign (.Name x pos') .Add b pos) (mAugL i mb) := by
  refine ps_imp (ps_aug hN hi hx hb iop_ext hf) fun Dn σ H ⟨φ, G, g, S, o, S', w, s, e, k⟩ => ?_
  unfold mAugL at e
  split at e
  · rename_i j hd
    split at e
    · rename_i e' S1 q1
      split at e
      · rename_i l m q2 q3
        split at e
        · rename_i hz
          cases e
          obtain ⟨v, hv, hv2⟩ := s.at_ i _ hd
          have hv3 := hv2
          simp only [Mi.IsD] at hv2
          obtain ⟨a, rfl, ha⟩ := hv2
          refine ⟨_, hv, φ, G, g, S, _, _, w, s, q1, fun φ1 G1 H1 st1 w1 y hy => ?_⟩
          have ha1 := pre_get st1.pre ha
          obtain ⟨vs, h1, h2⟩ := w1.ok _ _ _ q2 ha1
          obtain ⟨b', ys, rfl, h3, h4⟩ := asLL_sq w1 hy q3
          refine ⟨a, b', vs, ys, rfl, rfl, h1, h3, by rw [← h2.length, ← h4.length]; exact szOk_le hz, ?_⟩
          have st2 := write_step w1 ha1 (.lst (vs ++ ys))
          have w2 := write_wd (c := .lst (l ++ m)) w1 q2 rfl ha1 ⟨_, upd_same, h2.append h4⟩
          exact k _ _ _ (st1.trans st2) w2 _ ((s.step (st1.trans st2)).set (hv3.mono (st1.trans st2).pre (st1.trans st2).ex))
        · cases e
      · cases e
    · cases e
  · cases e
end
end Mi
/-! MiCls: classes as values, calls of them, classmethods, defs with *args, stars in displays. -/
namespace Mi
open PySem L2
/-! ### positional promises -/
abbrev FnPs (P : Program) (w : World) (K : PySem.W.Frag) (mg : Str → Option Value) (base : Heap) (cl : Cl) (k : Nat) (f : Addr) (mf : MF) : Prop := L2.FnR P w K mg base (L2.CX P w) k f (spM K cl mf)
theorem fnPs_of {P : Program} {w : World} {K : PySem.W.Frag} {mg : Str → Option Value} {base : Heap} {cl : Cl} {k : Nat} {f : Addr} {fd : FuncData} {ps : List Str} {mf : MF}
    (F : FnOk P w K mg base (L2.CX P w) k f fd ps (spM K cl mf)) (hb : L2.Binds K fd ps []) : FnPs P w K mg base cl k f mf := by
  intro A outer s H us vs Q E hr e0 rv sp
  have hl : us.length = ps.length := by rw [← rv.length]; exact F.len _ _ _ _ sp
  have hbd := hb s us (e0.mod.kin.keeps fun b o e => (e0.bs b o e).1) (by rw [List.append_nil]; exact hl)
  rw [List.append_nil] at hbd
  exact F.run A outer s H ⟨us, []⟩ us vs Q E hr e0 hbd rv sp
/-- a def with np parameters and one star parameter behind them -/
noncomputable def mFnS (N np : Nat) (b : MS) : MF := fun ds S => if np ≤ ds.length ∧ szOk (ds.length - np) = true then mFn N (np + 1) b (ds.take np ++ [.tup (ds.drop np)]) S else none
theorem fn_starM {P : Program} {w : World} {K : PySem.W.Frag} {mg : Str → Option Value} {base : Heap} {cl : Cl} {st : Stmt} {k : Nat} {mb : MS} {f : Addr} {name qual pv : Str} {dV kV doc pm cdv ct oc : Value} {an od : Option Addr} {osl : Array (Option Value)} {N ps : List Str} (hh : cl.hd = none)
    (lk : K.lookup f = some ⟨oc, od, .func (PySem.W.fnOf name qual (defArgs st) (defBody st) (defScope st) dV kV doc pm an cdv ct), osl⟩) (hcd : PySem.W.codeIn K cdv qual = true) (Sc : FnScope N (ps ++ [pv]) (defScope st))
    (hb : ∀ us rest : List Value, us.length = ps.length → bindArgs (PySem.W.fnOf name qual (defArgs st) (defBody st) (defScope st) dV kV doc pm an cdv ct) ⟨us ++ rest, []⟩ = (newTuple rest >>= fun t => pure (ps.zip us ++ [(pv, t)])))
    (hbody : ∀ (A : Around) (outer : List Env) (s : Shared) (H : Hp) (E : XK), Room k (A.deeper (PyProof.Rows.envOfC qual (defScope st) s.heap.objs.size f cdv)) →
      RSs (cxOf (L2.CX P w) P w K mg base N qual (defScope st) f cdv A outer s H E) cl (Takes (cxOf (L2.CX P w) P w K mg base N qual (defScope st) f cdv A outer s H E)) (defBody st) mb) :
    FnPs P w K mg base cl (k + 1) f (mFnS N.length ps.length mb) := by
  refine L2.FnR.imp (StX.fn_star (sp := spM K cl (mFn N.length (ps.length + 1) mb)) lk hcd Sc StX.cxUp hb fun A outer s H vs Q E hr h => ⟨_, hbody A outer s H E hr, ?_⟩) fun vs H Q E h => ?_
  · obtain ⟨φ, G, S, ds, r, S', w, hd, e, k⟩ := h
    unfold mFn at e
    split at e
    · rename_i hl
      have sl := sl_start (N := N) hh hd
      rw [← hd.length, hl] at sl
      split at e
      · rename_i d S1 q
        cases e
        exact ⟨φ, G, _, S, _, _, w, sl, q, fun φ' G' H' st w' v hv => k φ' G' H' st w' v hv⟩
      · rename_i d S1 q
        cases e
        exact ⟨φ, G, _, S, _, _, w, sl, q, fun φ' G' H' st w' v hv => k φ' G' H' st w' _ (by simp only [Mi.IsD])⟩
      · rename_i c fs S1 q
        cases e
        refine ⟨φ, G, _, S, _, _, w, sl, q, ?_⟩
        exact Takes.imp (takes_of (E := E) rfl rfl rfl rfl) fun cls d σ H' ⟨φ', G', hw, _⟩ => k cls d φ' G' H' hw
      · cases e
    · cases e
  · obtain ⟨φ, G, S, ds, r, S', w, hd, e, k⟩ := h
    unfold mFnS at e
    split at e
    · rename_i hc
      obtain ⟨h1, h2⟩ := hc
      have hl := hd.length
      refine ⟨vs.take ps.length, vs.drop ps.length, (List.take_append_drop _ _).symm, by rw [List.length_take]; omega, by rw [List.length_drop]; have := szOk_le h2; omega, fun p hp => ?_⟩
      have st := fresh_step w hp (.tup (vs.drop ps.length))
      have w1 := fresh_wd w hp (.tup (vs.drop ps.length))
      refine ⟨φ, _, S, _, r, S', w1, ((hd.take ps.length).mono st.pre st.ex).append (.cons ?_ .nil), e, ?_⟩
      · simp only [Mi.IsD]
        exact ⟨p, vs.drop ps.length, rfl, SqT.of upd_same, (hd.drop ps.length).mono st.pre st.ex⟩
      · cases r with
        | ok d => exact fun φ' G' H' st' w' v hv => k φ' G' H' (st.trans st') w' v hv
        | exc c fs => exact fun cls dd φ' G' H' z => k cls dd φ' G' H' ⟨st.trans z.1, z.2⟩
    · cases e
/-- def x(ps.., *pv) -/
structure StarF (K : PySem.W.Frag) (x qual : Str) (st : Stmt) (ps : List Str) (pv : Str) (f : Addr) : Prop where
  ex : ∃ (oc kV doc pm cdv ct : Value) (od an : Option Addr) (osl : Array (Option Value)), K.lookup f = some ⟨oc, od, .func (PySem.W.fnOf x qual (defArgs st) (defBody st) (defScope st) .none kV doc pm an cdv ct), osl⟩ ∧ PySem.W.codeIn K cdv qual = true ∧
    ∀ us rest : List Value, us.length = ps.length → bindArgs (PySem.W.fnOf x qual (defArgs st) (defBody st) (defScope st) .none kV doc pm an cdv ct) ⟨us ++ rest, []⟩ = (newTuple rest >>= fun t => pure (ps.zip us ++ [(pv, t)]))
theorem fn_starF {P : Program} {w : World} {K : PySem.W.Frag} {mg : Str → Option Value} {base : Heap} {cl : Cl} {st : Stmt} {k : Nat} {mb : MS} {f : Addr} {x qual pv : Str} {N ps : List Str} (hh : cl.hd = none) (F : StarF K x qual st ps pv f) (Sc : FnScope N (ps ++ [pv]) (defScope st))
    (hbody : ∀ (cdv : Value) (A : Around) (outer : List Env) (s : Shared) (H : Hp) (E : XK), Room k (A.deeper (PyProof.Rows.envOfC qual (defScope st) s.heap.objs.size f cdv)) →
      RSs (cxOf (L2.CX P w) P w K mg base N qual (defScope st) f cdv A outer s H E) cl (Takes (cxOf (L2.CX P w) P w K mg base N qual (defScope st) f cdv A outer s H E)) (defBody st) mb) :
    FnPs P w K mg base cl (k + 1) f (mFnS N.length ps.length mb) := by
  obtain ⟨_, _, _, _, cdv, _, _, _, _, lk, hcd, hb⟩ := F.ex
  exact fn_starM hh lk hcd Sc hb (hbody cdv)
section
variable {X : Cx} {cl : Cl} {tk : WX → Prop} [T : Tk X tk]
/-! ### a class as a value -/
theorem re_clsV {x : Str} {C : Addr} {pos : Pos} (hm : X.mg x = some (.ref C)) (hn : PySem.W.nsIn X.K mainGlobals x = some (some (.ref C))) (hg : Gl X x := by rfl) (hdb : (x == ("__debug__" : Str)) = false := by decide) : RE X cl tk (.Name x pos) (mP (.cls x)) :=
  re_glob (v := .ref C) hm rfl (fun φ G => by simp only [Mi.IsD]; exact ⟨C, rfl, hn⟩) hg hdb
/-- the call of a class that a name holds -/
def mMakeV (tab : Str → Option (Nat × MF)) (mo : M D) (ma : M (List D)) : M D := fun g S => match mo g S with
  | some (.ok (.cls x), S1) => match tab x with
    | some (c, mf) => mMake c mf ma g S1
    | none => none
  | _ => none
def MkV (X : Cx) (cl : Cl) (k : Nat) (x : Str) (c : Nat) (mf : MF) : Prop := PySem.W.nsIn X.K mainGlobals x = some (some (.ref (cl.at_ c))) ∧ ∃ f fd ps, L2.Mk X.K (cl.at_ c) f ∧ L2.Binds X.K fd ps [] ∧ FnOk X.prog X.w X.K X.mg X.base (L2.CX X.prog X.w) k f fd ps (spM X.K cl mf)
theorem re_makeV {k : Nat} {tab : Str → Option (Nat × MF)} {x : Str} {p pos : Pos} {e : Expr} {es : List Expr} {mo : M D} {ma : M (List D)} (ht : ∀ y c mf, tab y = some (c, mf) → MkV X cl k y c mf) (hr : Room (k + 1) X.A) (ho : RE X cl tk (.Name x p) mo) (ha : RA X cl tk (e :: es) ma)
    (he : starEach (e :: es) X.env = (false, eval e X.env) :: starEach es X.env := by rfl) (hpl : (backTo pos (starEach es X.env)).any (·.1) = false := by rfl) : RE X cl tk (.Call (.Name x p) (e :: es) [] pos) (mMakeV tab mo ma) := by
  refine ⟨fun pins s σ H Q I ⟨φ, G, g, S, r, S', w, sl, e1, kq⟩ => ?_⟩
  unfold mMakeV at e1
  split at e1
  · rename_i y S1 q1
    split at e1
    · rename_i c mf q2
      obtain ⟨hn, f, fd, ps, M, hb, F⟩ := ht _ _ _ q2
      refine wpAny_Call_Name_kw ?_
      refine thn (ho.run pins s σ H (fun v H1 => ∃ φ1 G1, v = .ref (cl.at_ c) ∧ Step φ G H φ1 G1 H1 ∧ Wd X.K cl φ1 S1 G1 H1) I ⟨φ, G, g, S, _, _, w, sl, q1, fun φ1 G1 H1 st w1 v hv => ?_⟩) fun u s1 ⟨v, H1, I1, rv, φ1, G1, ev, st1, w1⟩ => ?_
      · simp only [Mi.IsD] at hv
        obtain ⟨a, rfl, ha⟩ := hv
        rw [hn] at ha
        cases ha
        exact ⟨φ1, G1, rfl, st, w1⟩
      · subst ev
        have eu : u = Value.ref (cl.at_ c) := rv
        subst eu
        refine PySem.W.callWith_K (h₀ := X.base) I1.ok.mod.kin M.kp (thn (ha.run pos pins s1 σ H1 (fun vs H2 => ∃ φ2 G2 S2 ds, Sl X.K cl φ2 G2 g σ ∧ Wd X.K cl φ2 S2 G2 H2 ∧ IsDs X.K φ2 G2 ds vs ∧
          (match mf (.ref S2.length :: ds) (S2 ++ [.ins c []]) with
            | some (.ok .non, S') => some (R.ok (D.ref S2.length), S')
            | some (.exc c' fs, S') => some (.exc c' fs, S')
            | _ => none) = some (r, S') ∧ Ko X.K cl tk φ2 G2 H2 g r S' fun φ' G' H' d => ∀ v, IsD X.K φ' G' d v → Q v H') I1 ?_) fun us s2 ⟨vs, H2, I2, rv2, φ2, G2, S2, ds, sl2, w2, hds, e2, k2⟩ => ⟨I2.kIn, ?_⟩) he hpl
        · exact tMA_bind T.ok w1 (sl.step st1) e1 (kq.step T.ok st1) fun d φ2 G2 H2 S2 v st2 w2 s2 hx e2 k2 => ⟨φ2, G2, S2, d, s2, w2, hx, e2, k2⟩
        · exact run_mk M F hr hb I2 rv2 sl2 w2 hds e2 k2
    · cases e1
  · cases e1
/-! ### a classmethod called by its class -/
def mCallC (mf : MF) (x : Str) (ma : M (List D)) : M D := mB ma fun ds => fun _ S => mf (.cls x :: ds) S
/-- x is the class at C, m its classmethod -/
def CMetK (X : Cx) (cl : Cl) (k : Nat) (x m : Str) (mf : MF) : Prop := ∃ C mc p g, X.mg x = some (.ref C) ∧ PySem.W.nsIn X.K mainGlobals x = some (some (.ref C)) ∧ ClX.CRead X.K C mc ∧ ClX.CMet X.K C mc m p g ∧ FnPs X.prog X.w X.K X.mg X.base cl k g mf
theorem re_cmeth {k : Nat} {x m : Str} {mf : MF} {e : Expr} {es : List Expr} {p apos pos : Pos} {pl : Sem Bool} {ma : M (List D)} (hc : CMetK X cl k x m mf) (hr : Room k X.A) (ha : RA X cl tk (e :: es) ma) (hg : Gl X x := by rfl) (hdb : (x == ("__debug__" : Str)) = false := by decide)
    (hst : starEach (e :: es) X.env = (false, eval e X.env) :: starEach es X.env := by rfl) (hpl : (backTo pos (starEach es X.env)).any (·.1) = false := by rfl)
    (ht : eval (.Call (.Attribute (.Name x p) m apos) (e :: es) [] pos) X.env = (do
      let ov ← eval (.Name x p) X.env
      standAt apos.atName
      let (f, first) ← holding [ov] (getMethod ov m pl)
      callWith pos f first (backTo pos (starEach (e :: es) X.env)) (backToKw pos (keywordEach [] X.env))) := by rfl) :
    RE X cl tk (.Call (.Attribute (.Name x p) m apos) (e :: es) [] pos) (mCallC mf x ma) := by
  obtain ⟨C, mc, pp, g0, hm, hn, hrd, hcm, F⟩ := hc
  refine ⟨fun pins s σ H Q I ⟨φ, G, g, S, r, S', w, sl, e1, kq⟩ => ?_⟩
  refine PySem.W.methodCall_KW (pl := pl) (ld_glob I hg hm ?_ hdb) ht
  refine ClX.getmethcm_ok I hrd hcm fun s2 I2 => ?_
  refine ClX.callwith_cm I2 (ClX.base_none I (Nat.le_refl _)) hcm.fi (thn (ha.run pos _ s2 σ H (fun vs H1 => ∃ φ1 G1 S1 ds, Sl X.K cl φ1 G1 g σ ∧ Wd X.K cl φ1 S1 G1 H1 ∧ IsDs X.K φ1 G1 ds vs ∧ mf (.cls x :: ds) S1 = some (r, S') ∧
      Ko X.K cl tk φ1 G1 H1 g r S' fun φ' G' H' d => ∀ v, IsD X.K φ' G' d v → Q v H') I2 ?_) fun us s3 ⟨vs, H2, I3, rv, φ1, G1, S1, ds, sl1, w1, hds, e2, k2⟩ => ⟨⟨ClX.pin_at I3, I3.kIn⟩, ?_⟩) hst hpl
  · exact tMA_bind T.ok w sl e1 kq fun d φ1 G1 H1 S1 v st1 w1 s1 hx e2 k2 => ⟨φ1, G1, S1, d, s1, w1, hx, e2, k2⟩
  · let E : XK := EofR X.K cl φ1 G1 H2 S' r
    have sp : spM X.K cl mf (.ref C :: vs) H2 Q E := by
      refine ⟨φ1, G1, S1, _, r, S', w1, .cons (by simp only [Mi.IsD]; exact ⟨C, rfl, hn⟩) hds, e2, ?_⟩
      cases r with
      | ok d => exact k2
      | exc c fs => exact fun cls dd φ' G' H' q => ⟨φ', G', q⟩
    have z : wpAny (model X.prog X.w) X.A (call (.ref s.heap.objs.size) us) (EP X ((s.heap.objs.size, PySem.W.methodObj (.ref g0) (.ref C)) :: pins) σ Q) X.xe s3 :=
      wpAny_call (PySem.W.method_call (ClX.pin_at I3) (codeAny_mono (F X.A X.stack s3 H2 (.ref C :: us) (.ref C :: vs) Q E hr I3.env0 (.cons rfl rv) sp) fun r' s' hq => ?_))
    · exact thn z fun _ _ y => ClX.unpinE y
    cases r' with
    | error e' =>
      cases r with
      | ok d =>
        obtain ⟨_, _, _, _, _, _, _, _, _, _, _, _, z⟩ := (show L2.CX X.prog X.w X.stack H2 s3 E e' s' from hq)
        exact z.elim
      | exc c fs => exact T.tk _ k2 e' s' (XE.of_call (E := EofR X.K cl φ1 G1 H2 S' (.exc c fs)) I3 (fun cls d H' ⟨φ', G', q⟩ => ⟨φ', G', q, sl1.step q.1⟩) hq)
    | ok fl =>
      cases fl with
      | ret u => exact I3.after hq
      | next => exact False.elim hq
      | brk => exact False.elim hq
      | cont => exact False.elim hq
/-! ### stars in displays -/
def mStar (m : M D) (n : M (List D)) : M (List D) := mB m fun d => mB (mL fun S => asL S d) fun l => mB n fun ds => mP (l ++ ds)
theorem ra_star {e : Expr} {p : Pos} {es : List Expr} {m : M D} {n : M (List D)} (he : RE X cl tk e m) (hr : RA X cl tk es n) (hs : starEach (.Starred e p :: es) X.env = (true, eval e X.env) :: starEach es X.env := by rfl) : RA X cl tk (.Starred e p :: es) (mStar m n) := by
  refine pa_imp (StX.pa_star he hr hs) fun σ H Q ⟨φ, G, g, S, r, S', w, sl, e1, k⟩ => ?_
  refine tM_bind T.ok w sl e1 k fun d φ1 G1 H1 S1 x st1 w1 s1 hx e2 k2 => ?_
  rcases mB_ok e2 with ⟨l, S2, e3, e4⟩ | ⟨c, fs, e3, rfl⟩
  · obtain ⟨l', el, h1, h2⟩ := mL_ok e3
    cases h1
    subst h2
    obtain ⟨a, xs, rfl, hq, hxs⟩ := asL_sq w1 hx el
    refine ⟨a, xs, rfl, hq.symm, ?_⟩
    refine tMA_bind T.ok w1 s1 e4 k2 fun ds φ2 G2 H2 S2 ys st2 w2 s2 hys e5 k5 => ?_
    cases e5
    exact k5.now w2 _ ((hxs.mono st2.pre st2.ex).append hys)
  · obtain ⟨_, _, h1, _⟩ := mL_ok e3
    cases h1
end
@[simp] theorem v_star {g : Gm} {S : Store} (m : M D) (n : M (List D)) : mStar m n g S = mB m (fun d => mB (mL fun S => asL S d) fun l => mB n fun ds => mP (l ++ ds)) g S := id rfl
@[simp] theorem v_callC {g : Gm} {S : Store} (mf : MF) (x : Str) (ma : M (List D)) : mCallC mf x ma g S = mB ma (fun ds => fun _ S => mf (.cls x :: ds) S) g S := id rfl
end Mi
/-! MiEnum: enumerate(list), enumerate(list, start) over lists of any kind. -/
namespace Mi
open PySem L2
open PyProof.Rows (boot_enumerate)
open PySem.Spec
def IteF (K : PySem.W.Frag) (a : Addr) (k0 : Int) : It :=
  ⟨fun i H => ∃ (xs : List V) (x : V), SqL K H a xs ∧ xs[i]? = some x, fun i H v H' => ∃ T x, v = .ref T ∧ H T = none ∧ H' = upd H T (.tup [.int (k0 + (i : Nat)), x]) ∧ ∀ xs, SqL K H a xs → xs[i]? = some x, fun i H => ∃ xs : List V, SqL K H a xs ∧ xs.length ≤ i⟩
theorem turn_enumF {P : Program} {w : World} {K : PySem.W.Frag} {elts : List Expr} {kk : Nat} {tpos : Pos} (a e it : Addr) (k0 : Int) :
    Turn P w K (.Tuple elts kk tpos) (IteF K a k0) [e, it] e (fun i h => (∃ old, IsEnum h e it (k0 + ((i : Nat) : Int)) old) ∧ h.IsListIter it a i ∧ e ≠ it) where
  mem := by simp
  obj := fun i h st b hb => by
    obtain ⟨⟨old, he⟩, ⟨o, ho, hc, hd⟩, _⟩ := st
    have e' : b = e ∨ b = it := by simpa using hb
    rcases e' with z | z
    · rw [z]; exact ⟨_, he, fun v q => nomatch q⟩
    · rw [z]; exact ⟨o, ho, fun v q => by rw [hd] at q; cases q⟩
  keep := fun i h h' st k => let ⟨⟨old, he⟩, hi, hne⟩ := st; ⟨⟨old, k e (by simp) _ he⟩, hi.at fun o q => k it (by simp) o q, hne⟩
  item := by
    intro X hP hw hK hc i pins s σ H E I hf st hg
    subst hP hw hK
    obtain ⟨⟨old, he⟩, hit, hne⟩ := st
    obtain ⟨xs, x, hq, hx⟩ := hg
    obtain ⟨its, rv, p, hz⟩ := I.list hq
    obtain ⟨u, hu, ru⟩ := rv.get hx
    have hel : e < s.heap.objs.size := Heap.lt_size he
    have hil : it < s.heap.objs.size := by obtain ⟨_, q, _⟩ := hit; exact Heap.lt_size q
    have hlt : i < its.toArray.size := by rw [List.size_toArray]; exact (List.getElem?_eq_some_iff.mp hu).1
    have nie : it ≠ a := fun z => by
      obtain ⟨o1, q1, q2, _⟩ := hit
      obtain ⟨o2, q3, q4, _⟩ := p.isList
      rw [z] at q1; rw [q1] at q3; cases q3; rw [q2] at q4; simp at q4
    have nea : e ≠ a := fun z => by
      obtain ⟨o2, q3, q4, _⟩ := p.isList
      have he' := he
      rw [z] at he'; rw [he'] at q3; cases q3; simp at q4
    have D := Draws.list (prog := X.prog) (w := X.w) (A := X.A.in1) (show X.A.in1.handled = none from I.ok.hd hc) it a (Ne.symm nie) its.toArray
    refine wpAny_pyNext_enum_itemC D he ⟨hit, p.isList⟩ hlt hne (fun z => by rcases List.mem_cons.mp z with z | z; exact hne z; exact nea (List.mem_singleton.mp z)) fun x' h' tk hP ho hs' hT hsz hk => ?_
    have hP' : its.toArray[i]? = some x' := hP
    have ex : x' = u := by
      rw [show its.toArray[i]? = some u from by simpa using hu] at hP'
      exact (Option.some.inj hP').symm
    subst ex
    refine ⟨_, rfl, wpAny_letOwnedTupleGo_enum (s := { s with heap := h', toks := tk + 1 }) ho fun h'' he' sb => ?_⟩
    have hT2 : h''.get? s.heap.objs.size = some { cls := .type "tuple", data := .seq #[.int (k0 + i) tk, x'] } := (sb.2 _ (Nat.ne_of_gt hel)).trans hT
    have new : ObjOk X.prog X.w (upd H s.heap.objs.size (.tup [.int (k0 + (i : Nat)), x])) h'' s.heap.objs.size (.tup [.int (k0 + (i : Nat)), x]) :=
      ⟨by show 2 ≤ sizeLine; decide, [.int (k0 + i) tk, x'], .cons ⟨_, rfl⟩ (.cons ru .nil), ⟨_, hT2, rfl, _, rfl⟩⟩
    have I1 : Inv X pins σ (upd H s.heap.objs.size (.tup [.int (k0 + (i : Nat)), x])) { s with heap := h'', toks := tk + 1 } :=
      I.turnedNew (ch := [e, it]) (fun b ob hb q => (sb.2 b (fun z => hb (by simp [z]))).trans (hk b ob (fun z => hb (by simp [z])) (fun z => hb (by simp [z])) q)) hf (Nat.le_refl _) new
    refine ⟨.ref s.heap.objs.size, _, I1, rfl, ⟨_, x, rfl, I.hok.fresh (Nat.le_refl _), rfl, fun ys hy => by rw [I.list_inj hy hq]; exact hx⟩, ⟨⟨x', ?_⟩, hs'.1.at fun o q => (sb.2 it (Ne.symm hne)).trans q, hne⟩, fun b hb => ?_⟩
    · have e1 : k0 + ((i + 1 : Nat) : Int) = k0 + (i : Int) + 1 := by omega
      rw [e1]; exact he'
    · have hb' : b < s.heap.objs.size := by
        have e' : b = e ∨ b = it := by simpa using hb
        rcases e' with z | z
        · rw [z]; exact hel
        · rw [z]; exact hil
      rw [upd_ne (Nat.ne_of_lt hb')]
      exact (hf b hb).1
  done := by
    intro X hP hw hK hc i pins s σ H E I hf st hg
    subst hP hw hK
    obtain ⟨⟨old, he⟩, hit, hne⟩ := st
    obtain ⟨xs, hq, hx⟩ := hg
    obtain ⟨its, rv, p, hz⟩ := I.list hq
    obtain ⟨f0, f1, f2, f3, f4, f5⟩ := hf it (by simp)
    have hl := rv.length
    have hT : s.TypeIs (.ref e) "enumerate" := ⟨_, he, rfl⟩
    have nie : it ≠ a := fun z => by
      obtain ⟨o1, q1, q2, _⟩ := hit
      obtain ⟨o2, q3, q4, _⟩ := p.isList
      rw [z] at q1; rw [q1] at q3; cases q3; rw [q2] at q4; simp at q4
    unfold pyNext
    refine wpAny_bind (wpAny_attempt (wpAny_callSpecial?_slot (name := Str.ofString "__next__") hT F.slot_enumerate_next
      (wpAny_call_entry F.slot_enumerate_next hT F.entry_enumerate_next ?_ (F.args_enumerate_next_1 _))))
    show wpAny _ _ (field (.ref e) 2 >>= _) _ _ _
    refine wpAny_bind (wpAny_field he rfl (x := .ref it) rfl ?_)
    refine wpAny_bind (wpAny_nextOf_list_end (I.ok.hd hc) hit p.isList (by simp; omega) fun h' x he' hx' => ?_)
    obtain ⟨o, ho, hc⟩ := hx'
    refine wpAny_bind (wpAny_isInstance (T := "StopIteration") (b := true) ⟨o, ho, hc⟩ isSubtype_stop ?_)
    exact wpAny_pure ⟨rfl, I.turned (t' := s.toks) (fun b o hb q => he' b o hb q) f0 f1 f3 f4 f5⟩
  self := fun A i s Q E st h => let ⟨⟨_, he⟩, _⟩ := st; wpAny_pyIter_enum he h
def srcL (S : Store) : D → Option Src
  | .lst l => some (l, none)
  | .ref i => match S[i]? with
    | some (.lst l) => some (l, some (i, l))
    | _ => none
  | _ => none
def mEnum1 (m : M (List D)) : M Src := mB m fun ds => mL fun S => match ds with
  | [d] => (srcL S d).map fun z => (enumF 0 z.1, z.2)
  | _ => none
noncomputable def mEnum2 (m : M (List D)) : M Src := mB m fun ds => mL fun S => match ds with
  | [d, .int k] => if big62 k = true then (srcL S d).map fun z => (enumF k z.1, z.2) else none
  | _ => none
theorem walk_enumC {K : PySem.W.Frag} {cl : Cl} {φ : List Addr} {S : Store} {G H : Hp} {k0 : Int} {d : D} {v : V} {z : Src} (w : Wd K cl φ S G H) (hv : IsD K φ G d v) (e : srcL S d = some z) {J : Addr → It} (hJ : ∀ a, J a = IteF K a k0) :
    ∃ a xs, v = .ref a ∧ SqL K H a xs ∧ WalkD K cl (J a) φ G H (enumF k0 z.1, z.2) := by
  have key : ∀ (a : Addr) (l : List D) (o : Option (Nat × List D)), (∀ φ' S' G' H', Step φ G H φ' G' H' → Wd K cl φ' S' G' H' → srcOk S' (enumF k0 l, o) → ∃ ws, SqL K H' a ws ∧ IsDs K φ' G' l ws) → WalkD K cl (J a) φ G H (enumF k0 l, o) := fun a l o h => by
    rw [hJ]
    refine ⟨fun H => ∃ ws, SqL K H a ws ∧ ws.length = l.length, fun n H v H' => ∃ T x, v = .ref T ∧ H T = none ∧ H' = upd H T (.tup [.int (k0 + (n : Nat)), x]) ∧ ∀ xs, SqL K H a xs → xs[n]? = some x,
      ⟨fun n H hn ⟨ws, q1, q2⟩ => ⟨ws, ws[n]'(by rw [q2, ← enumF_len k0 l]; exact hn), q1, by simp⟩, fun H ⟨ws, q1, q2⟩ => ⟨ws, q1, by show ws.length ≤ (enumF k0 l).length; rw [enumF_len]; omega⟩, fun n H x H' hn _ y => y⟩, fun φ' S' G' H' st w' ok => ?_, fun φ' S' G' H' i d v H2 st w' ok hd ⟨TT, x, y1, y2, y3, y4⟩ => ?_⟩
    · obtain ⟨ws, q1, q2⟩ := h φ' S' G' H' st w' ok
      exact ⟨ws, q1, q2.length.symm⟩
    · subst y1 y3
      obtain ⟨ws, q1, q2⟩ := h φ' S' G' H' st w' ok
      obtain ⟨e, h8, rfl⟩ := enumF_get k0 l i d hd
      obtain ⟨z, h9, h10⟩ := q2.get h8
      rw [y4 ws q1] at h9; cases h9
      refine ⟨upd G' TT (.tup [.int (k0 + (i : Nat)), x]), fresh_step w' y2 _, fresh_wd w' y2 _, ?_⟩
      have ex : Ex G' (upd G' TT (.tup [.int (k0 + (i : Nat)), x])) := (fresh_step w' y2 (.tup [.int (k0 + (i : Nat)), x])).ex
      simp only [Mi.IsD]
      exact ⟨TT, _, rfl, SqT.of upd_same, .cons (by simp only [Mi.IsD]) (.cons (h10.mono (List.prefix_refl _) ex) .nil)⟩
  cases d <;> simp only [srcL] at e <;> try (cases e; done)
  · rename_i l
    cases e
    simp only [Mi.IsD] at hv
    obtain ⟨a, xs, rfl, h1, h2⟩ := hv
    exact ⟨a, xs, rfl, SqL.of (w.sub _ _ h1), key a l none fun φ' S' G' H' st w' _ => ⟨xs, SqL.of (w'.sub _ _ (st.ex _ _ h1)), h2.mono st.pre st.ex⟩⟩
  · rename_i i
    split at e
    · rename_i l hi
      cases e
      simp only [Mi.IsD] at hv
      obtain ⟨a, rfl, ha⟩ := hv
      obtain ⟨vs, h3, h4⟩ := w.ok _ _ _ hi ha
      exact ⟨a, vs, rfl, SqL.of h3, key a l (some (i, l)) fun φ' S' G' H' st w' ok => by
        obtain ⟨us, q1, q2⟩ := w'.ok _ _ _ ok (pre_get st.pre ha)
        exact ⟨us, SqL.of q1, q2⟩⟩
    · cases e
section
variable {X : Cx} {cl : Cl} {tk : WX → Prop} [T : Tk X tk]
theorem ite_F (K : PySem.W.Frag) (a : Addr) : Ite K a = IteF K a 0 := by
  unfold Ite IteF
  congr 1
  funext i H v H'
  simp
theorem ri_enum1 {p pos tpos : Pos} {e : Expr} {elts : List Expr} {kk : Nat} {ma : M (List D)} (hm : X.mg "enumerate" = none) (ha : RA X cl tk [e] ma) (hg : Gl X "enumerate" := by rfl) (hs : starEach [e] X.env = [(false, eval e X.env)] := by rfl) :
    RI X cl tk (.Tuple elts kk tpos) (.Call (.Name "enumerate" p) [e] [] pos) (mEnum1 ma) := by
  refine pi_imp (pi_enum hg hm ha hs) fun σ H R ⟨φ, G, g, S, r, S', w, s, e, k⟩ => ?_
  refine tMA_bind T.ok w s e k fun ds φ1 G1 H1 S1 xs st1 w1 s1 hxs e1 k1 => ?_
  obtain ⟨z, ez, rfl, rfl⟩ := mL_ok e1
  split at ez
  · rename_i d
    obtain ⟨z0, ez0, rfl⟩ := Option.map_eq_some_iff.mp ez
    obtain ⟨v, r, rfl, hv, hr⟩ := hxs.cons_inv
    rw [hr.nil_inv]
    obtain ⟨a, ys, rfl, h1, wk⟩ := walk_enumC (k0 := 0) w1 hv ez0 (J := Ite X.K) (ite_F X.K)
    exact ⟨a, ys, rfl, h1, k1.now w1 _ wk⟩
  · cases ez
def iEnum2 (K : PySem.W.Frag) (ta : TA) : TI := fun σ H R => ta σ H fun vs H1 => ∃ a xs k, vs = [.ref a, .int k] ∧ (-(2 ^ 62) ≤ k ∧ k < 2 ^ 62) ∧ SqL K H1 a xs ∧ R (IteF K a k) H1
theorem pi_enum2 {e e2 : Expr} {ta : TA} {p pos tpos : Pos} {elts : List Expr} {kk : Nat} (hg : Gl X "enumerate") (hm : X.mg "enumerate" = none) (ha : PA X [e, e2] ta) (hs : starEach [e, e2] X.env = (false, eval e X.env) :: starEach [e2] X.env := by rfl) (hp : (backTo pos (starEach [e2] X.env)).any (·.1) = false := by rfl) :
    PI X (.Tuple elts kk tpos) (.Call (.Name "enumerate" p) [e, e2] [] pos) (iEnum2 X.K ta) := by
  refine ⟨fun pins s σ H R I h => ?_⟩
  refine PyProof.Rows.Call_ (ld_blt I hg hm boot_enumerate (PyProof.Rows.callWith_type1 (thn (ha.run pos pins s σ H _ I h) fun us s1 ⟨vs, H1, I1, r1, q1⟩ => ?_) hs hp))
  obtain ⟨a, xs, k, ex, hk, hq, q⟩ := q1
  subst ex
  cases r1 with
  | cons r rr =>
    cases rr with
    | cons r2 rr2 =>
      cases rr2
      cases r
      obtain ⟨t, rfl⟩ := r2
      obtain ⟨its, rv, p', hz⟩ := I1.list hq
      refine enum_begins (begins_list a its.toArray) p'.isList (by omega) (by omega) fun h' he hit hsz hk => wpAny_pyIter_enum he ?_
      have I2 : Inv X pins σ H1 { s1 with heap := h' } := I1.kept (t' := s1.toks) hk
      refine ⟨s1.heap.objs.size + 1, [s1.heap.objs.size + 1, s1.heap.objs.size], _, _, H1, rfl, I2, turn_enumF a (s1.heap.objs.size + 1) s1.heap.objs.size k, ⟨⟨.none, by simpa using he⟩, ⟨_, hit, rfl, rfl⟩, Nat.succ_ne_self _⟩, fun b hb => ?_, q⟩
      have e' : b = s1.heap.objs.size + 1 ∨ b = s1.heap.objs.size := by simpa using hb
      have hle : s1.heap.objs.size ≤ b := by
        rcases e' with z | z
        · rw [z]; exact Nat.le_add_right _ _
        · rw [z]; exact Nat.le_refl _
      exact I1.fpOk hle (I1.hok.fresh hle)
theorem ri_enum2 {p pos tpos : Pos} {e e2 : Expr} {elts : List Expr} {kk : Nat} {ma : M (List D)} (hm : X.mg "enumerate" = none) (ha : RA X cl tk [e, e2] ma) (hg : Gl X "enumerate" := by rfl) (hs : starEach [e, e2] X.env = (false, eval e X.env) :: starEach [e2] X.env := by rfl) (hp : (backTo pos (starEach [e2] X.env)).any (·.1) = false := by rfl) :
    RI X cl tk (.Tuple elts kk tpos) (.Call (.Name "enumerate" p) [e, e2] [] pos) (mEnum2 ma) := by
  refine pi_imp (pi_enum2 hg hm ha hs hp) fun σ H R ⟨φ, G, g, S, r, S', w, s, e, k⟩ => ?_
  refine tMA_bind T.ok w s e k fun ds φ1 G1 H1 S1 xs st1 w1 s1 hxs e1 k1 => ?_
  obtain ⟨z, ez, rfl, rfl⟩ := mL_ok e1
  split at ez
  · rename_i d n
    split at ez
    · rename_i hb
      have hb := cdec_iff.mp hb
      obtain ⟨z0, ez0, rfl⟩ := Option.map_eq_some_iff.mp ez
      obtain ⟨v, r, rfl, hv, hr⟩ := hxs.cons_inv
      obtain ⟨v2, r2, rfl, hv2, hr2⟩ := hr.cons_inv
      rw [hr2.nil_inv]
      simp only [Mi.IsD] at hv2
      subst hv2
      obtain ⟨a, ys, rfl, h1, wk⟩ := walk_enumC (k0 := n) w1 hv ez0 (J := fun a => IteF X.K a n) fun _ => rfl
      exact ⟨a, ys, n, rfl, hb, h1, k1.now w1 _ wk⟩
    · cases ez
  · cases ez
end
@[simp] theorem v_enum1 {g : Gm} {S : Store} (m : M (List D)) : mEnum1 m g S = mB m (fun ds => mL fun S => match ds with
  | [d] => (srcL S d).map fun z => (enumF 0 z.1, z.2)
  | _ => none) g S := id rfl
@[simp] theorem v_enum2 {g : Gm} {S : Store} (m : M (List D)) : mEnum2 m g S = mB m (fun ds => mL fun S => match ds with
  | [d, .int k] => if big62 k = true then (srcL S d).map fun z => (enumF k z.1, z.2) else none
  | _ => none) g S := id rfl
end Mi
/-! MiEv: what the mirrors' words give, rule by rule: the first goal is worked at, its answer is found on the way. -/
namespace Mi
open PySem L2
section
variable {α β : Type} {g g1 : Gm} {S S1 S2 S3 S4 : Store}
/-! ### expressions that give a value -/
theorem e_P (a : α) : mP a g S = some (.ok a, S) := rfl
theorem e_var {i : Nat} {d : D} (h : g[i]? = some (some d)) : mVar i g S = some (.ok d, S) := by simp only [mVar, h]
theorem e_B {m : M α} {f : α → M β} {a : α} {r : Option (R β × Store)} (h : m g S = some (.ok a, S1)) (k : f a g S1 = r) : mB m f g S = r := by simp only [mB, h, k]
theorem e_L {f : Store → Option α} {a : α} (h : f S = some a) : mL f g S = some (.ok a, S) := by simp only [mL, h, Option.map_some]
theorem e_op1 {f : Store → D → Option D} {m : M D} {x z : D} (h : m g S = some (.ok x, S1)) (k : f S1 x = some z) : mOp1 f m g S = some (.ok z, S1) := e_B h (e_L k)
theorem e_op2 {f : Store → D → D → Option D} {m n : M D} {x y z : D} (h : m g S = some (.ok x, S1)) (h2 : n g S1 = some (.ok y, S2)) (k : f S2 x y = some z) : mOp2 f m n g S = some (.ok z, S2) := e_B h (e_B h2 (e_L k))
theorem e_nil : mNil g S = some (.ok [], S) := rfl
theorem e_cons {m : M D} {n : M (List D)} {x : D} {l : List D} (h : m g S = some (.ok x, S1)) (h2 : n g S1 = some (.ok l, S2)) : mCons m n g S = some (.ok (x :: l), S2) := e_B h (e_B h2 rfl)
theorem e_star {m : M D} {n : M (List D)} {x : D} {k l : List D} (h : m g S = some (.ok x, S1)) (hk : asL S1 x = some k) (h2 : n g S1 = some (.ok l, S2)) : mStar m n g S = some (.ok (k ++ l), S2) := e_B h (e_B (e_L hk) (e_B h2 rfl))
theorem e_opA {f : Store → List D → Option D} {m : M (List D)} {l : List D} {z : D} (h : m g S = some (.ok l, S1)) (k : f S1 l = some z) : mOpA f m g S = some (.ok z, S1) := e_B h (e_L k)
theorem e_call {mf : MF} {m : M (List D)} {l : List D} {r : Option (R D × Store)} (h : m g S = some (.ok l, S1)) (k : mf l S1 = r) : mCall mf m g S = r := e_B h k
theorem e_callC {mf : MF} {x : Str} {m : M (List D)} {l : List D} {r : Option (R D × Store)} (h : m g S = some (.ok l, S1)) (k : mf (.cls x :: l) S1 = r) : mCallC mf x m g S = r := e_B h k
theorem e_T {m : M D} {b : Bool} (h : m g S = some (.ok (.bl b), S1)) : mT m g S = some (.ok b, S1) := e_B h rfl
theorem e_notT {m : M Bool} {b : Bool} (h : m g S = some (.ok b, S1)) : mNotT m g S = some (.ok (!b), S1) := e_B h rfl
theorem e_andT {m n : M Bool} {b c : Bool} (h : m g S = some (.ok b, S1)) (h2 : n g S1 = some (.ok c, S1)) : mAndT m n g S = some (.ok (b && c), S1) := e_B h (by cases b <;> simp [h2])
theorem e_orT {m n : M Bool} {b c : Bool} (h : m g S = some (.ok b, S1)) (h2 : n g S1 = some (.ok c, S1)) : mOrT m n g S = some (.ok (b || c), S1) := e_B h (by cases b <;> simp [h2])
theorem e_andT_f {m n : M Bool} (h : m g S = some (.ok false, S1)) : mAndT m n g S = some (.ok false, S1) := e_B h rfl
theorem e_andT_t {m n : M Bool} {r : Option (R Bool × Store)} (h : m g S = some (.ok true, S1)) (h2 : n g S1 = r) : mAndT m n g S = r := e_B h h2
theorem e_orT_t {m n : M Bool} (h : m g S = some (.ok true, S1)) : mOrT m n g S = some (.ok true, S1) := e_B h rfl
theorem e_orT_f {m n : M Bool} {r : Option (R Bool × Store)} (h : m g S = some (.ok false, S1)) (h2 : n g S1 = r) : mOrT m n g S = r := e_B h h2
theorem e_Bl {m : M D} {f : Bool → M D} {b : Bool} {r : Option (R D × Store)} (h : m g S = some (.ok (.bl b), S1)) (k : f b g S1 = r) : mBl m f g S = r := e_B h k
theorem e_andV {m n : M D} {b c : Bool} (h : m g S = some (.ok (.bl b), S1)) (h2 : n g S1 = some (.ok (.bl c), S1)) : mAndV m n g S = some (.ok (.bl (b && c)), S1) := e_Bl h (by cases b <;> simp [h2])
theorem e_orV {m n : M D} {b c : Bool} (h : m g S = some (.ok (.bl b), S1)) (h2 : n g S1 = some (.ok (.bl c), S1)) : mOrV m n g S = some (.ok (.bl (b || c)), S1) := e_Bl h (by cases b <;> simp [h2])
theorem e_andV_f {m n : M D} (h : m g S = some (.ok (.bl false), S1)) : mAndV m n g S = some (.ok (.bl false), S1) := e_Bl h rfl
theorem e_andV_t {m n : M D} {r : Option (R D × Store)} (h : m g S = some (.ok (.bl true), S1)) (h2 : n g S1 = r) : mAndV m n g S = r := e_Bl h h2
theorem e_orV_t {m n : M D} (h : m g S = some (.ok (.bl true), S1)) : mOrV m n g S = some (.ok (.bl true), S1) := e_Bl h rfl
theorem e_orV_f {m n : M D} {r : Option (R D × Store)} (h : m g S = some (.ok (.bl false), S1)) (h2 : n g S1 = r) : mOrV m n g S = r := e_Bl h h2
theorem e_notV {m : M D} {b : Bool} (h : m g S = some (.ok (.bl b), S1)) : mNotV m g S = some (.ok (.bl (!b)), S1) := e_Bl h rfl
theorem e_if_t {c : M Bool} {m n : M D} {r : Option (R D × Store)} (h : c g S = some (.ok true, S1)) (k : m g S1 = r) : mIf c m n g S = r := e_B h k
theorem e_if_f {c : M Bool} {m n : M D} {r : Option (R D × Store)} (h : c g S = some (.ok false, S1)) (k : n g S1 = r) : mIf c m n g S = r := e_B h k
theorem e_if {c : M Bool} {m n : M D} {b : Bool} {x y : D} (h : c g S = some (.ok b, S1)) (k1 : m g S1 = some (.ok x, S1)) (k2 : n g S1 = some (.ok y, S1)) : mIf c m n g S = some (.ok (if b = true then x else y), S1) := e_B h (by cases b <;> simp [k1, k2])
theorem e_ch {f f' : Store → D → D → Option D} {ma mb mc : M D} {x y z : D} {b c : Bool} (h1 : ma g S = some (.ok x, S1)) (h2 : mb g S1 = some (.ok y, S2)) (h3 : f S2 x y = some (.bl b)) (h4 : mc g S2 = some (.ok z, S2)) (h5 : f' S2 y z = some (.bl c)) :
    mCh f f' ma mb mc g S = some (.ok (.bl (b && c)), S2) := e_B h1 (e_B h2 (e_B (e_L h3) (by cases b with
  | true => exact e_B h4 (e_L h5)
  | false => rfl)))
theorem e_ch_f {f f' : Store → D → D → Option D} {ma mb mc : M D} {x y : D} (h1 : ma g S = some (.ok x, S1)) (h2 : mb g S1 = some (.ok y, S2)) (h3 : f S2 x y = some (.bl false)) : mCh f f' ma mb mc g S = some (.ok (.bl false), S2) := e_B h1 (e_B h2 (e_B (e_L h3) rfl))
theorem e_part {m : M D} {i : Int} (h : m g S = some (.ok (.int i), S1)) : mPart m g S = some (.ok (some i), S1) := e_B h rfl
theorem e_sl {m : M D} {lo hi : M (Option Int)} {x z : D} {l u : Option Int} (h1 : m g S = some (.ok x, S1)) (h2 : lo g S1 = some (.ok l, S2)) (h3 : hi g S2 = some (.ok u, S3)) (k : fSl S3 x l u = some z) : mSl m lo hi g S = some (.ok z, S3) := e_B h1 (e_B h2 (e_B h3 (e_L k)))
theorem e_str1 {f : Store → D → D → Option D} {m n : M D} {x : Str} {y z : D} (h : m g S = some (.ok (.str x), S1)) (h2 : n g S1 = some (.ok y, S2)) (k : f S2 (.str x) y = some z) : mStr1 f m n g S = some (.ok z, S2) := e_B h (e_B (e_L rfl) (e_B h2 (e_L k)))
theorem e_newL {m : M (List D)} {l : List D} (h : m g S = some (.ok l, S1)) (hl : l.length ≤ 16777216) : mNewL m g S = some (.ok (.ref S1.length), S1 ++ [.lst l]) := e_B h (by rw [if_pos (sz_ok hl)])
theorem e_listC {m : M (List D)} {d : D} {l : List D} (h : m g S = some (.ok [d], S1)) (k : asL S1 d = some l) : mListC m g S = some (.ok (.ref S1.length), S1 ++ [.lst l]) := e_B h (by simp only [k])
theorem e_app {mo me : M D} {i : Nat} {l : List D} {d : D} {l2 : List D} (h : mo g S = some (.ok (.ref i), S1)) (hi : S1[i]? = some (.lst l2)) (h2 : me g S1 = some (.ok d, S2)) (hi2 : S2[i]? = some (.lst l)) (hl : l.length + 1 ≤ 16777216) :
    mApp mo me g S = some (.ok .non, S2.set i (.lst (l ++ [d]))) := e_B h (e_B (e_L (a := (i, l2)) (by simp only [atC, hi])) (e_B h2 (by simp only [atC, hi2]; rw [if_pos (sz_ok hl)])))
theorem e_varF {i j : Nat} {l : List D} (h : g[i]? = some (some (.ref j))) (k : S[j]? = some (.lst l)) : mVarF i g S = some (.ok (.lst l), S.set j .dead) := by simp only [mVarF, h, atC, k]
theorem e_make {c : Nat} {mf : MF} {m : M (List D)} {l : List D} (h : m g S = some (.ok l, S1)) (k : mf (.ref S1.length :: l) (S1 ++ [.ins c []]) = some (.ok .non, S2)) : mMake c mf m g S = some (.ok (.ref S1.length), S2) := e_B h (by simp only [k])
theorem e_makeX {c c' : Nat} {fs : List (Str × D)} {mf : MF} {m : M (List D)} {l : List D} (h : m g S = some (.ok l, S1)) (k : mf (.ref S1.length :: l) (S1 ++ [.ins c []]) = some (.exc c' fs, S2)) : mMake c mf m g S = some (.exc c' fs, S2) := e_B h (by simp only [k])
theorem e_makeV {tab : Str → Option (Nat × MF)} {mo : M D} {m : M (List D)} {x : Str} {c : Nat} {mf : MF} {r : Option (R D × Store)} (h : mo g S = some (.ok (.cls x), S1)) (ht : tab x = some (c, mf)) (k : mMake c mf m g S1 = r) : mMakeV tab mo m g S = r := by simp only [mMakeV, h, ht, k]
theorem e_meth {tab : Nat → Option MF} {m : Str} {mo : M D} {ma : M (List D)} {i c : Nat} {fs : List (Str × D)} {mf : MF} {l : List D} {r : Option (R D × Store)} (h : mo g S = some (.ok (.ref i), S1)) (hi : S1[i]? = some (.ins c fs)) (hf : fs.lookup m = none) (ht : tab c = some mf)
    (h2 : ma g S1 = some (.ok l, S2)) (k : mf (.ref i :: l) S2 = r) : mMeth tab m mo ma g S = r := by simp only [mMeth, h, hi, hf, ht, h2, k, if_true]
theorem e_prop {tab : Nat → Option MF} {mo : M D} {i c : Nat} {fs : List (Str × D)} {mf : MF} {d : D} (h : mo g S = some (.ok (.ref i), S1)) (hi : S1[i]? = some (.ins c fs)) (ht : tab c = some mf) (k : mf [.ref i] S1 = some (.ok d, S2)) : mProp tab mo g S = some (.ok d, S2) := by
  simp only [mProp, h, hi, ht, k]
theorem e_lenSet {m : M D} {d : D} {l : List Str} (h : m g S = some (.ok d, S1)) (k : asL S1 d = some (l.map .str)) (hl : l.length ≤ 64) : mLenSet m g S = some (.ok (.int (once l).length), S1) := e_B h (e_L (by
  rw [k]
  have e : strsOnly (l.map .str) = some l := by
    clear k hl
    induction l with
    | nil => rfl
    | cons x l ih => simp [strsOnly, ih]
  simp only [Option.bind_some, e]
  rw [if_pos (cdec_iff.mpr hl)]))
/-! ### what is walked -/
theorem e_I_lst {m : M D} {l : List D} (h : m g S = some (.ok (.lst l), S1)) : mI m g S = some (.ok (l, none), S1) := e_B h rfl
theorem e_I_tup {m : M D} {l : List D} (h : m g S = some (.ok (.tup l), S1)) : mI m g S = some (.ok (l, none), S1) := e_B h rfl
theorem e_I_ref {m : M D} {i : Nat} {l : List D} (h : m g S = some (.ok (.ref i), S1)) (hi : S1[i]? = some (.lst l)) : mI m g S = some (.ok (l, some (i, l)), S1) := e_B h (e_L (by simp only [hi]))
theorem e_rng1 {m : M (List D)} {j : Int} (h : m g S = some (.ok [.int j], S1)) (hj : -1000000000 ≤ j ∧ j ≤ 1000000000) : mRng m g S = some (.ok (rngD 0 j.toNat, none), S1) := e_B h (e_L (by simp only [if_pos (big_ok hj)]))
theorem e_rng1n {m : M (List D)} {j : Nat} (h : m g S = some (.ok [.int j], S1)) (hj : j ≤ 1000000000) : mRng m g S = some (.ok (rngD 0 j, none), S1) := e_rng1 h ⟨by omega, by omega⟩
theorem e_enum1 {m : M (List D)} {d : D} {z : Src} (h : m g S = some (.ok [d], S1)) (k : srcL S1 d = some z) : mEnum1 m g S = some (.ok (enumF 0 z.1, z.2), S1) := e_B h (e_L (by simp only [k, Option.map_some]))
theorem e_enum2 {m : M (List D)} {d : D} {n : Int} {z : Src} (h : m g S = some (.ok [d, .int n], S1)) (k : srcL S1 d = some z) (hn : -1000000000 ≤ n ∧ n ≤ 1000000000) : mEnum2 m g S = some (.ok (enumF n z.1, z.2), S1) := e_B h (e_L (by simp only [k, Option.map_some, if_pos (big_ok hn)]))
/-! ### statements -/
theorem s_seq {m n : MS} {r : Option (Out × Store)} (h : m g S = some (.nx g1, S1)) (k : n g1 S1 = r) : mSeq m n g S = r := by simp only [mSeq, h, k]
theorem s_seq_rt {m n : MS} {d : D} (h : m g S = some (.rt d, S1)) : mSeq m n g S = some (.rt d, S1) := by simp only [mSeq, h]
theorem s_seq_ex {m n : MS} {c : Nat} {fs : List (Str × D)} (h : m g S = some (.ex g1 c fs, S1)) : mSeq m n g S = some (.ex g1 c fs, S1) := by simp only [mSeq, h]
theorem s_seq_bk {m n : MS} (h : m g S = some (.bk g1, S1)) : mSeq m n g S = some (.bk g1, S1) := by simp only [mSeq, h]
theorem s_seq_ct {m n : MS} (h : m g S = some (.ct g1, S1)) : mSeq m n g S = some (.ct g1, S1) := by simp only [mSeq, h]
theorem s_set {i : Nat} {m : M D} {d : D} (h : m g S = some (.ok d, S1)) : mSet i m g S = some (.nx (g.set i (some d)), S1) := by simp only [mSet, h]
theorem s_setX {i : Nat} {m : M D} {c : Nat} {fs : List (Str × D)} (h : m g S = some (.exc c fs, S1)) : mSet i m g S = some (.ex g c fs, S1) := by simp only [mSet, h]
theorem s_ex {m : M D} {d : D} (h : m g S = some (.ok d, S1)) : mEx m g S = some (.nx g, S1) := by simp only [mEx, h]
theorem s_exX {m : M D} {c : Nat} {fs : List (Str × D)} (h : m g S = some (.exc c fs, S1)) : mEx m g S = some (.ex g c fs, S1) := by simp only [mEx, h]
theorem s_ret {m : M D} {d : D} (h : m g S = some (.ok d, S1)) : mRet m g S = some (.rt d, S1) := by simp only [mRet, h]
theorem s_retX {m : M D} {c : Nat} {fs : List (Str × D)} (h : m g S = some (.exc c fs, S1)) : mRet m g S = some (.ex g c fs, S1) := by simp only [mRet, h]
theorem s_retN : mRetN g S = some (.rt .non, S) := rfl
theorem s_skip : mSkip g S = some (.nx g, S) := rfl
theorem s_brk : mBrk g S = some (.bk g, S) := rfl
theorem s_cnt : mCnt g S = some (.ct g, S) := rfl
theorem s_if_t {c : M Bool} {m n : MS} {r : Option (Out × Store)} (h : c g S = some (.ok true, S1)) (k : m g S1 = r) : mIfS c m n g S = r := by simp only [mIfS, h, if_true, k]
theorem s_if_f {c : M Bool} {m n : MS} {r : Option (Out × Store)} (h : c g S = some (.ok false, S1)) (k : n g S1 = r) : mIfS c m n g S = r := by simp only [mIfS, h, Bool.false_eq_true, if_false, k]
theorem s_if {c : M Bool} {m n : MS} {b : Bool} {r : Option (Out × Store)} (h : c g S = some (.ok b, S1)) (k1 : b = true → m g S1 = r) (k2 : b = false → n g S1 = r) : mIfS c m n g S = r := by
  cases b with
  | true => exact s_if_t h (k1 rfl)
  | false => exact s_if_f h (k2 rfl)
theorem s_ifT {c : M Bool} {m n : MS} {b : Bool} {r : Option (Out × Store)} (h : c g S = some (.ok b, S1)) (hb : b = true) (k : m g S1 = r) : mIfS c m n g S = r := s_if_t (hb ▸ h) k
theorem s_ifF {c : M Bool} {m n : MS} {b : Bool} {r : Option (Out × Store)} (h : c g S = some (.ok b, S1)) (hb : b = false) (k : n g S1 = r) : mIfS c m n g S = r := s_if_f (hb ▸ h) k
theorem s_raiseF {c : Nat} {ns : List Str} {m : M (List D)} {l : List D} (h : m g S = some (.ok l, S1)) (hl : l.length = ns.length) (hr : refsLts 0 l = true) : mRaiseF c ns m g S = some (.ex g c (ns.zip l).reverse, S1) := by simp only [mRaiseF, h, hl, hr, and_self, if_true]
theorem s_raise {c : Nat} {fs : List (Str × D)} : mRaise c fs g S = some (.ex g c fs, S) := rfl
theorem s_setF {ok : Nat → Bool} {f : Str} {mo mv : M D} {d : D} {i c : Nat} {fs : List (Str × D)} (h : mv g S = some (.ok d, S1)) (h2 : mo g S1 = some (.ok (.ref i), S2)) (hi : S2[i]? = some (.ins c fs)) (ho : ok c = true) (hl : fs.length < 1000) :
    mSetF ok f mo mv g S = some (.nx g, S2.set i (.ins c (putD f d fs))) := by simp only [mSetF, h, h2, hi, ho, hl, and_self, if_true]
theorem s_augI {i : Nat} {f : Int → Int → Int} {m : M D} {a b : Int} (hg : g[i]? = some (some (.int a))) (h : m g S = some (.ok (.int b), S1)) : mAugI i f m g S = some (.nx (g.set i (some (.int (f a b)))), S1) := by simp only [mAugI, hg, h]
theorem s_augL {i j : Nat} {m : M D} {d : D} {l k : List D} (hg : g[i]? = some (some (.ref j))) (h : m g S = some (.ok d, S1)) (hj : S1[j]? = some (.lst l)) (hd : asLL S1 d = some k) (hl : l.length + k.length ≤ 16777216) :
    mAugL i m g S = some (.nx (g.set i (some (.ref j))), S1.set j (.lst (l ++ k))) := by simp only [mAugL, hg, h, hj, hd, if_pos (sz_ok hl)]
theorem s_tryO {mb : MS} {tab : Nat → Option Bool} {mh : Nat → List (Str × D) → MS} (h : mb g S = some (.nx g1, S1)) : mTryO mb tab mh g S = some (.nx g1, S1) := by simp only [mTryO, h]
theorem s_tryO_X {mb : MS} {tab : Nat → Option Bool} {mh : Nat → List (Str × D) → MS} {c : Nat} {fs : List (Str × D)} {o o' : Out} (h : mb g S = some (.ex g1 c fs, S1)) (ht : tab c = some true) (k : mh c fs g1 S1 = some (o, S2)) (ho : outO o = some o') : mTryO mb tab mh g S = some (o', S2) := by simp only [mTryO, h, ht, k, ho, Option.map_some]
theorem s_tryAs {mb : MS} {tab : Nat → Option Bool} {i : Nat} {mh : Nat → List (Str × D) → MS} (h : mb g S = some (.nx g1, S1)) : mTryAs mb tab i mh g S = some (.nx g1, S1) := by simp only [mTryAs, h]
theorem s_tryAs_X {mb : MS} {tab : Nat → Option Bool} {i : Nat} {mh : Nat → List (Str × D) → MS} {c : Nat} {fs : List (Str × D)} {o o' : Out} (h : mb g S = some (.ex g1 c fs, S1)) (ht : tab c = some true) (k : mh c fs (g1.set i none) S1 = some (o, S2)) (ho : outE i o = some o') : mTryAs mb tab i mh g S = some (o', S2) := by simp only [mTryAs, h, ht, k, ho, Option.map_some]
theorem e_methX {tab : Nat → Option MF} {m : Str} {mo : M D} {ma : M (List D)} {i c c' : Nat} {fs fs' : List (Str × D)} (h : mo g S = some (.ok (.ref i), S1)) (hi : S1[i]? = some (.ins c fs)) (hf : fs.lookup m = none) (ht : (tab c).isSome = true)
    (h2 : ma g S1 = some (.exc c' fs', S2)) : mMeth tab m mo ma g S = some (.exc c' fs', S2) := by
  obtain ⟨mf, ht⟩ := Option.isSome_iff_exists.mp ht
  simp only [mMeth, h, hi, hf, ht, h2, if_true]
theorem e_consX {m : M D} {n : M (List D)} {c : Nat} {fs : List (Str × D)} (h : m g S = some (.exc c fs, S1)) : mCons m n g S = some (.exc c fs, S1) := by simp only [mCons, mB, h]
theorem e_makeAX {c c' : Nat} {fs : List (Str × D)} {mf : MF} {m : M (List D)} (h : m g S = some (.exc c' fs, S1)) : mMake c mf m g S = some (.exc c' fs, S1) := by simp only [mMake, mB, h]
theorem e_callH {mf : MF} {m : M (List D)} {l : List D} {d : D} (h : m g S = some (.ok l, S1)) (k : mf l S1 = some (.ok d, S2)) : mCallH mf m g S = some (.ok d, S2) := by simp only [mCallH, h, k]
theorem e_ef {i : Nat} {d : D} {r : Option D} (h : g[i]? = some none) (hr : r = some d) : mEf i r g S = some (.ok d, S) := by simp only [mEf, h, hr, Option.map_some]
theorem e_setG_lst {tab : Nat → Option MF} {mo mk mv : M D} {i j : Nat} {n : Int} {d : D} {l l2 : List D} (h : mv g S = some (.ok d, S1)) (h2 : mo g S1 = some (.ok (.ref i), S2)) (hi : S2[i]? = some (.lst l2)) (h3 : mk g S2 = some (.ok (.int n), S3)) (hi3 : S3[i]? = some (.lst l)) (hj : ixN l.length n = some j) :
    mSetG tab mo mk mv g S = some (.nx g, S3.set i (.lst (l.set j d))) := by simp only [mSetG, h, h2, hi, h3, hi3, hj, Option.map_some]
theorem s_for {mi : M Src} {b : Bind} {body : MS} {src : Src} {r : Option (Out × Store)} (h : mi g S = some (.ok src, S1)) (k : forGo src b body src.1 g S1 = r) : mFor mi b body g S = r := by simp only [mFor, h, k]
theorem f_rt {N np : Nat} {b : MS} {ds : List D} {d : D} (hl : ds.length = np) (h : b (ds.map some ++ List.replicate (N - np) none) S = some (.rt d, S1)) : mFn N np b ds S = some (.ok d, S1) := fn_rt hl h
end
/-! ### loops: an invariant by the turn -/
section
variable {src : Src} {b : Bind} {body : MS}
/-- over any list: the turns before have gone on -/
theorem for_pre (I : List D → Gm → Store → Prop) (hs : ∀ l g S, I l g S → srcOk S src)
    (turn : ∀ d ds g S, I (d :: ds) g S → ∃ g1 g2 S2, b d g = some g1 ∧ (body g1 S = some (.nx g2, S2) ∨ body g1 S = some (.ct g2, S2)) ∧ I ds g2 S2) :
    ∀ (l : List D) (g : Gm) (S : Store), I l g S → ∃ g' S', forGo src b body l g S = some (.nx g', S') ∧ I [] g' S' :=
  forGo_all I (fun d ds g S h => ⟨hs _ _ _ h, turn d ds g S h⟩) fun g S h => hs _ _ _ h
/-- over a list with turns of unlike ends: stop at the first that leaves -/
theorem for_cons {d : D} {ds : List D} {g g1 g2 : Gm} {S S2 : Store} {r : Option (Out × Store)} (hs : srcOk S src) (hb : b d g = some g1) (h : body g1 S = some (.nx g2, S2)) (k : forGo src b body ds g2 S2 = r) : forGo src b body (d :: ds) g S = r := by
  simp only [forGo, if_pos hs, hb, h, k]
theorem for_cons_ct {d : D} {ds : List D} {g g1 g2 : Gm} {S S2 : Store} {r : Option (Out × Store)} (hs : srcOk S src) (hb : b d g = some g1) (h : body g1 S = some (.ct g2, S2)) (k : forGo src b body ds g2 S2 = r) : forGo src b body (d :: ds) g S = r := by
  simp only [forGo, if_pos hs, hb, h, k]
theorem for_cons_rt {d z : D} {ds : List D} {g g1 : Gm} {S S2 : Store} (hs : srcOk S src) (hb : b d g = some g1) (h : body g1 S = some (.rt z, S2)) : forGo src b body (d :: ds) g S = some (.rt z, S2) := by
  simp only [forGo, if_pos hs, hb, h]
theorem for_cons_ex {d : D} {c : Nat} {fs : List (Str × D)} {ds : List D} {g g1 g2 : Gm} {S S2 : Store} (hs : srcOk S src) (hb : b d g = some g1) (h : body g1 S = some (.ex g2 c fs, S2)) : forGo src b body (d :: ds) g S = some (.ex g2 c fs, S2) := by
  simp only [forGo, if_pos hs, hb, h]
theorem for_nil {g : Gm} {S : Store} (hs : srcOk S src) : forGo src b body [] g S = some (.nx g, S) := by simp only [forGo, if_pos hs]
end
/-! ### comprehensions -/
section
variable {vs : List Nat} {mi : M Src} {b : Bind} {mt : M Bool} {me : M D} {g : Gm} {S S1 S2 : Store}
theorem e_lc {src : Src} {l : List D} (h1 : mi g S = some (.ok src, S1)) (h2 : lcGo src b mt me (wipeG g vs) src.1 [] S1 = some (l, S2)) : mLc vs mi b mt me g S = some (.ok (.lst l), S2) := v_lc h1 h2
theorem e_lcC {src : Src} {l : List D} (h1 : mi g S = some (.ok src, S1)) (h2 : lcGo src b mt me (wipeG g vs) src.1 [] S1 = some (l, S2)) : mLcC vs mi b mt me g S = some (.ok (.ref S2.length), S2 ++ [.lst l]) := by
  unfold mLcC mB
  rw [h1]
  simp only [h2]
/-- each item of l gives its partner in r; nothing else changes -/
theorem lc_all {src : Src} {g0 : Gm} (hok : srcOk S src) : ∀ (l r acc : List D), l.length = r.length → (∀ (k : Nat) (d z : D), l[k]? = some d → r[k]? = some z → ∃ g1, b d g0 = some g1 ∧ me g1 S = some (.ok z, S)) → l.length + acc.length ≤ 16777216 →
    lcGo src b (mP true) me g0 l acc S = some (acc ++ r, S)
  | [], [], acc, _, _, _ => by simp only [lcGo, if_pos hok, List.append_nil]
  | d :: ds, z :: r, acc, hl, h, hn => by
    obtain ⟨g1, e1, e2⟩ := h 0 d z rfl rfl
    simp only [List.length_cons] at hn hl
    simp only [lcGo, if_pos hok, e1, v_P, e2]
    rw [if_pos (sz_ok (by omega)), lc_all hok ds r (acc ++ [z]) (by omega) (fun k x y hx hy => h (k + 1) x y (by simpa using hx) (by simpa using hy)) (by simp; omega)]
    simp
  | [], _ :: _, _, hl, _, _ => by simp at hl
  | _ :: _, [], _, hl, _, _ => by simp at hl
theorem e_lc_all {src : Src} {r : List D} (h1 : mi g S = some (.ok src, S1)) (hok : srcOk S1 src) (hl : src.1.length = r.length) (hn : src.1.length ≤ 16777216)
    (h : ∀ (k : Nat) (d z : D), src.1[k]? = some d → r[k]? = some z → ∃ g1, b d (wipeG g vs) = some g1 ∧ me g1 S1 = some (.ok z, S1)) : mLc vs mi b (mP true) me g S = some (.ok (.lst r), S1) :=
  e_lc h1 (by simpa using lc_all hok src.1 r [] hl h (by simpa using hn))
end
/-! ### answers of the operators -/
section
variable {S : Store}
theorem o_len_l {l : List D} : cLen S [.lst l] = some (.int l.length) := rfl
theorem o_len_t {l : List D} : cLen S [.tup l] = some (.int l.length) := rfl
theorem o_len_r {i : Nat} {l : List D} (h : S[i]? = some (.lst l)) : cLen S [.ref i] = some (.int l.length) := by simp only [cLen, asL, h, Option.map_some]
theorem o_len_as {d : D} {l : List D} (h : asL S d = some l) : cLen S [d] = some (.int l.length) := by
  cases d <;> simp only [asL] at h <;> first | (cases h; done) | (simp only [cLen, asL, h, Option.map_some])
theorem o_list_as {d : D} {l : List D} (h : asL S d = some l) : cList S [d] = some (.lst l) := by simp only [cList, h, Option.map_some]
theorem o_tuple_as {d : D} {l : List D} (h : asL S d = some l) : cTuple S [d] = some (.tup l) := by
  cases d <;> simp only [asL] at h <;> first | (cases h; done) | (cases h; rfl) | (simp only [cTuple, asLL, h, Option.map_some])
theorem o_tup {l : List D} (h : l.length ≤ 16777216) : fTup S l = some (.tup l) := by show (if szOk l.length = true then _ else _) = _; rw [if_pos (sz_ok h)]
theorem o_lst {l : List D} (h : l.length ≤ 16777216) : fLst S l = some (.lst l) := by show (if szOk l.length = true then _ else _) = _; rw [if_pos (sz_ok h)]
theorem o_ix {d z : D} {l : List D} {i : Int} (h : asL S d = some l) (k : atI l i = some z) : fIx S d (.int i) = some z := by
  cases d <;> simp only [asL] at h <;> first | (cases h; done) | (simp only [fIx, asL, h, Option.bind_some, k])
theorem at_nat {l : List D} {k : Nat} {z : D} (h : l[k]? = some z) : atI l (k : Int) = some z := by rw [atI_nat h]
theorem at_zero {l : List D} {z : D} (h : l[0]? = some z) : atI l 0 = some z := by exact_mod_cast at_nat (k := 0) h
theorem at_neg1 {l : List D} {z : D} (h : l.getLast? = some z) : atI l (-1) = some z := by
  obtain ⟨ys, rfl⟩ := List.getLast?_eq_some_iff.mp h
  have e : ixN (ys.length + 1) (-1) = some ys.length := by
    unfold ixN
    simp
    omega
  simp [atI, e]
theorem o_fld {ok : Nat → Bool} {f : Str} {i c : Nat} {fs : List (Str × D)} {z : D} (hi : S[i]? = some (.ins c fs)) (ho : ok c = true) (h : fs.lookup f = some z) : fldOf ok f S (.ref i) = some z := by simp only [fldOf, hi, ho, if_true, h]
theorem o_con {tab : Nat → Option D} {f : Str} {i c : Nat} {fs : List (Str × D)} {z : D} (hi : S[i]? = some (.ins c fs)) (hf : fs.lookup f = none) (h : tab c = some z) : conOf tab f S (.ref i) = some z := by simp only [conOf, hi, hf, if_true, h]
theorem set_at {S : Store} {i : Nat} {c d : Cell} (h : S[i]? = some d) : (S.set i c)[i]? = some c := List.getElem?_set_self (List.getElem?_eq_some_iff.mp h).1
theorem set_other {S : Store} {i j : Nat} {c : Cell} (h : i ≠ j) : (S.set i c)[j]? = S[j]? := List.getElem?_set_ne h
theorem app_old {S x : Store} {j : Nat} {c : Cell} (h : S[j]? = some c) : (S ++ x)[j]? = some c := by rw [List.getElem?_append_left (List.getElem?_eq_some_iff.mp h).1, h]
theorem app_new {S : Store} {c : Cell} {x : Store} : (S ++ c :: x)[S.length]? = some c := by simp
end
end Mi
/-! printed by gen2.py -/
namespace Lw
open PySem L2 Mi
def top (i : Nat) : Stmt := PySem.Challenge.pw_elderreads_k03_whole_program_texts.main.body.getD i (.Pass ⟨0, 0, 0, 0⟩)
abbrev s_law_pool : Stmt := top 24
def N_law_pool : List Str := ["_law_script", "_law_draws", "_law_cell", "_law_rest", "_law_k", "_law_one"]
theorem sc_law_pool : FnScope N_law_pool ["_law_script"] (defScope s_law_pool) := ⟨rfl, rfl, rfl, by decide +kernel, rfl, by decide +kernel, by decide +kernel⟩
abbrev s_law_draw : Stmt := top 25
def N_law_draw : List Str := ["_law_draws", "_law_k", "_law_many"]
theorem sc_law_draw : FnScope N_law_draw ["_law_draws", "_law_k", "_law_many"] (defScope s_law_draw) := ⟨rfl, rfl, rfl, by decide +kernel, rfl, by decide +kernel, by decide +kernel⟩
abbrev s_law_word : Stmt := top 30
def N_law_word : List Str := ["_law_draws", "_law_at", "_law_letters", "_law_size", "_law_k"]
theorem sc_law_word : FnScope N_law_word ["_law_draws", "_law_at"] (defScope s_law_word) := ⟨rfl, rfl, rfl, by decide +kernel, rfl, by decide +kernel, by decide +kernel⟩
abbrev s_law_distinct : Stmt := top 31
def N_law_distinct : List Str := ["_law_draws", "_law_at", "_law_count", "_law_names", "_law_k", "_law_name", "_law_spare"]
theorem sc_law_distinct : FnScope N_law_distinct ["_law_draws", "_law_at", "_law_count"] (defScope s_law_distinct) := ⟨rfl, rfl, rfl, by decide +kernel, rfl, by decide +kernel, by decide +kernel⟩
abbrev s_law_sizes : Stmt := top 28
def N_law_sizes : List Str := ["_law_draws", "_law_at", "_law_most", "_law_count", "_law_top", "_law_menu", "_law_k"]
theorem sc_law_sizes : FnScope N_law_sizes ["_law_draws", "_law_at", "_law_most"] (defScope s_law_sizes) := ⟨rfl, rfl, rfl, by decide +kernel, rfl, by decide +kernel, by decide +kernel⟩
abbrev s_law_value : Stmt := top 26
def N_law_value : List Str := ["_law_number"]
theorem sc_law_value : FnScope N_law_value ["_law_number"] (defScope s_law_value) := ⟨rfl, rfl, rfl, by decide +kernel, rfl, by decide +kernel, by decide +kernel⟩
abbrev s_law_row : Stmt := top 27
def N_law_row : List Str := ["_law_draws", "_law_at", "_law_cells", "_law_size", "_law_kind", "_law_cell", "_law_number"]
theorem sc_law_row : FnScope N_law_row ["_law_draws", "_law_at", "_law_cells", "_law_size"] (defScope s_law_row) := ⟨rfl, rfl, rfl, by decide +kernel, rfl, by decide +kernel, by decide +kernel⟩
abbrev s_law_threads : Stmt := top 29
def N_law_threads : List Str := ["_law_draws", "_law_at", "_law_cells", "_law_sizes_here", "_law_style", "_law_threads_here", "_law_place", "_law_which", "_law_rows", "_law_k", "_law_row_here", "_law_value_here"]
theorem sc_law_threads : FnScope N_law_threads ["_law_draws", "_law_at", "_law_cells", "_law_sizes_here"] (defScope s_law_threads) := ⟨rfl, rfl, rfl, by decide +kernel, rfl, by decide +kernel, by decide +kernel⟩
abbrev s_law_text : Stmt := top 32
def N_law_text : List Str := ["_law_cells", "_law_threads_here", "_law_lines", "_law_rows", "_law_row_here", "_law_part"]
theorem sc_law_text : FnScope N_law_text ["_law_cells", "_law_threads_here"] (defScope s_law_text) := ⟨rfl, rfl, rfl, by decide +kernel, rfl, by decide +kernel, by decide +kernel⟩
abbrev s_is_name : Stmt := top 13
def N_is_name : List Str := ["text", "letter"]
theorem sc_is_name : FnScope N_is_name ["text"] (defScope s_is_name) := ⟨rfl, rfl, rfl, by decide +kernel, rfl, by decide +kernel, by decide +kernel⟩
abbrev s_is_number : Stmt := top 16
def N_is_number : List Str := ["number", "most"]
theorem sc_is_number : FnScope N_is_number ["number", "most"] (defScope s_is_number) := ⟨rfl, rfl, rfl, by decide +kernel, rfl, by decide +kernel, by decide +kernel⟩
abbrev s_Program_is_row : Stmt := inClass (top 22) 4
def N_Program_is_row : List Str := ["self", "parts", "size", "cell", "target", "value", "kind", "operand"]
theorem sc_Program_is_row : FnScope N_Program_is_row ["self", "parts", "size"] (defScope s_Program_is_row) := ⟨rfl, rfl, rfl, by decide +kernel, rfl, by decide +kernel, by decide +kernel⟩
abbrev s_Program__init_ : Stmt := inClass (top 22) 3
def N_Program__init_ : List Str := ["self", "cells", "threads", "thread", "rows", "row", "parts", "name"]
theorem sc_Program__init_ : FnScope N_Program__init_ ["self", "cells", "threads"] (defScope s_Program__init_) := ⟨rfl, rfl, rfl, by decide +kernel, rfl, by decide +kernel, by decide +kernel⟩
abbrev s_Program_of : Stmt := inClass (top 22) 6
def N_Program_of : List Str := ["cls", "cells", "threads"]
theorem sc_Program_of : FnScope N_Program_of ["cls", "cells", "threads"] (defScope s_Program_of) := ⟨rfl, rfl, rfl, by decide +kernel, rfl, by decide +kernel, by decide +kernel⟩
abbrev s_law_of : Stmt := top 34
def N_law_of : List Str := ["_law_cells", "_law_threads_here"]
theorem sc_law_of : FnScope N_law_of ["_law_cells", "_law_threads_here"] (defScope s_law_of) := ⟨rfl, rfl, rfl, by decide +kernel, rfl, by decide +kernel, by decide +kernel⟩
abbrev s_law_same : Stmt := top 33
def N_law_same : List Str := ["_law_actual", "_law_due", "_law_k"]
theorem sc_law_same : FnScope N_law_same ["_law_actual", "_law_due"] (defScope s_law_same) := ⟨rfl, rfl, rfl, by decide +kernel, rfl, by decide +kernel, by decide +kernel⟩
abbrev s_is_value : Stmt := top 14
def N_is_value : List Str := ["text"]
theorem sc_is_value : FnScope N_is_value ["text"] (defScope s_is_value) := ⟨rfl, rfl, rfl, by decide +kernel, rfl, by decide +kernel, by decide +kernel⟩
abbrev s_is_target : Stmt := top 15
def N_is_target : List Str := ["text"]
theorem sc_is_target : FnScope N_is_target ["text"] (defScope s_is_target) := ⟨rfl, rfl, rfl, by decide +kernel, rfl, by decide +kernel, by decide +kernel⟩
abbrev s_parse_row : Stmt := top 17
def N_parse_row : List Str := ["line", "cell", "target", "value", "kind", "operand"]
theorem sc_parse_row : FnScope N_parse_row ["line"] (defScope s_parse_row) := ⟨rfl, rfl, rfl, by decide +kernel, rfl, by decide +kernel, by decide +kernel⟩
abbrev s_Program_read : Stmt := inClass (top 22) 5
def N_Program_read : List Str := ["cls", "text", "cells", "threads", "number", "line", "words", "name"]
theorem sc_Program_read : FnScope N_Program_read ["cls", "text"] (defScope s_Program_read) := ⟨rfl, rfl, rfl, by decide +kernel, rfl, by decide +kernel, by decide +kernel⟩
abbrev s_Program_rows_of : Stmt := inClass (top 22) 8
def N_Program_rows_of : List Str := ["self", "thread"]
theorem sc_Program_rows_of : FnScope N_Program_rows_of ["self", "thread"] (defScope s_Program_rows_of) := ⟨rfl, rfl, rfl, by decide +kernel, rfl, by decide +kernel, by decide +kernel⟩
abbrev s_Program__len_ : Stmt := inClass (top 22) 7
def N_Program__len_ : List Str := ["self"]
theorem sc_Program__len_ : FnScope N_Program__len_ ["self"] (defScope s_Program__len_) := ⟨rfl, rfl, rfl, by decide +kernel, rfl, by decide +kernel, by decide +kernel⟩
abbrev s_format_row : Stmt := top 18
def N_format_row : List Str := ["row", "part"]
theorem sc_format_row : FnScope N_format_row ["row"] (defScope s_format_row) := ⟨rfl, rfl, rfl, by decide +kernel, rfl, by decide +kernel, by decide +kernel⟩
abbrev s_Program_text : Stmt := inClass (top 22) 10
def N_Program_text : List Str := ["self", "lines", "rows", "row"]
theorem sc_Program_text : FnScope N_Program_text ["self"] (defScope s_Program_text) := ⟨rfl, rfl, rfl, by decide +kernel, rfl, by decide +kernel, by decide +kernel⟩
abbrev s_law_holds : Stmt := top 35
def N_law_holds : List Str := ["_law_program", "_law_cells", "_law_threads_here", "_law_text_here", "_law_k", "_law_rows"]
theorem sc_law_holds : FnScope N_law_holds ["_law_program", "_law_cells", "_law_threads_here", "_law_text_here"] (defScope s_law_holds) := ⟨rfl, rfl, rfl, by decide +kernel, rfl, by decide +kernel, by decide +kernel⟩
abbrev s_settle : Stmt := top 19
def N_settle : List Str := ["rows", "row", "held", "followed"]
theorem sc_settle : FnScope N_settle ["rows", "row", "held"] (defScope s_settle) := ⟨rfl, rfl, rfl, by decide +kernel, rfl, by decide +kernel, by decide +kernel⟩
abbrev s_Thread__init_ : Stmt := inClass (top 21) 0
def N_Thread__init_ : List Str := ["self", "rows"]
theorem sc_Thread__init_ : FnScope N_Thread__init_ ["self", "rows"] (defScope s_Thread__init_) := ⟨rfl, rfl, rfl, by decide +kernel, rfl, by decide +kernel, by decide +kernel⟩
abbrev s_Program_thread_at : Stmt := inClass (top 22) 9
def N_Program_thread_at : List Str := ["self", "thread"]
theorem sc_Program_thread_at : FnScope N_Program_thread_at ["self", "thread"] (defScope s_Program_thread_at) := ⟨rfl, rfl, rfl, by decide +kernel, rfl, by decide +kernel, by decide +kernel⟩
abbrev s_law_unknown : Stmt := top 36
def N_law_unknown : List Str := ["_law_program", "_law_number", "_law_raised", "e"]
theorem sc_law_unknown : FnScope N_law_unknown ["_law_program", "_law_number"] (defScope s_law_unknown) := ⟨rfl, rfl, rfl, by decide +kernel, rfl, by decide +kernel, by decide +kernel⟩
abbrev s_law : Stmt := top 37
def N_law : List Str := ["_law_script", "_law_draws", "_law_cells", "_law_sizes_here", "_law_threads_here", "_law_text_here", "_law_names", "_law_handed", "_law_built", "_law_listed", "_law_own", "_law_parted", "_law_k", "_law_one", "_law_rows", "_law_number"]
theorem sc_law : FnScope N_law ["_law_script"] (defScope s_law) := ⟨rfl, rfl, rfl, by decide +kernel, rfl, by decide +kernel, by decide +kernel⟩
abbrev s_InvalidRow__init_ : Stmt := inClass (top 6) 0
theorem sc_InvalidRow__init_ : SScope ["self", "thread", "row"] ["self", "thread", "row"] (defScope s_InvalidRow__init_) := ⟨rfl, rfl, rfl, by decide +kernel, rfl, by decide +kernel, by decide +kernel, by decide +kernel⟩
abbrev s_InvalidLine__init_ : Stmt := inClass (top 7) 0
theorem sc_InvalidLine__init_ : SScope ["self", "line"] ["self", "line"] (defScope s_InvalidLine__init_) := ⟨rfl, rfl, rfl, by decide +kernel, rfl, by decide +kernel, by decide +kernel, by decide +kernel⟩
abbrev s_UnknownThread__init_ : Stmt := inClass (top 8) 0
theorem sc_UnknownThread__init_ : SScope ["self", "thread"] ["self", "thread"] (defScope s_UnknownThread__init_) := ⟨rfl, rfl, rfl, by decide +kernel, rfl, by decide +kernel, by decide +kernel, by decide +kernel⟩
abbrev cx_InvalidRow : Nat := 0
abbrev cx_InvalidShape : Nat := 1
abbrev cx_InvalidCells : Nat := 2
abbrev cx_InvalidText : Nat := 3
abbrev cx_InvalidLine : Nat := 4
abbrev cx_UnknownThread : Nat := 5
abbrev cx_ElderError : Nat := 6
abbrev cx_Program : Nat := 7
abbrev cx_Thread : Nat := 8
def tb_InvalidText : Nat → Option Bool
  | 0 => some false
  | 1 => some false
  | 2 => some false
  | 3 => some true
  | 4 => some false
  | 5 => some false
  | _ => none
theorem tb_InvalidText_lt {c : Nat} {b : Bool} (h : tb_InvalidText c = some b) : c < 6 := by
  unfold tb_InvalidText at h; split at h <;> first | decide | cases h
def tb_UnknownThread : Nat → Option Bool
  | 0 => some false
  | 1 => some false
  | 2 => some false
  | 3 => some false
  | 4 => some false
  | 5 => some true
  | _ => none
theorem tb_UnknownThread_lt {c : Nat} {b : Bool} (h : tb_UnknownThread c = some b) : c < 6 := by
  unfold tb_UnknownThread at h; split at h <;> first | decide | cases h
abbrev k_DIGITS : D := .str "0123456789"
abbrev k_LETTERS : D := .str "abcdefghijklmnopqrstuvwxyz"
abbrev k_LOCAL : D := .tup [.str "test", .str "jump"]
structure Txt (P : Program) (K : PySem.W.Frag) (mg : Str → Option Value) (a : Nat → Addr) (fd : Nat → FuncData) (e : Nat → Addr) : Prop where
  n_abs : mg "abs" = none
  n_all : mg "all" = none
  n_bool : mg "bool" = none
  n_enumerate : mg "enumerate" = none
  n_int : mg "int" = none
  n_isinstance : mg "isinstance" = none
  n_len : mg "len" = none
  n_list : mg "list" = none
  n_range : mg "range" = none
  n_set : mg "set" = none
  n_str : mg "str" = none
  n_sum : mg "sum" = none
  n_tuple : mg "tuple" = none
  c_DIGITS : ∃ t, mg "DIGITS" = some (.str "0123456789" t)
  c_LETTERS : ∃ t, mg "LETTERS" = some (.str "abcdefghijklmnopqrstuvwxyz" t)
  c_LOCAL : ∃ (b : Addr) (us : List Value) (od : Option Addr) (n : Nat) (sl : Array (Option Value)), mg "LOCAL" = some (.ref b) ∧ K.lookup b = some ⟨.type "tuple", od, .seq us.toArray n, sl⟩ ∧ TupStr ["test", "jump"] us ∧ us.length ≤ sizeLine
  F_law_pool : Fun K "_law_pool" "_law_pool" s_law_pool (a 0) (fd 0)
  g_law_pool : mg "_law_pool" = some (.ref (a 0))
  b_law_pool : L2.Binds K (fd 0) ["_law_script"] []
  F_law_draw : Fun K "_law_draw" "_law_draw" s_law_draw (a 1) (fd 1)
  g_law_draw : mg "_law_draw" = some (.ref (a 1))
  b_law_draw : L2.Binds K (fd 1) ["_law_draws", "_law_k", "_law_many"] []
  F_law_word : Fun K "_law_word" "_law_word" s_law_word (a 2) (fd 2)
  g_law_word : mg "_law_word" = some (.ref (a 2))
  b_law_word : L2.Binds K (fd 2) ["_law_draws", "_law_at"] []
  F_law_distinct : Fun K "_law_distinct" "_law_distinct" s_law_distinct (a 3) (fd 3)
  g_law_distinct : mg "_law_distinct" = some (.ref (a 3))
  b_law_distinct : L2.Binds K (fd 3) ["_law_draws", "_law_at", "_law_count"] []
  F_law_sizes : Fun K "_law_sizes" "_law_sizes" s_law_sizes (a 4) (fd 4)
  g_law_sizes : mg "_law_sizes" = some (.ref (a 4))
  b_law_sizes : L2.Binds K (fd 4) ["_law_draws", "_law_at", "_law_most"] []
  F_law_value : Fun K "_law_value" "_law_value" s_law_value (a 5) (fd 5)
  g_law_value : mg "_law_value" = some (.ref (a 5))
  b_law_value : L2.Binds K (fd 5) ["_law_number"] []
  F_law_row : Fun K "_law_row" "_law_row" s_law_row (a 6) (fd 6)
  g_law_row : mg "_law_row" = some (.ref (a 6))
  b_law_row : L2.Binds K (fd 6) ["_law_draws", "_law_at", "_law_cells", "_law_size"] []
  F_law_threads : Fun K "_law_threads" "_law_threads" s_law_threads (a 7) (fd 7)
  g_law_threads : mg "_law_threads" = some (.ref (a 7))
  b_law_threads : L2.Binds K (fd 7) ["_law_draws", "_law_at", "_law_cells", "_law_sizes_here"] []
  F_law_text : Fun K "_law_text" "_law_text" s_law_text (a 8) (fd 8)
  g_law_text : mg "_law_text" = some (.ref (a 8))
  b_law_text : L2.Binds K (fd 8) ["_law_cells", "_law_threads_here"] []
  F_is_name : Fun K "is_name" "is_name" s_is_name (a 9) (fd 9)
  g_is_name : mg "is_name" = some (.ref (a 9))
  b_is_name : L2.Binds K (fd 9) ["text"] []
  F_is_number : Fun K "is_number" "is_number" s_is_number (a 10) (fd 10)
  g_is_number : mg "is_number" = some (.ref (a 10))
  b_is_number : L2.Binds K (fd 10) ["number", "most"] []
  F_Program_is_row : Fun K "_is_row" "Program._is_row" s_Program_is_row (a 11) (fd 11)
  b_Program_is_row : L2.Binds K (fd 11) ["self", "parts", "size"] []
  F_Program__init_ : Fun K "__init__" "Program.__init__" s_Program__init_ (a 12) (fd 12)
  b_Program__init_ : L2.Binds K (fd 12) ["self", "cells", "threads"] []
  F_Program_of : StarF K "of" "Program.of" s_Program_of ["cls", "cells"] "threads" (a 13)
  F_law_of : Fun K "_law_of" "_law_of" s_law_of (a 14) (fd 14)
  g_law_of : mg "_law_of" = some (.ref (a 14))
  b_law_of : L2.Binds K (fd 14) ["_law_cells", "_law_threads_here"] []
  F_law_same : Fun K "_law_same" "_law_same" s_law_same (a 15) (fd 15)
  g_law_same : mg "_law_same" = some (.ref (a 15))
  b_law_same : L2.Binds K (fd 15) ["_law_actual", "_law_due"] []
  F_is_value : Fun K "is_value" "is_value" s_is_value (a 16) (fd 16)
  g_is_value : mg "is_value" = some (.ref (a 16))
  b_is_value : L2.Binds K (fd 16) ["text"] []
  F_is_target : Fun K "is_target" "is_target" s_is_target (a 17) (fd 17)
  g_is_target : mg "is_target" = some (.ref (a 17))
  b_is_target : L2.Binds K (fd 17) ["text"] []
  F_parse_row : Fun K "parse_row" "parse_row" s_parse_row (a 18) (fd 18)
  g_parse_row : mg "parse_row" = some (.ref (a 18))
  b_parse_row : L2.Binds K (fd 18) ["line"] []
  F_Program_read : Fun K "read" "Program.read" s_Program_read (a 19) (fd 19)
  b_Program_read : L2.Binds K (fd 19) ["cls", "text"] []
  F_Program_rows_of : Fun K "rows_of" "Program.rows_of" s_Program_rows_of (a 20) (fd 20)
  b_Program_rows_of : L2.Binds K (fd 20) ["self", "thread"] []
  F_Program__len_ : Fun K "__len__" "Program.__len__" s_Program__len_ (a 21) (fd 21)
  b_Program__len_ : L2.Binds K (fd 21) ["self"] []
  F_format_row : Fun K "format_row" "format_row" s_format_row (a 22) (fd 22)
  g_format_row : mg "format_row" = some (.ref (a 22))
  b_format_row : L2.Binds K (fd 22) ["row"] []
  F_Program_text : Fun K "text" "Program.text" s_Program_text (a 23) (fd 23)
  b_Program_text : L2.Binds K (fd 23) ["self"] []
  F_law_holds : Fun K "_law_holds" "_law_holds" s_law_holds (a 24) (fd 24)
  g_law_holds : mg "_law_holds" = some (.ref (a 24))
  b_law_holds : L2.Binds K (fd 24) ["_law_program", "_law_cells", "_law_threads_here", "_law_text_here"] []
  F_settle : Fun K "settle" "settle" s_settle (a 25) (fd 25)
  g_settle : mg "settle" = some (.ref (a 25))
  b_settle : L2.Binds K (fd 25) ["rows", "row", "held"] []
  F_Thread__init_ : Fun K "__init__" "Thread.__init__" s_Thread__init_ (a 26) (fd 26)
  b_Thread__init_ : L2.Binds K (fd 26) ["self", "rows"] []
  F_Program_thread_at : Fun K "thread_at" "Program.thread_at" s_Program_thread_at (a 27) (fd 27)
  b_Program_thread_at : L2.Binds K (fd 27) ["self", "thread"] []
  F_law_unknown : Fun K "_law_unknown" "_law_unknown" s_law_unknown (a 28) (fd 28)
  g_law_unknown : mg "_law_unknown" = some (.ref (a 28))
  b_law_unknown : L2.Binds K (fd 28) ["_law_program", "_law_number"] []
  F_law : Fun K "law" "law" s_law (a 29) (fd 29)
  g_law : mg "law" = some (.ref (a 29))
  b_law : L2.Binds K (fd 29) ["_law_script"] []
  I_InvalidRow : IniF K P mg "InvalidRow" "InvalidRow.__init__" s_InvalidRow__init_ (e cx_InvalidRow) (a 30) (fd 30)
  eb_InvalidRow : L2.Binds K (fd 30) ["self", "thread", "row"] []
  O_InvalidShape : OwnC K mg "InvalidShape" (e cx_InvalidShape)
  O_InvalidCells : OwnC K mg "InvalidCells" (e cx_InvalidCells)
  O_InvalidText : OwnC K mg "InvalidText" (e cx_InvalidText)
  I_InvalidLine : IniF K P mg "InvalidLine" "InvalidLine.__init__" s_InvalidLine__init_ (e cx_InvalidLine) (a 31) (fd 31)
  eb_InvalidLine : L2.Binds K (fd 31) ["self", "line"] []
  I_UnknownThread : IniF K P mg "UnknownThread" "UnknownThread.__init__" s_UnknownThread__init_ (e cx_UnknownThread) (a 32) (fd 32)
  eb_UnknownThread : L2.Binds K (fd 32) ["self", "thread"] []
  nf_line : ∀ c, c < 6 → PySem.W.findIn K (.ref (e c)) "line" = some none
  nf_row : ∀ c, c < 6 → PySem.W.findIn K (.ref (e c)) "row" = some none
  nf_thread : ∀ c, c < 6 → PySem.W.findIn K (.ref (e c)) "thread" = some none
  X_all : ∀ c, c < 6 → ExF K (e c)
  gx_InvalidText : mg "InvalidText" = some (.ref (e cx_InvalidText))
  x_InvalidText : ∀ c b, tb_InvalidText c = some b → PySem.W.exmOne K (.ref (e c)) (.ref (e cx_InvalidText)) = some b
  i_InvalidText : ∀ c b, tb_InvalidText c = some b → PySem.W.kitOne K (.ref (e c)) (.ref (e cx_InvalidText)) = some b
  gx_UnknownThread : mg "UnknownThread" = some (.ref (e cx_UnknownThread))
  x_UnknownThread : ∀ c b, tb_UnknownThread c = some b → PySem.W.exmOne K (.ref (e c)) (.ref (e cx_UnknownThread)) = some b
  i_UnknownThread : ∀ c b, tb_UnknownThread c = some b → PySem.W.kitOne K (.ref (e c)) (.ref (e cx_UnknownThread)) = some b
  g_Program : mg "Program" = some (.ref (e cx_Program))
  cl_Program : L2.Cls K (e cx_Program)
  ns_Program : PySem.W.noSeq K (e cx_Program) = true
  g_Thread : mg "Thread" = some (.ref (e cx_Thread))
  cl_Thread : L2.Cls K (e cx_Thread)
  ns_Thread : PySem.W.noSeq K (e cx_Thread) = true
  nc_Program : PySem.W.nsIn K mainGlobals "Program" = some (some (.ref (e cx_Program)))
  cm_Program_of : ∃ mc p, ClX.CRead K (e cx_Program) mc ∧ ClX.CMet K (e cx_Program) mc "of" p (a 13)
  cm_Program_read : ∃ mc p, ClX.CRead K (e cx_Program) mc ∧ ClX.CMet K (e cx_Program) mc "read" p (a 19)
  mk_Program : L2.Mk K (e cx_Program) (a 12)
  mk_Thread : L2.Mk K (e cx_Thread) (a 26)
  d_Program__is_row : PySem.W.findIn K (.ref (e cx_Program)) "_is_row" = some (some (.ref (a 11)))
  d_Program_rows_of : PySem.W.findIn K (.ref (e cx_Program)) "rows_of" = some (some (.ref (a 20)))
  d_Program___len__ : PySem.W.findIn K (.ref (e cx_Program)) "__len__" = some (some (.ref (a 21)))
  d_Program_text : PySem.W.findIn K (.ref (e cx_Program)) "text" = some (some (.ref (a 23)))
  d_Program_thread_at : PySem.W.findIn K (.ref (e cx_Program)) "thread_at" = some (some (.ref (a 27)))
  d_Program___init__ : PySem.W.findIn K (.ref (e cx_Program)) "__init__" = some (some (.ref (a 12)))
  d_Thread___init__ : PySem.W.findIn K (.ref (e cx_Thread)) "__init__" = some (some (.ref (a 26)))
  if_Program_is_row : PySem.W.isFn K (.ref (a 11)) = true
  fi_Program_is_row : PySem.W.fnIn K (a 11) = true
  if_Program_rows_of : PySem.W.isFn K (.ref (a 20)) = true
  fi_Program_rows_of : PySem.W.fnIn K (a 20) = true
  if_Program__len_ : PySem.W.isFn K (.ref (a 21)) = true
  fi_Program__len_ : PySem.W.fnIn K (a 21) = true
  if_Program_text : PySem.W.isFn K (.ref (a 23)) = true
  fi_Program_text : PySem.W.fnIn K (a 23) = true
  if_Program_thread_at : PySem.W.isFn K (.ref (a 27)) = true
  fi_Program_thread_at : PySem.W.fnIn K (a 27) = true
  if_Program__init_ : PySem.W.isFn K (.ref (a 12)) = true
  fi_Program__init_ : PySem.W.fnIn K (a 12) = true
  if_Thread__init_ : PySem.W.isFn K (.ref (a 26)) = true
  fi_Thread__init_ : PySem.W.fnIn K (a 26) = true
  no_Program_cells : NoAttr K (e cx_Program) "cells"
  no_Program__threads : NoAttr K (e cx_Program) "_threads"
  no_Thread_row : NoAttr K (e cx_Thread) "row"
  no_Thread__rows : NoAttr K (e cx_Thread) "_rows"
  no_Thread_held : NoAttr K (e cx_Thread) "held"
  co_Program_MOST_THREADS : ∃ u, L2.Con K (e cx_Program) "MOST_THREADS" (.int 3) u
  co_Program_MOST_ROWS : ∃ u, L2.Con K (e cx_Program) "MOST_ROWS" (.int 24) u
  co_Program_MOST_CELLS : ∃ u, L2.Con K (e cx_Program) "MOST_CELLS" (.int 3) u
  cc_Program_MOST_ROWS : ConC K (e cx_Program) "MOST_ROWS" (.int 24)
  cc_Program_MOST_THREADS : ConC K (e cx_Program) "MOST_THREADS" (.int 3)
  cc_Program_MOST_CELLS : ConC K (e cx_Program) "MOST_CELLS" (.int 3)
theorem Txt.r_DIGITS {P : Program} {K : PySem.W.Frag} {mg : Str → Option Value} {a : Nat → Addr} {fd : Nat → FuncData} {e : Nat → Addr} (T : Txt P K mg a fd e) {X : Cx} {cl : Cl} {tk : WX → Prop} [Tk X tk] {pos : Pos} (hm : X.mg = mg := by rfl) (hK : X.K = K := by rfl) (hg : Gl X "DIGITS" := by rfl) : RE X cl tk (.Name "DIGITS" pos) (mP k_DIGITS) := by
  subst hm; obtain ⟨t, h⟩ := T.c_DIGITS; exact re_gstr h hg
theorem Txt.r_LETTERS {P : Program} {K : PySem.W.Frag} {mg : Str → Option Value} {a : Nat → Addr} {fd : Nat → FuncData} {e : Nat → Addr} (T : Txt P K mg a fd e) {X : Cx} {cl : Cl} {tk : WX → Prop} [Tk X tk] {pos : Pos} (hm : X.mg = mg := by rfl) (hK : X.K = K := by rfl) (hg : Gl X "LETTERS" := by rfl) : RE X cl tk (.Name "LETTERS" pos) (mP k_LETTERS) := by
  subst hm; obtain ⟨t, h⟩ := T.c_LETTERS; exact re_gstr h hg
theorem Txt.r_LOCAL {P : Program} {K : PySem.W.Frag} {mg : Str → Option Value} {a : Nat → Addr} {fd : Nat → FuncData} {e : Nat → Addr} (T : Txt P K mg a fd e) {X : Cx} {cl : Cl} {tk : WX → Prop} [Tk X tk] {pos : Pos} (hm : X.mg = mg := by rfl) (hK : X.K = K := by rfl) (hg : Gl X "LOCAL" := by rfl) : RE X cl tk (.Name "LOCAL" pos) (mP k_LOCAL) := by
  subst hm; subst hK; obtain ⟨b, us, od, n, sl, h1, h2, h3, h4⟩ := T.c_LOCAL; exact re_gtup h1 h2 h3 h4 hg
def of_cells_Program : Nat → Bool
  | 7 => true
  | _ => false
theorem of_cells_Program_ok {P : Program} {K : PySem.W.Frag} {mg : Str → Option Value} {a : Nat → Addr} {fd : Nat → FuncData} {e : Nat → Addr} (T : Txt P K mg a fd e) : ∀ c, of_cells_Program c = true → L2.Cls K ((clT e).at_ c) ∧ NoAttr K ((clT e).at_ c) "cells" := by
  intro c h; unfold of_cells_Program at h; split at h
  · exact ⟨T.cl_Program, T.no_Program_cells⟩
  · cases h
def of_threads_Program : Nat → Bool
  | 7 => true
  | _ => false
theorem of_threads_Program_ok {P : Program} {K : PySem.W.Frag} {mg : Str → Option Value} {a : Nat → Addr} {fd : Nat → FuncData} {e : Nat → Addr} (T : Txt P K mg a fd e) : ∀ c, of_threads_Program c = true → L2.Cls K ((clT e).at_ c) ∧ NoAttr K ((clT e).at_ c) "_threads" := by
  intro c h; unfold of_threads_Program at h; split at h
  · exact ⟨T.cl_Program, T.no_Program__threads⟩
  · cases h
def of_row_Thread : Nat → Bool
  | 8 => true
  | _ => false
theorem of_row_Thread_ok {P : Program} {K : PySem.W.Frag} {mg : Str → Option Value} {a : Nat → Addr} {fd : Nat → FuncData} {e : Nat → Addr} (T : Txt P K mg a fd e) : ∀ c, of_row_Thread c = true → L2.Cls K ((clT e).at_ c) ∧ NoAttr K ((clT e).at_ c) "row" := by
  intro c h; unfold of_row_Thread at h; split at h
  · exact ⟨T.cl_Thread, T.no_Thread_row⟩
  · cases h
def of_rows_Thread : Nat → Bool
  | 8 => true
  | _ => false
theorem of_rows_Thread_ok {P : Program} {K : PySem.W.Frag} {mg : Str → Option Value} {a : Nat → Addr} {fd : Nat → FuncData} {e : Nat → Addr} (T : Txt P K mg a fd e) : ∀ c, of_rows_Thread c = true → L2.Cls K ((clT e).at_ c) ∧ NoAttr K ((clT e).at_ c) "_rows" := by
  intro c h; unfold of_rows_Thread at h; split at h
  · exact ⟨T.cl_Thread, T.no_Thread__rows⟩
  · cases h
def of_held_Thread : Nat → Bool
  | 8 => true
  | _ => false
theorem of_held_Thread_ok {P : Program} {K : PySem.W.Frag} {mg : Str → Option Value} {a : Nat → Addr} {fd : Nat → FuncData} {e : Nat → Addr} (T : Txt P K mg a fd e) : ∀ c, of_held_Thread c = true → L2.Cls K ((clT e).at_ c) ∧ NoAttr K ((clT e).at_ c) "held" := by
  intro c h; unfold of_held_Thread at h; split at h
  · exact ⟨T.cl_Thread, T.no_Thread_held⟩
  · cases h
def oc_MOST_THREADS_Program : Nat → Option D
  | 7 => some (.int 3)
  | _ => none
theorem oc_MOST_THREADS_Program_ok {P : Program} {K : PySem.W.Frag} {mg : Str → Option Value} {a : Nat → Addr} {fd : Nat → FuncData} {e : Nat → Addr} (T : Txt P K mg a fd e) : ∀ c d, oc_MOST_THREADS_Program c = some d → L2.Cls K ((clT e).at_ c) ∧ ∃ v u, L2.Con K ((clT e).at_ c) "MOST_THREADS" v u ∧ ∀ φ G, IsD K φ G d v := by
  intro c d h; unfold oc_MOST_THREADS_Program at h; split at h
  · cases h; obtain ⟨u, hu⟩ := T.co_Program_MOST_THREADS; exact ⟨T.cl_Program, _, u, hu, fun _ _ => by simp only [Mi.IsD]⟩
  · cases h
def oc_MOST_ROWS_Program : Nat → Option D
  | 7 => some (.int 24)
  | _ => none
theorem oc_MOST_ROWS_Program_ok {P : Program} {K : PySem.W.Frag} {mg : Str → Option Value} {a : Nat → Addr} {fd : Nat → FuncData} {e : Nat → Addr} (T : Txt P K mg a fd e) : ∀ c d, oc_MOST_ROWS_Program c = some d → L2.Cls K ((clT e).at_ c) ∧ ∃ v u, L2.Con K ((clT e).at_ c) "MOST_ROWS" v u ∧ ∀ φ G, IsD K φ G d v := by
  intro c d h; unfold oc_MOST_ROWS_Program at h; split at h
  · cases h; obtain ⟨u, hu⟩ := T.co_Program_MOST_ROWS; exact ⟨T.cl_Program, _, u, hu, fun _ _ => by simp only [Mi.IsD]⟩
  · cases h
def oc_MOST_CELLS_Program : Nat → Option D
  | 7 => some (.int 3)
  | _ => none
theorem oc_MOST_CELLS_Program_ok {P : Program} {K : PySem.W.Frag} {mg : Str → Option Value} {a : Nat → Addr} {fd : Nat → FuncData} {e : Nat → Addr} (T : Txt P K mg a fd e) : ∀ c d, oc_MOST_CELLS_Program c = some d → L2.Cls K ((clT e).at_ c) ∧ ∃ v u, L2.Con K ((clT e).at_ c) "MOST_CELLS" v u ∧ ∀ φ G, IsD K φ G d v := by
  intro c d h; unfold oc_MOST_CELLS_Program at h; split at h
  · cases h; obtain ⟨u, hu⟩ := T.co_Program_MOST_CELLS; exact ⟨T.cl_Program, _, u, hu, fun _ _ => by simp only [Mi.IsD]⟩
  · cases h
/-! ### mirrors -/
noncomputable def m_law_same_h : MF := mFn 3 2 (mSeq (mIfS (mOrT (mT (mOp1 (fIsi .tup) (mVar 1))) (mT (mOp1 (fIsi .lst) (mVar 1)))) (mSeq (mIfS (mOrT (mT (mOp2 fNe (mOp1 (fIsi .tup) (mVar 0)) (mOp1 (fIsi .tup) (mVar 1)))) (mT (mOp2 fNe (mOp1 (fIsi .lst) (mVar 0)) (mOp1 (fIsi .lst) (mVar 1))))) (mRet (mP (.bl false))) (mSkip)) (mSeq (mIfS (mT (mOp2 fNe (mOpA cLen (mCons (mVar 0) (mNil))) (mOpA cLen (mCons (mVar 1) (mNil))))) (mRet (mP (.bl false))) (mSkip)) (mRet (mNoE)))) (mSkip)) (mSeq (mIfS (mT (mOp2 fIsN (mVar 1) (mP .non))) (mRet (mOp2 fIsN (mVar 0) (mP .non))) (mSkip)) (mSeq (mIfS (mT (mOp1 (fIsi .bl) (mVar 1))) (mRet (mAndV (mOp1 (fIsi .bl) (mVar 0)) (mOp2 fEq (mVar 0) (mVar 1)))) (mSkip)) (mSeq (mIfS (mT (mOp1 (fIsi .int) (mVar 1))) (mRet (mAndV (mOp1 (fIsi .int) (mVar 0)) (mAndV (mNotV (mOp1 (fIsi .bl) (mVar 0))) (mOp2 fEq (mVar 0) (mVar 1))))) (mSkip)) (mRet (mAndV (mOp1 (fIsi .str) (mVar 0)) (mOp2 fEq (mVar 0) (mVar 1))))))))
noncomputable def bd_law_pool_0 : MS := mIfS (mT (mOp2 fGt (mVar 3) (mP (.int 0)))) (mSeq (mEx (mApp (mVar 1) (mOp2 fMod (mOpA cInt (mCons (mVar 3) (mNil))) (mP (.int 840))))) (mSet 3 (mOp2 fDiv (mVar 3) (mP (.int 840))))) (mSkip)
noncomputable def bd_law_pool_1 : MS := mSeq (mSet 5 (mOp2 fMod (mOpA cInt (mCons (mOp2 fAdd (mOp2 fAdd (mOp2 fMul (mVar 2) (mP (.int 48271))) (mOp2 fMul (mVar 4) (mP (.int 69621)))) (mP (.int 17))) (mNil))) (mP (.int 2147483647)))) (mEx (mApp (mVar 1) (mOp2 fMod (mOp2 fMod (mOpA cInt (mCons (mOp2 fAdd (mOp2 fAdd (mOp2 fMul (mVar 5) (mVar 5)) (mOp2 fMul (mVar 5) (mP (.int 31)))) (mVar 4)) (mNil))) (mP (.int 1000003))) (mP (.int 840)))))
noncomputable def bd_law_pool_2 : MS := mSeq (mSet 3 (mOpA cAbs (mCons (mOpA cInt (mCons (mVar 2) (mNil))) (mNil)))) (mIfS (mT (mOp2 fGe (mVar 3) (mOp2 fPow (mP (.int 10)) (mP (.int 18))))) (mFor (mRng (mCons (mP (.int 60)) (mNil))) (bN 4) (bd_law_pool_0)) (mFor (mRng (mCons (mP (.int 6)) (mNil))) (bN 4) (bd_law_pool_1)))
noncomputable def b_law_pool : MS := mSeq (mSet 1 (mNewL (mNil))) (mSeq (mFor (mI (mVar 0)) (bN 2) (bd_law_pool_2)) (mRet (mVarF 1)))
noncomputable def m_law_pool : MF := mTrim (mFn 6 1 b_law_pool)
noncomputable def b_law_draw : MS := mSeq (mIfS (mT (mOp2 fLt (mVar 1) (mOpA cLen (mCons (mVar 0) (mNil))))) (mRet (mOp2 fMod (mOpA cInt (mCons (mOp2 fIx (mVar 0) (mVar 1)) (mNil))) (mVar 2))) (mSkip)) (mRet (mOp2 fMod (mOp2 fMod (mOpA cInt (mCons (mOp2 fAdd (mOp2 fAdd (mOp2 fMul (mVar 1) (mP (.int 7919))) (mOp2 fMul (mOpA cSum (mCons (mSl (mVar 0) (mP none) (mPart (mP (.int 40)))) (mNil))) (mP (.int 31)))) (mP (.int 3))) (mNil))) (mP (.int 1009))) (mVar 2)))
noncomputable def m_law_draw : MF := mFn 3 3 b_law_draw
noncomputable def b_law_word : MS := mSeq (mSet 2 (mP (.str "abcdefghijklmnopqrstuvwxyz"))) (mSeq (mSet 3 (mOp2 fAdd (mP (.int 1)) (mCall (m_law_draw) (mCons (mVar 0) (mCons (mVar 1) (mCons (mP (.int 6)) (mNil))))))) (mRet (mStr1 fJoin (mP (.str "")) (mLc [4] (mRng (mCons (mVar 3) (mNil))) (bN 4) (mP true) (mOp2 fIx (mVar 2) (mCall (m_law_draw) (mCons (mVar 0) (mCons (mOp2 fAdd (mOp2 fAdd (mVar 1) (mP (.int 1))) (mVar 4)) (mCons (mP (.int 26)) (mNil))))))))))
noncomputable def m_law_word : MF := mFn 5 2 b_law_word
noncomputable def bd_law_distinct_0 : MS := mSeq (mSet 5 (mCall (m_law_word) (mCons (mVar 0) (mCons (mOp2 fAdd (mVar 1) (mOp2 fMul (mP (.int 7)) (mVar 4))) (mNil))))) (mSeq (mIfS (mT (mOp2 fIn (mVar 5) (mVar 3))) (mSet 5 (mOp2 fIx (mLc [6] (mI (mOpA fLst (mCons (mP (.str "a")) (mCons (mP (.str "b")) (mCons (mP (.str "c")) (mCons (mP (.str "d")) (mNil))))))) (bN 6) (mT (mOp2 fNotIn (mVar 6) (mVar 3))) (mVar 6)) (mP (.int 0)))) (mSkip)) (mEx (mApp (mVar 3) (mVar 5))))
noncomputable def b_law_distinct : MS := mSeq (mSet 3 (mNewL (mNil))) (mSeq (mFor (mRng (mCons (mVar 2) (mNil))) (bN 4) (bd_law_distinct_0)) (mRet (mVarF 3)))
noncomputable def m_law_distinct : MF := mTrim (mFn 7 3 b_law_distinct)
noncomputable def b_law_sizes : MS := mSeq (mSet 3 (mOp2 fIx (mOpA fLst (mCons (mP (.int 2)) (mCons (mP (.int 3)) (mCons (mP (.int 2)) (mCons (mP (.int 2)) (mCons (mP (.int 2)) (mCons (mP (.int 3)) (mCons (mP (.int 1)) (mCons (mP (.int 2)) (mNil)))))))))) (mCall (m_law_draw) (mCons (mVar 0) (mCons (mVar 1) (mCons (mP (.int 8)) (mNil))))))) (mSeq (mSet 4 (mOp2 fIx (mVar 2) (mOp2 fSub (mVar 3) (mP (.int 1))))) (mSeq (mSet 5 (mOpA fLst (mCons (mVar 4) (mCons (mVar 4) (mCons (mOp2 fSub (mVar 4) (mP (.int 1))) (mCons (mVar 4) (mCons (mOp2 fDiv (mVar 4) (mP (.int 2))) (mCons (mVar 4) (mCons (mP (.int 0)) (mCons (mVar 4) (mNil))))))))))) (mRet (mLc [6] (mRng (mCons (mVar 3) (mNil))) (bN 6) (mP true) (mOp2 fIx (mVar 5) (mCall (m_law_draw) (mCons (mVar 0) (mCons (mOp2 fAdd (mOp2 fAdd (mVar 1) (mP (.int 1))) (mVar 6)) (mCons (mP (.int 8)) (mNil))))))))))
noncomputable def m_law_sizes : MF := mFn 7 3 b_law_sizes
noncomputable def b_law_value : MS := mRet (mOp2 fIx (mOpA fLst (mCons (mP (.int 1)) (mCons (mP (.int 2)) (mCons (mP (.int 1)) (mCons (mP (.int 0)) (mCons (mP (.int 1)) (mCons (mP (.int 2)) (mCons (mP (.int 3)) (mCons (mP (.int 4)) (mCons (mP (.int 5)) (mCons (mP (.int 6)) (mCons (mP (.int 7)) (mCons (mP (.int 8)) (mCons (mP (.int 9)) (mCons (mP (.int 2)) (mNil)))))))))))))))) (mOp2 fMod (mOpA cInt (mCons (mVar 0) (mNil))) (mP (.int 14))))
noncomputable def m_law_value : MF := mFn 1 1 b_law_value
noncomputable def b_law_row : MS := mSeq (mSet 4 (mOp2 fIx (mOpA fLst (mCons (mP (.str "load")) (mCons (mP (.str "store")) (mCons (mP (.str "load")) (mCons (mP (.str "store")) (mCons (mP (.str "swap")) (mCons (mP (.str "fence")) (mCons (mP (.str "test")) (mCons (mP (.str "jump")) (mNil)))))))))) (mCall (m_law_draw) (mCons (mVar 0) (mCons (mVar 1) (mCons (mP (.int 8)) (mNil))))))) (mSeq (mSet 5 (mOp2 fIx (mVar 2) (mCall (m_law_draw) (mCons (mVar 0) (mCons (mOp2 fAdd (mVar 1) (mP (.int 1))) (mCons (mOpA cLen (mCons (mVar 2) (mNil))) (mNil))))))) (mSeq (mSet 6 (mCall (m_law_draw) (mCons (mVar 0) (mCons (mOp2 fAdd (mVar 1) (mP (.int 2))) (mCons (mP (.int 840)) (mNil)))))) (mSeq (mIfS (mT (mOp2 fEq (mVar 4) (mP (.str "load")))) (mRet (mOpA fTup (mCons (mP (.str "load")) (mCons (mVar 5) (mNil))))) (mSkip)) (mSeq (mIfS (mT (mOp2 fEq (mVar 4) (mP (.str "fence")))) (mRet (mOpA fTup (mCons (mP (.str "fence")) (mNil)))) (mSkip)) (mSeq (mIfS (mT (mOp2 fEq (mVar 4) (mP (.str "test")))) (mRet (mOpA fTup (mCons (mP (.str "test")) (mCons (mCall (m_law_value) (mCons (mVar 6) (mNil))) (mCons (mOp2 fMod (mOpA cInt (mCons (mOp2 fDiv (mVar 6) (mP (.int 14))) (mNil))) (mOp2 fAdd (mVar 3) (mP (.int 1)))) (mNil)))))) (mSkip)) (mSeq (mIfS (mT (mOp2 fEq (mVar 4) (mP (.str "jump")))) (mRet (mOpA fTup (mCons (mP (.str "jump")) (mCons (mOp2 fMod (mOpA cInt (mCons (mVar 6) (mNil))) (mOp2 fAdd (mVar 3) (mP (.int 1)))) (mNil))))) (mSkip)) (mSeq (mIfS (mT (mOp2 fEq (mOp2 fMod (mOpA cInt (mCons (mVar 6) (mNil))) (mP (.int 4))) (mP (.int 3)))) (mRet (mOpA fTup (mCons (mVar 4) (mCons (mVar 5) (mCons (mP (.str "r")) (mNil)))))) (mSkip)) (mRet (mOpA fTup (mCons (mVar 4) (mCons (mVar 5) (mCons (mCall (m_law_value) (mCons (mOp2 fDiv (mVar 6) (mP (.int 4))) (mNil))) (mNil)))))))))))))
noncomputable def m_law_row : MF := mFn 7 4 b_law_row
noncomputable def bd_law_threads_0 : MS := mSeq (mSet 10 (mCall (m_law_row) (mCons (mVar 0) (mCons (mVar 6) (mCons (mVar 2) (mCons (mOp2 fIx (mVar 3) (mVar 7)) (mNil))))))) (mSeq (mIfS (mAndT (mT (mOp2 fGt (mVar 4) (mP (.int 0)))) (mT (mOp2 fEq (mVar 9) (mP (.int 0))))) (mSeq (mSet 11 (mCall (m_law_value) (mCons (mCall (m_law_draw) (mCons (mVar 0) (mCons (mOp2 fAdd (mVar 6) (mP (.int 2))) (mCons (mP (.int 840)) (mNil))))) (mNil)))) (mSet 10 (mOpA fTup (mCons (mOp2 fIx (mOpA fLst (mCons (mP (.str "store")) (mCons (mP (.str "store")) (mCons (mP (.str "swap")) (mNil))))) (mCall (m_law_draw) (mCons (mVar 0) (mCons (mVar 6) (mCons (mP (.int 3)) (mNil)))))) (mCons (mOp2 fIx (mVar 2) (mOp2 fMod (mOpA cInt (mCons (mVar 7) (mNil))) (mOpA cLen (mCons (mVar 2) (mNil))))) (mCons (mVar 11) (mNil))))))) (mSkip)) (mSeq (mIfS (mAndT (mT (mOp2 fGt (mVar 4) (mP (.int 0)))) (mAndT (mT (mOp2 fGt (mVar 9) (mP (.int 0)))) (mT (mOp2 fEq (mVar 9) (mOp2 fSub (mOp2 fIx (mVar 3) (mVar 7)) (mP (.int 1))))))) (mSet 10 (mOpA fTup (mCons (mP (.str "load")) (mCons (mOp2 fIx (mVar 2) (mOp2 fMod (mOpA cInt (mCons (mOp2 fAdd (mVar 7) (mP (.int 1))) (mNil))) (mOpA cLen (mCons (mVar 2) (mNil))))) (mNil))))) (mSkip)) (mSeq (mIfS (mAndT (mT (mOp2 fEq (mVar 4) (mP (.int 2)))) (mAndT (mT (mOp2 fLt (mP (.int 0)) (mVar 9))) (mT (mOp2 fLt (mVar 9) (mOp2 fSub (mOp2 fIx (mVar 3) (mVar 7)) (mP (.int 1))))))) (mSet 10 (mOpA fTup (mCons (mP (.str "fence")) (mNil)))) (mSkip)) (mSeq (mEx (mApp (mVar 8) (mVar 10))) (mSet 6 (mOp2 fAdd (mVar 6) (mP (.int 3))))))))
noncomputable def bd_law_threads_1 : MS := mSeq (mSet 8 (mNewL (mNil))) (mSeq (mFor (mRng (mCons (mOp2 fIx (mVar 3) (mVar 7)) (mNil))) (bN 9) (bd_law_threads_0)) (mEx (mApp (mVar 5) (mVarF 8))))
noncomputable def b_law_threads : MS := mSeq (mSet 4 (mCall (m_law_draw) (mCons (mVar 0) (mCons (mVar 1) (mCons (mP (.int 4)) (mNil)))))) (mSeq (mSet 5 (mNewL (mNil))) (mSeq (mSet 6 (mOp2 fAdd (mVar 1) (mP (.int 1)))) (mSeq (mFor (mRng (mCons (mOpA cLen (mCons (mVar 3) (mNil))) (mNil))) (bN 7) (bd_law_threads_1)) (mRet (mVarF 5)))))
noncomputable def m_law_threads : MF := mTrim (mFn 12 4 b_law_threads)
noncomputable def bd_law_text_0 : MS := mEx (mApp (mVar 2) (mStr1 fJoin (mP (.str " ")) (mLc [5] (mI (mVar 4)) (bN 5) (mP true) (mOpA cStr (mCons (mVar 5) (mNil))))))
noncomputable def bd_law_text_1 : MS := mSeq (mEx (mApp (mVar 2) (mP (.str "thread")))) (mFor (mI (mVar 3)) (bN 4) (bd_law_text_0))
noncomputable def b_law_text : MS := mSeq (mSet 2 (mNewL (mCons (mOp2 fAdd (mP (.str "cells ")) (mStr1 fJoin (mP (.str " ")) (mVar 0))) (mNil)))) (mSeq (mFor (mI (mVar 1)) (bN 3) (bd_law_text_1)) (mRet (mStr1 fJoin (mP (.str "\n")) (mVarF 2))))
noncomputable def m_law_text : MF := mTrim (mFn 6 2 b_law_text)
noncomputable def b_is_name : MS := mRet (mAndV (mCh fLe fLe (mP (.int 1)) (mOpA cLen (mCons (mVar 0) (mNil))) (mP (.int 6))) (mOpA cAll (mCons (mLc [1] (mI (mVar 0)) (bN 1) (mP true) (mOp2 fIn (mVar 1) (mP k_LETTERS))) (mNil))))
noncomputable def m_is_name : MF := mFn 2 1 b_is_name
noncomputable def b_is_number : MS := mRet (mAndV (mOp1 (fIsi .int) (mVar 0)) (mCh fLe fLe (mP (.int 0)) (mVar 0) (mVar 1)))
noncomputable def m_is_number : MF := mFn 2 2 b_is_number
noncomputable def b_Program_is_row : MS := mSeq (mMatch (mVar 1) (mcCons [.val "fence"] (mRet (mP (.bl true))) (mcCons [.val "load", .cap 3] (mRet (mOp2 fIn (mVar 3) (mOp1 (fun S d => fldOf of_cells_Program "cells" S d) (mVar 0)))) (mcCons [.val "jump", .cap 4] (mRet (mCall (m_is_number) (mCons (mVar 4) (mCons (mVar 2) (mNil))))) (mcCons [.val "test", .cap 5, .cap 4] (mRet (mAndV (mCall (m_is_number) (mCons (mVar 5) (mCons (mP (.int 9)) (mNil)))) (mCall (m_is_number) (mCons (mVar 4) (mCons (mVar 2) (mNil)))))) (mcCons [.cap 6, .cap 3, .cap 7] (mRet (mAndV (mOp2 fIn (mVar 6) (mOpA fTup (mCons (mP (.str "store")) (mCons (mP (.str "swap")) (mNil))))) (mAndV (mOp2 fIn (mVar 3) (mOp1 (fun S d => fldOf of_cells_Program "cells" S d) (mVar 0))) (mOrV (mOp2 fEq (mVar 7) (mP (.str "r"))) (mCall (m_is_number) (mCons (mVar 7) (mCons (mP (.int 9)) (mNil)))))))) (mcNil))))))) (mRet (mP (.bl false)))
noncomputable def m_Program_is_row : MF := mFn 8 3 b_Program_is_row
noncomputable def tm_is_row_Program : Nat → Option MF
  | 7 => some (m_Program_is_row)
  | _ => none
noncomputable def bd_Program__init__0 : MS := mIfS (mNotT (mT (mMeth tm_is_row_Program "_is_row" (mVar 0) (mCons (mVar 6) (mCons (mOpA cLen (mCons (mVar 4) (mNil))) (mNil)))))) (mRaiseF cx_InvalidRow ["thread", "row"] (mCons (mVar 3) (mCons (mVar 5) (mNil)))) (mSkip)
noncomputable def bd_Program__init__1 : MS := mFor (mEnum1 (mCons (mVar 4) (mNil))) (bTup 2 (bCons (bN 5) (bCons (bN 6) (bNil)))) (bd_Program__init__0)
noncomputable def b_Program__init_ : MS := mSeq (mIfS (mOrT (mNotT (mT (mCh fLe fLe (mP (.int 1)) (mOpA cLen (mCons (mVar 1) (mNil))) (mOp1 (fun S d => conOf oc_MOST_CELLS_Program "MOST_CELLS" S d) (mVar 0))))) (mT (mOp2 fLt (mLenSet (mVar 1)) (mOpA cLen (mCons (mVar 1) (mNil)))))) (mRaise cx_InvalidCells []) (mSkip)) (mSeq (mIfS (mNotT (mT (mOpA cAll (mCons (mLc [7] (mI (mVar 1)) (bN 7) (mP true) (mCall (m_is_name) (mCons (mVar 7) (mNil)))) (mNil))))) (mRaise cx_InvalidCells []) (mSkip)) (mSeq (mIfS (mOrT (mNotT (mT (mCh fLe fLe (mP (.int 1)) (mOpA cLen (mCons (mVar 2) (mNil))) (mOp1 (fun S d => conOf oc_MOST_THREADS_Program "MOST_THREADS" S d) (mVar 0))))) (mT (mOp2 fGt (mOpA cSum (mCons (mLc [4] (mI (mVar 2)) (bN 4) (mP true) (mOpA cLen (mCons (mVar 4) (mNil)))) (mNil))) (mOp1 (fun S d => conOf oc_MOST_ROWS_Program "MOST_ROWS" S d) (mVar 0))))) (mRaise cx_InvalidShape []) (mSkip)) (mSeq (mSetF of_cells_Program "cells" (mVar 0) (mOpA cTuple (mCons (mVar 1) (mNil)))) (mSeq (mFor (mEnum1 (mCons (mVar 2) (mNil))) (bTup 2 (bCons (bN 3) (bCons (bN 4) (bNil)))) (bd_Program__init__1)) (mSetF of_threads_Program "_threads" (mVar 0) (mLc [4] (mI (mVar 2)) (bN 4) (mP true) (mOpA cList (mCons (mVar 4) (mNil)))))))))
noncomputable def m_Program__init_ : MF := mFn 8 3 b_Program__init_
noncomputable def ct_Program : Str → Option (Nat × MF) := fun x => if x = "Program" then some (cx_Program, m_Program__init_) else none
noncomputable def b_Program_of : MS := mRet (mMakeV ct_Program (mVar 0) (mCons (mVar 1) (mCons (mOpA cList (mCons (mVar 2) (mNil))) (mNil))))
noncomputable def m_Program_of : MF := mFnS 3 2 b_Program_of
noncomputable def b_law_of : MS := mSeq (mIfS (mT (mOp2 fEq (mOpA cLen (mCons (mVar 1) (mNil))) (mP (.int 1)))) (mRet (mCallC (m_Program_of) "Program" (mCons (mVar 0) (mCons (mOp2 fIx (mVar 1) (mP (.int 0))) (mNil))))) (mSkip)) (mSeq (mIfS (mT (mOp2 fEq (mOpA cLen (mCons (mVar 1) (mNil))) (mP (.int 2)))) (mRet (mCallC (m_Program_of) "Program" (mCons (mVar 0) (mCons (mOp2 fIx (mVar 1) (mP (.int 0))) (mCons (mOp2 fIx (mVar 1) (mP (.int 1))) (mNil)))))) (mSkip)) (mRet (mCallC (m_Program_of) "Program" (mCons (mVar 0) (mCons (mOp2 fIx (mVar 1) (mP (.int 0))) (mCons (mOp2 fIx (mVar 1) (mP (.int 1))) (mCons (mOp2 fIx (mVar 1) (mP (.int 2))) (mNil))))))))
noncomputable def m_law_of : MF := mFn 2 2 b_law_of
noncomputable def b_law_same (mf : MF) : MS := mSeq (mIfS (mOrT (mT (mOp1 (fIsi .tup) (mVar 1))) (mT (mOp1 (fIsi .lst) (mVar 1)))) (mSeq (mIfS (mOrT (mT (mOp2 fNe (mOp1 (fIsi .tup) (mVar 0)) (mOp1 (fIsi .tup) (mVar 1)))) (mT (mOp2 fNe (mOp1 (fIsi .lst) (mVar 0)) (mOp1 (fIsi .lst) (mVar 1))))) (mRet (mP (.bl false))) (mSkip)) (mSeq (mIfS (mT (mOp2 fNe (mOpA cLen (mCons (mVar 0) (mNil))) (mOpA cLen (mCons (mVar 1) (mNil))))) (mRet (mP (.bl false))) (mSkip)) (mRet (mOpA cAll (mCons (mLc [2] (mRng (mCons (mOpA cLen (mCons (mVar 1) (mNil))) (mNil))) (bN 2) (mP true) (mCall (mf) (mCons (mOp2 fIx (mVar 0) (mVar 2)) (mCons (mOp2 fIx (mVar 1) (mVar 2)) (mNil))))) (mNil)))))) (mSkip)) (mSeq (mIfS (mT (mOp2 fIsN (mVar 1) (mP .non))) (mRet (mOp2 fIsN (mVar 0) (mP .non))) (mSkip)) (mSeq (mIfS (mT (mOp1 (fIsi .bl) (mVar 1))) (mRet (mAndV (mOp1 (fIsi .bl) (mVar 0)) (mOp2 fEq (mVar 0) (mVar 1)))) (mSkip)) (mSeq (mIfS (mT (mOp1 (fIsi .int) (mVar 1))) (mRet (mAndV (mOp1 (fIsi .int) (mVar 0)) (mAndV (mNotV (mOp1 (fIsi .bl) (mVar 0))) (mOp2 fEq (mVar 0) (mVar 1))))) (mSkip)) (mRet (mAndV (mOp1 (fIsi .str) (mVar 0)) (mOp2 fEq (mVar 0) (mVar 1)))))))
noncomputable def m_law_same : Nat → MF
  | 0 => fun _ _ => none
  | n + 1 => mFn 3 2 (b_law_same (m_law_same n))
noncomputable def b_is_value : MS := mRet (mAndV (mOp2 fEq (mOpA cLen (mCons (mVar 0) (mNil))) (mP (.int 1))) (mOp2 fIn (mVar 0) (mP k_DIGITS)))
noncomputable def m_is_value : MF := mFn 1 1 b_is_value
noncomputable def b_is_target : MS := mSeq (mIfS (mT (mOp2 fEq (mOpA cLen (mCons (mVar 0) (mNil))) (mP (.int 2)))) (mRet (mAndV (mOp2 fIn (mOp2 fIx (mVar 0) (mP (.int 0))) (mSl (mP k_DIGITS) (mPart (mP (.int 1))) (mP none))) (mOp2 fIn (mOp2 fIx (mVar 0) (mP (.int 1))) (mP k_DIGITS)))) (mSkip)) (mRet (mCall (m_is_value) (mCons (mVar 0) (mNil))))
noncomputable def m_is_target : MF := mFn 1 1 b_is_target
noncomputable def b_parse_row : MS := mSeq (mMatch (mStr1 fSplit (mVar 0) (mP (.str " "))) (mcCons [.val "fence"] (mRet (mOpA fTup (mCons (mP (.str "fence")) (mNil)))) (mcCons [.val "load", .cap 1] (mIfS (mT (mCall (m_is_name) (mCons (mVar 1) (mNil)))) (mRet (mOpA fTup (mCons (mP (.str "load")) (mCons (mVar 1) (mNil))))) (mSkip)) (mcCons [.val "jump", .cap 2] (mIfS (mT (mCall (m_is_target) (mCons (mVar 2) (mNil)))) (mRet (mOpA fTup (mCons (mP (.str "jump")) (mCons (mOpA cInt (mCons (mVar 2) (mNil))) (mNil))))) (mSkip)) (mcCons [.val "test", .cap 3, .cap 2] (mIfS (mAndT (mT (mCall (m_is_value) (mCons (mVar 3) (mNil)))) (mT (mCall (m_is_target) (mCons (mVar 2) (mNil))))) (mRet (mOpA fTup (mCons (mP (.str "test")) (mCons (mOpA cInt (mCons (mVar 3) (mNil))) (mCons (mOpA cInt (mCons (mVar 2) (mNil))) (mNil)))))) (mSkip)) (mcCons [.cap 4, .cap 1, .cap 5] (mIfS (mAndT (mT (mOp2 fIn (mVar 4) (mOpA fTup (mCons (mP (.str "store")) (mCons (mP (.str "swap")) (mNil)))))) (mT (mCall (m_is_name) (mCons (mVar 1) (mNil))))) (mSeq (mIfS (mT (mOp2 fEq (mVar 5) (mP (.str "r")))) (mRet (mOpA fTup (mCons (mVar 4) (mCons (mVar 1) (mCons (mP (.str "r")) (mNil)))))) (mSkip)) (mIfS (mT (mCall (m_is_value) (mCons (mVar 5) (mNil)))) (mRet (mOpA fTup (mCons (mVar 4) (mCons (mVar 1) (mCons (mOpA cInt (mCons (mVar 5) (mNil))) (mNil)))))) (mSkip))) (mSkip)) (mcNil))))))) (mRaise cx_InvalidText [])
noncomputable def m_parse_row : MF := mFn 6 1 b_parse_row
noncomputable def bd_Program_read_0 : MS := mSeq (mSet 6 (mStr1 fSplit (mVar 5) (mP (.str " ")))) (mIfS (mT (mOp2 fEq (mVar 4) (mP (.int 1)))) (mSeq (mSet 2 (mSl (mVar 6) (mPart (mP (.int 1))) (mP none))) (mIfS (mOrT (mT (mOp2 fNe (mOp2 fIx (mVar 6) (mP (.int 0))) (mP (.str "cells")))) (mOrT (mT (mOp2 fEq (mVar 2) (mOpA fLst (mNil)))) (mNotT (mT (mOpA cAll (mCons (mLc [7] (mI (mVar 2)) (bN 7) (mP true) (mCall (m_is_name) (mCons (mVar 7) (mNil)))) (mNil))))))) (mRaiseF cx_InvalidLine ["line"] (mCons (mVar 4) (mNil))) (mSkip))) (mIfS (mT (mOp2 fEq (mVar 5) (mP (.str "thread")))) (mEx (mApp (mVar 3) (mNewL (mNil)))) (mIfS (mT (mOp2 fEq (mVar 4) (mP (.int 2)))) (mRaiseF cx_InvalidLine ["line"] (mCons (mVar 4) (mNil))) (mTryO (mEx (mApp (mOp2 fIx (mVar 3) (mOp1 fNeg (mP (.int 1)))) (mCall (m_parse_row) (mCons (mVar 5) (mNil))))) tb_InvalidText (fun ec fs => mNo)))))
noncomputable def b_Program_read : MS := mSeq (mSet 2 (mOpA fLst (mNil))) (mSeq (mSet 3 (mNewL (mNil))) (mSeq (mFor (mEnum2 (mCons (mStr1 fSplit (mVar 1) (mP (.str "\n"))) (mCons (mP (.int 1)) (mNil)))) (bTup 2 (bCons (bN 4) (bCons (bN 5) (bNil)))) (bd_Program_read_0)) (mRet (mMakeV ct_Program (mVar 0) (mCons (mVar 2) (mCons (mVarF 3) (mNil)))))))
noncomputable def m_Program_read : MF := mFn 8 2 b_Program_read
noncomputable def b_Program_rows_of : MS := mSeq (mIfS (mNotT (mT (mCh fLe fLt (mP (.int 0)) (mVar 1) (mOpA cLen (mCons (mOp1 (fun S d => fldOf of_threads_Program "_threads" S d) (mVar 0)) (mNil)))))) (mRaiseF cx_UnknownThread ["thread"] (mCons (mVar 1) (mNil))) (mSkip)) (mRet (mListC (mCons (mOp2 fIx (mOp1 (fun S d => fldOf of_threads_Program "_threads" S d) (mVar 0)) (mVar 1)) (mNil))))
noncomputable def m_Program_rows_of : MF := mFn 2 2 b_Program_rows_of
noncomputable def b_Program__len_ : MS := mRet (mOpA cLen (mCons (mOp1 (fun S d => fldOf of_threads_Program "_threads" S d) (mVar 0)) (mNil)))
noncomputable def m_Program__len_ : MF := mFn 1 1 b_Program__len_
noncomputable def b_format_row : MS := mRet (mStr1 fJoin (mP (.str " ")) (mLc [1] (mI (mVar 0)) (bN 1) (mP true) (mOpA cStr (mCons (mVar 1) (mNil)))))
noncomputable def m_format_row : MF := mFn 2 1 b_format_row
noncomputable def bd_Program_text_0 : MS := mAugL 1 (mOpA fLst (mCons (mP (.str "thread")) (mStar (mLc [3] (mI (mVar 2)) (bN 3) (mP true) (mCall (m_format_row) (mCons (mVar 3) (mNil)))) (mNil))))
noncomputable def b_Program_text : MS := mSeq (mSet 1 (mNewL (mCons (mStr1 fJoin (mP (.str " ")) (mOpA fLst (mCons (mP (.str "cells")) (mStar (mOp1 (fun S d => fldOf of_cells_Program "cells" S d) (mVar 0)) (mNil))))) (mNil)))) (mSeq (mFor (mI (mOp1 (fun S d => fldOf of_threads_Program "_threads" S d) (mVar 0))) (bN 2) (bd_Program_text_0)) (mRet (mStr1 fJoin (mP (.str "\n")) (mVarF 1))))
noncomputable def m_Program_text : MF := mFn 4 1 b_Program_text
noncomputable def tm_rows_of_Program : Nat → Option MF
  | 7 => some (m_Program_rows_of)
  | _ => none
noncomputable def tm_setitem : Nat → Option MF
  | _ => none
noncomputable def tm_len_Program : Nat → Option MF
  | 7 => some (m_Program__len_)
  | _ => none
noncomputable def tm_text_Program : Nat → Option MF
  | 7 => some (m_Program_text)
  | _ => none
noncomputable def bd_law_holds_0 : MS := mSeq (mSet 5 (mMeth tm_rows_of_Program "rows_of" (mVar 0) (mCons (mVar 4) (mNil)))) (mSeq (mIfS (mNotT (mT (mCall (m_law_same 8) (mCons (mVar 5) (mCons (mOp2 fIx (mVar 2) (mVar 4)) (mNil)))))) (mRet (mP (.bl false))) (mSkip)) (mSeq (mEx (mApp (mVar 5) (mOpA fTup (mCons (mP (.str "fence")) (mNil))))) (mSetG tm_setitem (mVar 5) (mP (.int 0)) (mOpA fTup (mCons (mP (.str "fence")) (mNil))))))
noncomputable def b_law_holds : MS := mSeq (mIfS (mOrT (mNotT (mT (mCall (m_law_same 8) (mCons (mOp1 (fun S d => fldOf of_cells_Program "cells" S d) (mVar 0)) (mCons (mOpA cTuple (mCons (mVar 1) (mNil))) (mNil)))))) (mNotT (mT (mCall (m_law_same 8) (mCons (mMeth tm_text_Program "text" (mVar 0) mNil) (mCons (mVar 3) (mNil))))))) (mRet (mP (.bl false))) (mSkip)) (mSeq (mIfS (mNotT (mT (mCall (m_law_same 8) (mCons (mOpA (cLenG tm_len_Program) (mCons (mVar 0) (mNil))) (mCons (mOpA cLen (mCons (mVar 2) (mNil))) (mNil)))))) (mRet (mP (.bl false))) (mSkip)) (mSeq (mFor (mRng (mCons (mOpA cLen (mCons (mVar 2) (mNil))) (mNil))) (bN 4) (bd_law_holds_0)) (mRet (mOpA cAll (mCons (mLc [4] (mRng (mCons (mOpA cLen (mCons (mVar 2) (mNil))) (mNil))) (bN 4) (mP true) (mCall (m_law_same 8) (mCons (mMeth tm_rows_of_Program "rows_of" (mVar 0) (mCons (mVar 4) (mNil))) (mCons (mOp2 fIx (mVar 2) (mVar 4)) (mNil))))) (mNil))))))
noncomputable def m_law_holds : MF := mFn 6 4 b_law_holds
noncomputable def bd_settle_0 : MS := mSeq (mIfS (mT (mOp2 fIn (mVar 1) (mVar 3))) (mRet (mOpA cLen (mCons (mVar 0) (mNil)))) (mSkip)) (mSeq (mEx (mApp (mVar 3) (mVar 1))) (mIfS (mT (mOp2 fEq (mOp2 fIx (mOp2 fIx (mVar 0) (mVar 1)) (mP (.int 0))) (mP (.str "jump")))) (mSet 1 (mOp2 fIx (mOp2 fIx (mVar 0) (mVar 1)) (mP (.int 1)))) (mIfS (mT (mOp2 fEq (mOp2 fIx (mOp2 fIx (mVar 0) (mVar 1)) (mP (.int 1))) (mVar 2))) (mSet 1 (mOp2 fIx (mOp2 fIx (mVar 0) (mVar 1)) (mP (.int 2)))) (mAugI 1 (fun i j => i + j) (mP (.int 1))))))
noncomputable def b_settle : MS := mSeq (mSet 3 (mNewL (mNil))) (mSeq (whileGo (mAndT (mT (mOp2 fLt (mVar 1) (mOpA cLen (mCons (mVar 0) (mNil))))) (mT (mOp2 fIn (mOp2 fIx (mOp2 fIx (mVar 0) (mVar 1)) (mP (.int 0))) (mP k_LOCAL)))) (bd_settle_0) 64) (mRet (mVar 1)))
noncomputable def m_settle : MF := mTrim (mFn 4 3 b_settle)
noncomputable def b_Thread__init_ : MS := mSeq (mSetF of_rows_Thread "_rows" (mVar 0) (mOpA cList (mCons (mVar 1) (mNil)))) (mSeq (mSetF of_held_Thread "held" (mVar 0) (mP (.int 0))) (mSetF of_row_Thread "row" (mVar 0) (mCall (m_settle) (mCons (mOp1 (fun S d => fldOf of_rows_Thread "_rows" S d) (mVar 0)) (mCons (mP (.int 0)) (mCons (mP (.int 0)) (mNil)))))))
noncomputable def m_Thread__init_ : MF := mFn 2 2 b_Thread__init_
noncomputable def b_Program_thread_at : MS := mRet (mMake cx_Thread (m_Thread__init_) (mCons (mMeth tm_rows_of_Program "rows_of" (mVar 0) (mCons (mVar 1) (mNil))) (mNil)))
noncomputable def m_Program_thread_at : MF := mFn 2 2 b_Program_thread_at
noncomputable def tm_thread_at_Program : Nat → Option MF
  | 7 => some (m_Program_thread_at)
  | _ => none
noncomputable def b_law_unknown : MS := mSeq (mSet 2 (mP (.int 0))) (mSeq (mTryAs (mEx (mMeth tm_rows_of_Program "rows_of" (mVar 0) (mCons (mVar 1) (mNil)))) tb_UnknownThread 3 (fun ec fs => mSet 2 (mOp2 fAdd (mVar 2) (mOpA cInt (mCons (mCallH m_law_same_h (mCons (mEf 3 (fs.lookup ("thread" : Str))) (mCons (mVar 1) (mNil)))) (mNil)))))) (mSeq (mTryAs (mEx (mMeth tm_thread_at_Program "thread_at" (mVar 0) (mCons (mVar 1) (mNil)))) tb_UnknownThread 3 (fun ec fs => mSet 2 (mOp2 fAdd (mVar 2) (mOpA cInt (mCons (mCallH m_law_same_h (mCons (mEf 3 (fs.lookup ("thread" : Str))) (mCons (mVar 1) (mNil)))) (mNil)))))) (mRet (mOp2 fEq (mVar 2) (mP (.int 2))))))
noncomputable def m_law_unknown : MF := mFn 4 2 b_law_unknown
noncomputable def bd_law_0 : MS := mSeq (mIfS (mOrT (mNotT (mT (mCall (m_law_holds) (mCons (mVar 13) (mCons (mVar 2) (mCons (mVar 4) (mCons (mVar 5) (mNil)))))))) (mNotT (mT (mCall (m_law_holds) (mCons (mVar 13) (mCons (mVar 2) (mCons (mVar 4) (mCons (mVar 5) (mNil))))))))) (mRet (mP (.bl false))) (mSkip)) (mIfS (mNotT (mT (mOpA cAll (mCons (mLc [15] (mI (mOpA fLst (mCons (mOpA cLen (mCons (mVar 4) (mNil))) (mCons (mOp1 fNeg (mP (.int 1))) (mCons (mOp2 fAdd (mOpA cLen (mCons (mVar 4) (mNil))) (mP (.int 7))) (mCons (mOp1 fNeg (mOpA cLen (mCons (mVar 4) (mNil)))) (mNil))))))) (bN 15) (mP true) (mCall (m_law_unknown) (mCons (mVar 13) (mCons (mVar 15) (mNil))))) (mNil))))) (mRet (mP (.bl false))) (mSkip))
noncomputable def bd_law_1 : MS := mEx (mApp (mOp2 fIx (mVar 10) (mVar 12)) (mOpA fTup (mCons (mP (.str "jump")) (mCons (mP (.int 0)) (mNil)))))
noncomputable def b_law : MS := mSeq (mSet 1 (mCall (m_law_pool) (mCons (mVar 0) (mNil)))) (mSeq (mSet 2 (mCall (m_law_distinct) (mCons (mVar 1) (mCons (mP (.int 0)) (mCons (mOp2 fIx (mOpA fLst (mCons (mP (.int 2)) (mCons (mP (.int 1)) (mCons (mP (.int 3)) (mNil))))) (mCall (m_law_draw) (mCons (mVar 1) (mCons (mP (.int 21)) (mCons (mP (.int 3)) (mNil)))))) (mNil)))))) (mSeq (mSet 3 (mCall (m_law_sizes) (mCons (mVar 1) (mCons (mP (.int 22)) (mCons (mOpA fLst (mCons (mP (.int 24)) (mCons (mP (.int 12)) (mCons (mP (.int 8)) (mNil))))) (mNil)))))) (mSeq (mSet 4 (mCall (m_law_threads) (mCons (mVar 1) (mCons (mP (.int 26)) (mCons (mVar 2) (mCons (mVar 3) (mNil))))))) (mSeq (mSet 5 (mCall (m_law_text) (mCons (mVar 2) (mCons (mVar 4) (mNil))))) (mSeq (mSet 6 (mListC (mCons (mVar 2) (mNil)))) (mSeq (mSet 7 (mLcC [14] (mI (mVar 4)) (bN 14) (mP true) (mListC (mCons (mVar 14) (mNil))))) (mSeq (mSet 8 (mMake cx_Program (m_Program__init_) (mCons (mVar 6) (mCons (mVar 7) (mNil))))) (mSeq (mIfS (mOrT (mT (mOp2 fNe (mVar 6) (mVar 2))) (mT (mOp2 fNe (mVar 7) (mVar 4)))) (mRet (mP (.bl false))) (mSkip)) (mSeq (mEx (mApp (mVar 6) (mP (.str "q")))) (mSeq (mEx (mApp (mOp2 fIx (mVar 7) (mP (.int 0))) (mOpA fTup (mCons (mP (.str "jump")) (mCons (mP (.int 0)) (mNil)))))) (mSeq (mEx (mApp (mVar 7) (mNewL (mNil)))) (mSeq (mSet 9 (mListC (mCons (mVar 2) (mNil)))) (mSeq (mSet 10 (mLc [14] (mI (mVar 4)) (bN 14) (mP true) (mListC (mCons (mVar 14) (mNil))))) (mSeq (mSet 11 (mCall (m_law_of) (mCons (mVar 9) (mCons (mVar 10) (mNil))))) (mSeq (mIfS (mOrT (mT (mOp2 fNe (mVar 9) (mVar 2))) (mT (mOp2 fNe (mVar 10) (mVar 4)))) (mRet (mP (.bl false))) (mSkip)) (mSeq (mEx (mApp (mVar 9) (mP (.str "q")))) (mSeq (mFor (mRng (mCons (mOpA cLen (mCons (mVar 10) (mNil))) (mNil))) (bN 12) (bd_law_1)) (mSeq (mFor (mI (mOpA fLst (mCons (mVar 8) (mCons (mCallC (m_Program_read) "Program" (mCons (mVar 5) (mNil))) (mCons (mVar 11) (mNil)))))) (bN 13) (bd_law_0)) (mRet (mCall (m_law_same 8) (mCons (mOpA fLst (mCons (mP (.int 3)) (mCons (mP (.int 3)) (mCons (mP (.int 24)) (mNil))))) (mCons (mOpA fLst (mCons (mP (.int 3)) (mCons (mP (.int 3)) (mCons (mP (.int 24)) (mNil))))) (mNil)))))))))))))))))))))))
noncomputable def m_law : MF := mFn 16 1 b_law
/-! ### derivations -/
section
variable {P : Program} {w : World} {K : PySem.W.Frag} {mg : Str → Option Value} {base : Heap} {e : Nat → Addr} {a : Nat → Addr} {fd : Nat → FuncData}
theorem F_InvalidRow (T : Txt P K mg a fd e) : FnOk P w K mg base (L2.CX P w) 1 (a 30) (fd 30) ["self", "thread", "row"] (sp2 (e cx_InvalidRow) "thread" "row") :=
  ini2 (k := 0) T.I_InvalidRow ⟨sc_InvalidRow__init_, rfl, ⟨_, rfl, rfl⟩, by decide +kernel, by decide +kernel, fun _ _ _ _ => ⟨_, rfl⟩, fun _ _ _ _ => rfl, fun _ _ _ _ => rfl, fun _ _ _ _ => rfl⟩ (T.nf_thread cx_InvalidRow (by decide)) (T.nf_row cx_InvalidRow (by decide)) (hb := rfl) (fun _ _ _ _ => rfl) (fun _ _ _ _ => rfl) (by decide) (by decide) (by decide) (by decide) (by decide) (by decide)
theorem F_InvalidLine (T : Txt P K mg a fd e) : FnOk P w K mg base (L2.CX P w) 1 (a 31) (fd 31) ["self", "line"] (sp1 (e cx_InvalidLine) "line") :=
  ini1 (k := 0) T.I_InvalidLine ⟨sc_InvalidLine__init_, rfl, ⟨_, rfl, rfl⟩, by decide +kernel, by decide +kernel, fun _ _ _ _ => ⟨_, rfl⟩, fun _ _ _ _ => rfl, fun _ _ _ _ => rfl, fun _ _ _ _ => rfl⟩ (T.nf_line cx_InvalidLine (by decide)) (hb := rfl) (fun _ _ _ _ => rfl) (by decide) (by decide) (by decide) (by decide)
theorem F_UnknownThread (T : Txt P K mg a fd e) : FnOk P w K mg base (L2.CX P w) 1 (a 32) (fd 32) ["self", "thread"] (sp1 (e cx_UnknownThread) "thread") :=
  ini1 (k := 0) T.I_UnknownThread ⟨sc_UnknownThread__init_, rfl, ⟨_, rfl, rfl⟩, by decide +kernel, by decide +kernel, fun _ _ _ _ => ⟨_, rfl⟩, fun _ _ _ _ => rfl, fun _ _ _ _ => rfl, fun _ _ _ _ => rfl⟩ (T.nf_thread cx_UnknownThread (by decide)) (hb := rfl) (fun _ _ _ _ => rfl) (by decide) (by decide) (by decide) (by decide)
theorem okC_law_same (T : Txt P K mg a fd e) : FnC P w K mg base 1 (a 15) (fd 15) ["_law_actual", "_law_due"] (spV K (clT e) m_law_same_h) :=
  fn_okC (k := 0) rfl T.F_law_same sc_law_same (fun cdv A outer s H hr => by exact rss_cons (rs_if (rt_w (rw_or (rt_val (re_isi T.n_isinstance T.n_tuple PyProof.Rows.boot_tuple (by decide +kernel) (re_var (i := 1)))) (rw_or1 (rt_val (re_isi T.n_isinstance T.n_list PyProof.Rows.boot_list (by decide +kernel) (re_var (i := 1))))))) (rss_cons (rs_if (rt_w (rw_or (rt_cmp (op_neU (unitsH hr)) fNe_rel.op (re_isi T.n_isinstance T.n_tuple PyProof.Rows.boot_tuple (by decide +kernel) (re_var (i := 0))) (re_isi T.n_isinstance T.n_tuple PyProof.Rows.boot_tuple (by decide +kernel) (re_var (i := 1)))) (rw_or1 (rt_cmp (op_neU (unitsH hr)) fNe_rel.op (re_isi T.n_isinstance T.n_list PyProof.Rows.boot_list (by decide +kernel) (re_var (i := 0))) (re_isi T.n_isinstance T.n_list PyProof.Rows.boot_list (by decide +kernel) (re_var (i := 1))))))) (rss_one (rs_ret (re_bl))) (rss_nil)) (rss_cons (rs_if (rt_cmp (op_neU (unitsH hr)) fNe_rel.op (re_callB call_lenA cLen_ok T.n_len PySem.boot_len (ra_cons (re_var (i := 0)) (ra_nil))) (re_callB call_lenA cLen_ok T.n_len PySem.boot_len (ra_cons (re_var (i := 1)) (ra_nil)))) (rss_one (rs_ret (re_bl))) (rss_nil)) (rss_one (rs_ret (re_noE))))) (rss_nil)) (rss_cons (rs_if (rt_cmp op_isN fIsN_rel.op (re_var (i := 1)) (re_non)) (rss_one (rs_ret (re_cmp op_isN fIsN_rel.op (re_var (i := 0)) (re_non)))) (rss_nil)) (rss_cons (rs_if (rt_val (re_isi T.n_isinstance T.n_bool PyProof.Rows.boot_bool (by decide +kernel) (re_var (i := 1)))) (rss_one (rs_ret (re_and (re_isi T.n_isinstance T.n_bool PyProof.Rows.boot_bool (by decide +kernel) (re_var (i := 0))) (re_one (re_cmp (op_eqU (unitsH hr)) fEq_rel.op (re_var (i := 0)) (re_var (i := 1))))))) (rss_nil)) (rss_cons (rs_if (rt_val (re_isi T.n_isinstance T.n_int PyProof.Rows.boot_int (by decide +kernel) (re_var (i := 1)))) (rss_one (rs_ret (re_and (re_isi T.n_isinstance T.n_int PyProof.Rows.boot_int (by decide +kernel) (re_var (i := 0))) (re_and (re_not (re_isi T.n_isinstance T.n_bool PyProof.Rows.boot_bool (by decide +kernel) (re_var (i := 0)))) (re_one (re_cmp (op_eqU (unitsH hr)) fEq_rel.op (re_var (i := 0)) (re_var (i := 1)))))))) (rss_nil)) (rss_one (rs_ret (re_and (re_isi T.n_isinstance T.n_str PyProof.Rows.boot_str (by decide +kernel) (re_var (i := 0))) (re_one (re_cmp (op_eqU (unitsH hr)) fEq_rel.op (re_var (i := 0)) (re_var (i := 1)))))))))))
/-- DunOk, said of the text -/
def DunW (P : Program) (w : World) (K : PySem.W.Frag) (mg : Str → Option Value) (base : Heap) (cl : Cl) (k : Nat) (m : Str) (c : Nat) (mf : MF) : Prop := ∃ f fd ps, PySem.W.findIn K (.ref (cl.at_ c)) m = some (some (.ref f)) ∧ PySem.W.isFn K (.ref f) = true ∧ PySem.W.fnIn K f = true ∧ L2.Binds K fd ps [] ∧ FnOk P w K mg base (L2.CX P w) k f fd ps (spM K cl mf)
def PropW (P : Program) (w : World) (K : PySem.W.Frag) (mg : Str → Option Value) (base : Heap) (cl : Cl) (k : Nat) (f : Str) (c : Nat) (mf : MF) : Prop := ∃ p fg fd ps, L2.Cls K (cl.at_ c) ∧ L2.PropOf K (cl.at_ c) f p fg ∧ L2.Binds K fd ps [] ∧ FnOk P w K mg base (L2.CX P w) k fg fd ps (spM K cl mf)
def CallW (P : Program) (w : World) (K : PySem.W.Frag) (mg : Str → Option Value) (base : Heap) (cl : Cl) (k n : Nat) (ks : List Str) (dd : List D) (c : Nat) (mf : MF) : Prop := ∃ f fd ps, PySem.W.findIn K (.ref (cl.at_ c)) "__call__" = some (some (.ref f)) ∧ PySem.W.isFn K (.ref f) = true ∧ PySem.W.fnIn K f = true ∧ KB K fd ps n ks dd ∧ FnOk P w K mg base (L2.CX P w) k f fd ps (spM K cl mf)
def MethW (P : Program) (w : World) (K : PySem.W.Frag) (mg : Str → Option Value) (base : Heap) (cl : Cl) (k : Nat) (m : Str) (c : Nat) (mf : MF) : Prop := ∃ f fd ps, L2.Cls K (cl.at_ c) ∧ L2.Meth K (cl.at_ c) m f ∧ L2.Binds K fd ps [] ∧ FnOk P w K mg base (L2.CX P w) k f fd ps (spM K cl mf)
def MkVW (P : Program) (w : World) (K : PySem.W.Frag) (mg : Str → Option Value) (base : Heap) (cl : Cl) (k : Nat) (x : Str) (c : Nat) (mf : MF) : Prop := PySem.W.nsIn K mainGlobals x = some (some (.ref (cl.at_ c))) ∧ ∃ f fd ps, L2.Mk K (cl.at_ c) f ∧ L2.Binds K fd ps [] ∧ FnOk P w K mg base (L2.CX P w) k f fd ps (spM K cl mf)
def CMetW (P : Program) (w : World) (K : PySem.W.Frag) (mg : Str → Option Value) (base : Heap) (cl : Cl) (k : Nat) (x m : Str) (mf : MF) : Prop := ∃ C mc p g, mg x = some (.ref C) ∧ PySem.W.nsIn K mainGlobals x = some (some (.ref C)) ∧ ClX.CRead K C mc ∧ ClX.CMet K C mc m p g ∧ FnPs P w K mg base cl k g mf
theorem ok_law_pool (T : Txt P K mg a fd e) : FnOk P w K mg base (L2.CX P w) 1 (a 0) (fd 0) ["_law_script"] (spM K (clT e) m_law_pool) :=
  fn_trim (fn_ok (k := 0) rfl T.F_law_pool sc_law_pool (fun cdv A outer s H E hr => by exact rss_cons (rs_set (i := 1) sc_law_pool.nd (re_lstM (ra_nil))) (rss_cons (rs_for (passes_of rfl) (ri_any (re_var (i := 0))) (rg_name (i := 2) sc_law_pool.nd) (rss_cons (rs_set (i := 3) sc_law_pool.nd (re_callB call_abs cAbs_ok T.n_abs PyProof.Rows.boot_abs (ra_cons (re_callTy call_intA cInt_ok T.n_int PyProof.Rows.boot_int (ra_cons (re_var (i := 2)) (ra_nil))) (ra_nil)))) (rss_one (rs_if (rt_cmp op_ge fGe_rel.op (re_var (i := 3)) (re_op2 op_pow fPow_ok (re_int) (re_int))) (rss_one (rs_for (passes_of rfl) (ri_range1 T.n_range (ra_cons (re_int) (ra_nil)) (len_cons len_nil)) (rg_name (i := 4) sc_law_pool.nd) (rss_one (rs_if (rt_cmp op_gt fGt_rel.op (re_var (i := 3)) (re_int)) (rss_cons (rs_expr (re_app (re_var (i := 1)) (re_op2 op_mod fMod_ok (re_callTy call_intA cInt_ok T.n_int PyProof.Rows.boot_int (ra_cons (re_var (i := 3)) (ra_nil))) (re_int)))) (rss_one (rs_set (i := 3) sc_law_pool.nd (re_op2 op_fdiv fDiv_ok (re_var (i := 3)) (re_int))))) (rss_nil))))) (rss_one (rs_for (passes_of rfl) (ri_range1 T.n_range (ra_cons (re_int) (ra_nil)) (len_cons len_nil)) (rg_name (i := 4) sc_law_pool.nd) (rss_cons (rs_set (i := 5) sc_law_pool.nd (re_op2 op_mod fMod_ok (re_callTy call_intA cInt_ok T.n_int PyProof.Rows.boot_int (ra_cons (re_op2 op_addA fAdd_ok (re_op2 op_addA fAdd_ok (re_op2 op_mul fMul_ok (re_var (i := 2)) (re_int)) (re_op2 op_mul fMul_ok (re_var (i := 4)) (re_int))) (re_int)) (ra_nil))) (re_int))) (rss_one (rs_expr (re_app (re_var (i := 1)) (re_op2 op_mod fMod_ok (re_op2 op_mod fMod_ok (re_callTy call_intA cInt_ok T.n_int PyProof.Rows.boot_int (ra_cons (re_op2 op_addA fAdd_ok (re_op2 op_addA fAdd_ok (re_op2 op_mul fMul_ok (re_var (i := 5)) (re_var (i := 5))) (re_op2 op_mul fMul_ok (re_var (i := 5)) (re_int))) (re_var (i := 4))) (ra_nil))) (re_int)) (re_int)))))))))))) (rss_one (rs_ret (re_varF (i := 1)))))))
theorem ok_law_draw (T : Txt P K mg a fd e) : FnOk P w K mg base (L2.CX P w) 1 (a 1) (fd 1) ["_law_draws", "_law_k", "_law_many"] (spM K (clT e) m_law_draw) :=
  fn_ok (k := 0) rfl T.F_law_draw sc_law_draw (fun cdv A outer s H E hr => by exact rss_cons (rs_if (rt_cmp op_lt fLt_rel.op (re_var (i := 1)) (re_callB call_lenA cLen_ok T.n_len PySem.boot_len (ra_cons (re_var (i := 0)) (ra_nil)))) (rss_one (rs_ret (re_op2 op_mod fMod_ok (re_callTy call_intA cInt_ok T.n_int PyProof.Rows.boot_int (ra_cons (re_ix (re_var (i := 0)) (re_var (i := 1))) (ra_nil))) (re_var (i := 2))))) (rss_nil)) (rss_one (rs_ret (re_op2 op_mod fMod_ok (re_op2 op_mod fMod_ok (re_callTy call_intA cInt_ok T.n_int PyProof.Rows.boot_int (ra_cons (re_op2 op_addA fAdd_ok (re_op2 op_addA fAdd_ok (re_op2 op_mul fMul_ok (re_var (i := 1)) (re_int)) (re_op2 op_mul fMul_ok (re_callB (cr_sum rfl) cSum_ok T.n_sum PyProof.Rows.boot_sum (ra_cons (re_sl (re_var (i := 0)) (ro_none) (ro_some (re_int))) (ra_nil))) (re_int))) (re_int)) (ra_nil))) (re_int)) (re_var (i := 2))))))
theorem ok_law_word (T : Txt P K mg a fd e) : FnOk P w K mg base (L2.CX P w) 2 (a 2) (fd 2) ["_law_draws", "_law_at"] (spM K (clT e) m_law_word) :=
  fn_ok (k := 1) rfl T.F_law_word sc_law_word (fun cdv A outer s H E hr => by exact rss_cons (rs_set (i := 2) sc_law_word.nd (re_str)) (rss_cons (rs_set (i := 3) sc_law_word.nd (re_op2 op_addA fAdd_ok (re_int) (re_callN (ok_law_draw T) (hr.mono (by decide)) T.g_law_draw T.F_law_draw.kp T.b_law_draw (ra_cons (re_var (i := 0)) (ra_cons (re_var (i := 1)) (ra_cons (re_int) (ra_nil))))))) (rss_one (rs_ret (re_join (re_str) (re_lc (own := [("_law_k", 4)]) sc_law_word.nd (ri_range1 T.n_range (ra_cons (re_var (i := 3)) (ra_nil)) (len_cons len_nil)) (blkOk_by (N := N_law_word) (sc := defScope s_law_word) (by decide +kernel)) (fun _ _ _ _ _ => rgw_name (i := 4) sc_law_word.nd) (fun _ _ _ _ _ => rts_nil) (fun _ _ _ _ _ => re_ix (re_var (i := 2)) (re_callN (ok_law_draw T) (hr.mono (by decide)) T.g_law_draw T.F_law_draw.kp T.b_law_draw (ra_cons (re_var (i := 0)) (ra_cons (re_op2 op_addA fAdd_ok (re_op2 op_addA fAdd_ok (re_var (i := 1)) (re_int)) (re_var (i := 4))) (ra_cons (re_int) (ra_nil))))))))))))
theorem ok_law_distinct (T : Txt P K mg a fd e) : FnOk P w K mg base (L2.CX P w) 3 (a 3) (fd 3) ["_law_draws", "_law_at", "_law_count"] (spM K (clT e) m_law_distinct) :=
  fn_trim (fn_ok (k := 2) rfl T.F_law_distinct sc_law_distinct (fun cdv A outer s H E hr => by exact rss_cons (rs_set (i := 3) sc_law_distinct.nd (re_lstM (ra_nil))) (rss_cons (rs_for (passes_of rfl) (ri_range1 T.n_range (ra_cons (re_var (i := 2)) (ra_nil)) (len_cons len_nil)) (rg_name (i := 4) sc_law_distinct.nd) (rss_cons (rs_set (i := 5) sc_law_distinct.nd (re_callN (ok_law_word T) (hr.mono (by decide)) T.g_law_word T.F_law_word.kp T.b_law_word (ra_cons (re_var (i := 0)) (ra_cons (re_op2 op_addA fAdd_ok (re_var (i := 1)) (re_op2 op_mul fMul_ok (re_int) (re_var (i := 4)))) (ra_nil))))) (rss_cons (rs_if (rt_cmp (op_inA hr) fIn_rel.op (re_var (i := 5)) (re_var (i := 3)) (by with_unfolding_all rfl)) (rss_one (rs_set (i := 5) sc_law_distinct.nd (re_ix (re_lc (own := [("_law_spare", 6)]) sc_law_distinct.nd (ri_any (re_lst (ra_cons (re_str) (ra_cons (re_str) (ra_cons (re_str) (ra_cons (re_str) (ra_nil))))))) (blkOk_by (N := N_law_distinct) (sc := defScope s_law_distinct) (by decide +kernel)) (fun _ _ _ _ _ => rgw_name (i := 6) sc_law_distinct.nd) (fun _ _ _ _ _ => rts_one (rt_cmp (op_notInA hr) fNotIn_rel.op (re_var (i := 6)) (re_var (i := 3)) (by with_unfolding_all rfl))) (fun _ _ _ _ _ => re_var (i := 6))) (re_int)))) (rss_nil)) (rss_one (rs_expr (re_app (re_var (i := 3)) (re_var (i := 5)))))))) (rss_one (rs_ret (re_varF (i := 3)))))))
theorem ok_law_sizes (T : Txt P K mg a fd e) : FnOk P w K mg base (L2.CX P w) 2 (a 4) (fd 4) ["_law_draws", "_law_at", "_law_most"] (spM K (clT e) m_law_sizes) :=
  fn_ok (k := 1) rfl T.F_law_sizes sc_law_sizes (fun cdv A outer s H E hr => by exact rss_cons (rs_set (i := 3) sc_law_sizes.nd (re_ix (re_lst (ra_cons (re_int) (ra_cons (re_int) (ra_cons (re_int) (ra_cons (re_int) (ra_cons (re_int) (ra_cons (re_int) (ra_cons (re_int) (ra_cons (re_int) (ra_nil)))))))))) (re_callN (ok_law_draw T) (hr.mono (by decide)) T.g_law_draw T.F_law_draw.kp T.b_law_draw (ra_cons (re_var (i := 0)) (ra_cons (re_var (i := 1)) (ra_cons (re_int) (ra_nil))))))) (rss_cons (rs_set (i := 4) sc_law_sizes.nd (re_ix (re_var (i := 2)) (re_op2 op_sub fSub_ok (re_var (i := 3)) (re_int)))) (rss_cons (rs_set (i := 5) sc_law_sizes.nd (re_lst (ra_cons (re_var (i := 4)) (ra_cons (re_var (i := 4)) (ra_cons (re_op2 op_sub fSub_ok (re_var (i := 4)) (re_int)) (ra_cons (re_var (i := 4)) (ra_cons (re_op2 op_fdiv fDiv_ok (re_var (i := 4)) (re_int)) (ra_cons (re_var (i := 4)) (ra_cons (re_int) (ra_cons (re_var (i := 4)) (ra_nil))))))))))) (rss_one (rs_ret (re_lc (own := [("_law_k", 6)]) sc_law_sizes.nd (ri_range1 T.n_range (ra_cons (re_var (i := 3)) (ra_nil)) (len_cons len_nil)) (blkOk_by (N := N_law_sizes) (sc := defScope s_law_sizes) (by decide +kernel)) (fun _ _ _ _ _ => rgw_name (i := 6) sc_law_sizes.nd) (fun _ _ _ _ _ => rts_nil) (fun _ _ _ _ _ => re_ix (re_var (i := 5)) (re_callN (ok_law_draw T) (hr.mono (by decide)) T.g_law_draw T.F_law_draw.kp T.b_law_draw (ra_cons (re_var (i := 0)) (ra_cons (re_op2 op_addA fAdd_ok (re_op2 op_addA fAdd_ok (re_var (i := 1)) (re_int)) (re_var (i := 6))) (ra_cons (re_int) (ra_nil))))))))))))
theorem ok_law_value (T : Txt P K mg a fd e) : FnOk P w K mg base (L2.CX P w) 1 (a 5) (fd 5) ["_law_number"] (spM K (clT e) m_law_value) :=
  fn_ok (k := 0) rfl T.F_law_value sc_law_value (fun cdv A outer s H E hr => by exact rss_one (rs_ret (re_ix (re_lst (ra_cons (re_int) (ra_cons (re_int) (ra_cons (re_int) (ra_cons (re_int) (ra_cons (re_int) (ra_cons (re_int) (ra_cons (re_int) (ra_cons (re_int) (ra_cons (re_int) (ra_cons (re_int) (ra_cons (re_int) (ra_cons (re_int) (ra_cons (re_int) (ra_cons (re_int) (ra_nil)))))))))))))))) (re_op2 op_mod fMod_ok (re_callTy call_intA cInt_ok T.n_int PyProof.Rows.boot_int (ra_cons (re_var (i := 0)) (ra_nil))) (re_int)))))
theorem ok_law_row (T : Txt P K mg a fd e) : FnOk P w K mg base (L2.CX P w) 2 (a 6) (fd 6) ["_law_draws", "_law_at", "_law_cells", "_law_size"] (spM K (clT e) m_law_row) :=
  fn_ok (k := 1) rfl T.F_law_row sc_law_row (fun cdv A outer s H E hr => by exact rss_cons (rs_set (i := 4) sc_law_row.nd (re_ix (re_lst (ra_cons (re_str) (ra_cons (re_str) (ra_cons (re_str) (ra_cons (re_str) (ra_cons (re_str) (ra_cons (re_str) (ra_cons (re_str) (ra_cons (re_str) (ra_nil)))))))))) (re_callN (ok_law_draw T) (hr.mono (by decide)) T.g_law_draw T.F_law_draw.kp T.b_law_draw (ra_cons (re_var (i := 0)) (ra_cons (re_var (i := 1)) (ra_cons (re_int) (ra_nil))))))) (rss_cons (rs_set (i := 5) sc_law_row.nd (re_ix (re_var (i := 2)) (re_callN (ok_law_draw T) (hr.mono (by decide)) T.g_law_draw T.F_law_draw.kp T.b_law_draw (ra_cons (re_var (i := 0)) (ra_cons (re_op2 op_addA fAdd_ok (re_var (i := 1)) (re_int)) (ra_cons (re_callB call_lenA cLen_ok T.n_len PySem.boot_len (ra_cons (re_var (i := 2)) (ra_nil))) (ra_nil))))))) (rss_cons (rs_set (i := 6) sc_law_row.nd (re_callN (ok_law_draw T) (hr.mono (by decide)) T.g_law_draw T.F_law_draw.kp T.b_law_draw (ra_cons (re_var (i := 0)) (ra_cons (re_op2 op_addA fAdd_ok (re_var (i := 1)) (re_int)) (ra_cons (re_int) (ra_nil)))))) (rss_cons (rs_if (rt_cmp (op_eqA hr) fEq_rel.op (re_var (i := 4)) (re_str)) (rss_one (rs_ret (re_tup (ra_cons (re_str) (ra_cons (re_var (i := 5)) (ra_nil)))))) (rss_nil)) (rss_cons (rs_if (rt_cmp (op_eqA hr) fEq_rel.op (re_var (i := 4)) (re_str)) (rss_one (rs_ret (re_tup (ra_cons (re_str) (ra_nil))))) (rss_nil)) (rss_cons (rs_if (rt_cmp (op_eqA hr) fEq_rel.op (re_var (i := 4)) (re_str)) (rss_one (rs_ret (re_tup (ra_cons (re_str) (ra_cons (re_callN (ok_law_value T) (hr.mono (by decide)) T.g_law_value T.F_law_value.kp T.b_law_value (ra_cons (re_var (i := 6)) (ra_nil))) (ra_cons (re_op2 op_mod fMod_ok (re_callTy call_intA cInt_ok T.n_int PyProof.Rows.boot_int (ra_cons (re_op2 op_fdiv fDiv_ok (re_var (i := 6)) (re_int)) (ra_nil))) (re_op2 op_addA fAdd_ok (re_var (i := 3)) (re_int))) (ra_nil))))))) (rss_nil)) (rss_cons (rs_if (rt_cmp (op_eqA hr) fEq_rel.op (re_var (i := 4)) (re_str)) (rss_one (rs_ret (re_tup (ra_cons (re_str) (ra_cons (re_op2 op_mod fMod_ok (re_callTy call_intA cInt_ok T.n_int PyProof.Rows.boot_int (ra_cons (re_var (i := 6)) (ra_nil))) (re_op2 op_addA fAdd_ok (re_var (i := 3)) (re_int))) (ra_nil)))))) (rss_nil)) (rss_cons (rs_if (rt_cmp (op_eqA hr) fEq_rel.op (re_op2 op_mod fMod_ok (re_callTy call_intA cInt_ok T.n_int PyProof.Rows.boot_int (ra_cons (re_var (i := 6)) (ra_nil))) (re_int)) (re_int)) (rss_one (rs_ret (re_tup (ra_cons (re_var (i := 4)) (ra_cons (re_var (i := 5)) (ra_cons (re_str) (ra_nil))))))) (rss_nil)) (rss_one (rs_ret (re_tup (ra_cons (re_var (i := 4)) (ra_cons (re_var (i := 5)) (ra_cons (re_callN (ok_law_value T) (hr.mono (by decide)) T.g_law_value T.F_law_value.kp T.b_law_value (ra_cons (re_op2 op_fdiv fDiv_ok (re_var (i := 6)) (re_int)) (ra_nil))) (ra_nil)))))))))))))))
theorem ok_law_threads (T : Txt P K mg a fd e) : FnOk P w K mg base (L2.CX P w) 3 (a 7) (fd 7) ["_law_draws", "_law_at", "_law_cells", "_law_sizes_here"] (spM K (clT e) m_law_threads) :=
  fn_trim (fn_ok (k := 2) rfl T.F_law_threads sc_law_threads (fun cdv A outer s H E hr => by exact rss_cons (rs_set (i := 4) sc_law_threads.nd (re_callN (ok_law_draw T) (hr.mono (by decide)) T.g_law_draw T.F_law_draw.kp T.b_law_draw (ra_cons (re_var (i := 0)) (ra_cons (re_var (i := 1)) (ra_cons (re_int) (ra_nil)))))) (rss_cons (rs_set (i := 5) sc_law_threads.nd (re_lstM (ra_nil))) (rss_cons (rs_set (i := 6) sc_law_threads.nd (re_op2 op_addA fAdd_ok (re_var (i := 1)) (re_int))) (rss_cons (rs_for (passes_of rfl) (ri_range1 T.n_range (ra_cons (re_callB call_lenA cLen_ok T.n_len PySem.boot_len (ra_cons (re_var (i := 3)) (ra_nil))) (ra_nil)) (len_cons len_nil)) (rg_name (i := 7) sc_law_threads.nd) (rss_cons (rs_set (i := 8) sc_law_threads.nd (re_lstM (ra_nil))) (rss_cons (rs_for (passes_of rfl) (ri_range1 T.n_range (ra_cons (re_ix (re_var (i := 3)) (re_var (i := 7))) (ra_nil)) (len_cons len_nil)) (rg_name (i := 9) sc_law_threads.nd) (rss_cons (rs_set (i := 10) sc_law_threads.nd (re_callN (ok_law_row T) (hr.mono (by decide)) T.g_law_row T.F_law_row.kp T.b_law_row (ra_cons (re_var (i := 0)) (ra_cons (re_var (i := 6)) (ra_cons (re_var (i := 2)) (ra_cons (re_ix (re_var (i := 3)) (re_var (i := 7))) (ra_nil))))))) (rss_cons (rs_if (rt_w (rw_and (rt_cmp op_gt fGt_rel.op (re_var (i := 4)) (re_int)) (rw_and1 (rt_cmp (op_eqA hr) fEq_rel.op (re_var (i := 9)) (re_int))))) (rss_cons (rs_set (i := 11) sc_law_threads.nd (re_callN (ok_law_value T) (hr.mono (by decide)) T.g_law_value T.F_law_value.kp T.b_law_value (ra_cons (re_callN (ok_law_draw T) (hr.mono (by decide)) T.g_law_draw T.F_law_draw.kp T.b_law_draw (ra_cons (re_var (i := 0)) (ra_cons (re_op2 op_addA fAdd_ok (re_var (i := 6)) (re_int)) (ra_cons (re_int) (ra_nil))))) (ra_nil)))) (rss_one (rs_set (i := 10) sc_law_threads.nd (re_tup (ra_cons (re_ix (re_lst (ra_cons (re_str) (ra_cons (re_str) (ra_cons (re_str) (ra_nil))))) (re_callN (ok_law_draw T) (hr.mono (by decide)) T.g_law_draw T.F_law_draw.kp T.b_law_draw (ra_cons (re_var (i := 0)) (ra_cons (re_var (i := 6)) (ra_cons (re_int) (ra_nil)))))) (ra_cons (re_ix (re_var (i := 2)) (re_op2 op_mod fMod_ok (re_callTy call_intA cInt_ok T.n_int PyProof.Rows.boot_int (ra_cons (re_var (i := 7)) (ra_nil))) (re_callB call_lenA cLen_ok T.n_len PySem.boot_len (ra_cons (re_var (i := 2)) (ra_nil))))) (ra_cons (re_var (i := 11)) (ra_nil)))))))) (rss_nil)) (rss_cons (rs_if (rt_w (rw_and (rt_cmp op_gt fGt_rel.op (re_var (i := 4)) (re_int)) (rw_and (rt_cmp op_gt fGt_rel.op (re_var (i := 9)) (re_int)) (rw_and1 (rt_cmp (op_eqA hr) fEq_rel.op (re_var (i := 9)) (re_op2 op_sub fSub_ok (re_ix (re_var (i := 3)) (re_var (i := 7))) (re_int))))))) (rss_one (rs_set (i := 10) sc_law_threads.nd (re_tup (ra_cons (re_str) (ra_cons (re_ix (re_var (i := 2)) (re_op2 op_mod fMod_ok (re_callTy call_intA cInt_ok T.n_int PyProof.Rows.boot_int (ra_cons (re_op2 op_addA fAdd_ok (re_var (i := 7)) (re_int)) (ra_nil))) (re_callB call_lenA cLen_ok T.n_len PySem.boot_len (ra_cons (re_var (i := 2)) (ra_nil))))) (ra_nil)))))) (rss_nil)) (rss_cons (rs_if (rt_w (rw_and (rt_cmp (op_eqA hr) fEq_rel.op (re_var (i := 4)) (re_int)) (rw_and (rt_cmp op_lt fLt_rel.op (re_int) (re_var (i := 9))) (rw_and1 (rt_cmp op_lt fLt_rel.op (re_var (i := 9)) (re_op2 op_sub fSub_ok (re_ix (re_var (i := 3)) (re_var (i := 7))) (re_int))))))) (rss_one (rs_set (i := 10) sc_law_threads.nd (re_tup (ra_cons (re_str) (ra_nil))))) (rss_nil)) (rss_cons (rs_expr (re_app (re_var (i := 8)) (re_var (i := 10)))) (rss_one (rs_set (i := 6) sc_law_threads.nd (re_op2 op_addA fAdd_ok (re_var (i := 6)) (re_int)))))))))) (rss_one (rs_expr (re_app (re_var (i := 5)) (re_varF (i := 8)))))))) (rss_one (rs_ret (re_varF (i := 5)))))))))
theorem ok_law_text (T : Txt P K mg a fd e) : FnOk P w K mg base (L2.CX P w) 1 (a 8) (fd 8) ["_law_cells", "_law_threads_here"] (spM K (clT e) m_law_text) :=
  fn_trim (fn_ok (k := 0) rfl T.F_law_text sc_law_text (fun cdv A outer s H E hr => by exact rss_cons (rs_set (i := 2) sc_law_text.nd (re_lstM (ra_cons (re_op2 op_addA fAdd_ok (re_str) (re_join (re_str) (re_var (i := 0)))) (ra_nil)))) (rss_cons (rs_for (passes_of rfl) (ri_any (re_var (i := 1))) (rg_name (i := 3) sc_law_text.nd) (rss_cons (rs_expr (re_app (re_var (i := 2)) (re_str))) (rss_one (rs_for (passes_of rfl) (ri_any (re_var (i := 3))) (rg_name (i := 4) sc_law_text.nd) (rss_one (rs_expr (re_app (re_var (i := 2)) (re_join (re_str) (re_lc (own := [("_law_part", 5)]) sc_law_text.nd (ri_any (re_var (i := 4))) (blkOk_by (N := N_law_text) (sc := defScope s_law_text) (by decide +kernel)) (fun _ _ _ _ _ => rgw_name (i := 5) sc_law_text.nd) (fun _ _ _ _ _ => rts_nil) (fun _ _ _ _ _ => re_callTy call_strA cStr_ok T.n_str PyProof.Rows.boot_str (ra_cons (re_var (i := 5)) (ra_nil)))))))))))) (rss_one (rs_ret (re_join (re_str) (re_varF (i := 2))))))))
theorem ok_is_name (T : Txt P K mg a fd e) : FnOk P w K mg base (L2.CX P w) 1 (a 9) (fd 9) ["text"] (spM K (clT e) m_is_name) :=
  fn_ok (k := 0) rfl T.F_is_name sc_is_name (fun cdv A outer s H E hr => by exact rss_one (rs_ret (re_and (re_chain op_le op_le fLe_rel fLe_rel (re_int) (re_callB call_lenA cLen_ok T.n_len PySem.boot_len (ra_cons (re_var (i := 0)) (ra_nil))) (re_int)) (re_one (re_callB (cr_all rfl) cAll_ok T.n_all PyProof.Rows.boot_all (ra_cons (re_lc (own := [("letter", 1)]) sc_is_name.nd (ri_any (re_var (i := 0))) (blkOk_by (N := N_is_name) (sc := defScope s_is_name) (by decide +kernel)) (fun _ _ _ _ _ => rgw_name (i := 1) sc_is_name.nd) (fun _ _ _ _ _ => rts_nil) (fun _ _ _ _ _ => re_cmp (op_inA hr) fIn_rel.op (re_var (i := 1)) (T.r_LETTERS) (by with_unfolding_all rfl))) (ra_nil)))))))
theorem ok_is_number (T : Txt P K mg a fd e) : FnOk P w K mg base (L2.CX P w) 1 (a 10) (fd 10) ["number", "most"] (spM K (clT e) m_is_number) :=
  fn_ok (k := 0) rfl T.F_is_number sc_is_number (fun cdv A outer s H E hr => by exact rss_one (rs_ret (re_and (re_isi T.n_isinstance T.n_int PyProof.Rows.boot_int (by decide +kernel) (re_var (i := 0))) (re_one (re_chain op_le op_le fLe_rel fLe_rel (re_int) (re_var (i := 0)) (re_var (i := 1)))))))
theorem ok_Program_is_row (T : Txt P K mg a fd e) : FnOk P w K mg base (L2.CX P w) 2 (a 11) (fd 11) ["self", "parts", "size"] (spM K (clT e) m_Program_is_row) :=
  fn_ok (k := 1) rfl T.F_Program_is_row sc_Program_is_row (fun cdv A outer s H E hr => by exact rss_cons (rs_match (re_var (i := 1)) (rcs_cons sc_Program_is_row.nd (.cons .val (.nil)) (rss_one (rs_ret (re_bl))) (rcs_cons sc_Program_is_row.nd (.cons .val (.cons (.cap (i := 3) rfl (by first | exact Or.inl rfl | exact Or.inr rfl) (by first | exact .inl rfl | exact .inr rfl)) (.nil))) (rss_one (rs_ret (re_cmp (op_inA hr) fIn_rel.op (re_var (i := 3)) (re_fld (ok := of_cells_Program) (of_cells_Program_ok T) (re_var (i := 0))) (by with_unfolding_all rfl)))) (rcs_cons sc_Program_is_row.nd (.cons .val (.cons (.cap (i := 4) rfl (by first | exact Or.inl rfl | exact Or.inr rfl) (by first | exact .inl rfl | exact .inr rfl)) (.nil))) (rss_one (rs_ret (re_callN (ok_is_number T) (hr.mono (by decide)) T.g_is_number T.F_is_number.kp T.b_is_number (ra_cons (re_var (i := 4)) (ra_cons (re_var (i := 2)) (ra_nil)))))) (rcs_cons sc_Program_is_row.nd (.cons .val (.cons (.cap (i := 5) rfl (by first | exact Or.inl rfl | exact Or.inr rfl) (by first | exact .inl rfl | exact .inr rfl)) (.cons (.cap (i := 4) rfl (by first | exact Or.inl rfl | exact Or.inr rfl) (by first | exact .inl rfl | exact .inr rfl)) (.nil)))) (rss_one (rs_ret (re_and (re_callN (ok_is_number T) (hr.mono (by decide)) T.g_is_number T.F_is_number.kp T.b_is_number (ra_cons (re_var (i := 5)) (ra_cons (re_int) (ra_nil)))) (re_one (re_callN (ok_is_number T) (hr.mono (by decide)) T.g_is_number T.F_is_number.kp T.b_is_number (ra_cons (re_var (i := 4)) (ra_cons (re_var (i := 2)) (ra_nil)))))))) (rcs_cons sc_Program_is_row.nd (.cons (.cap (i := 6) rfl (by first | exact Or.inl rfl | exact Or.inr rfl) (by first | exact .inl rfl | exact .inr rfl)) (.cons (.cap (i := 3) rfl (by first | exact Or.inl rfl | exact Or.inr rfl) (by first | exact .inl rfl | exact .inr rfl)) (.cons (.cap (i := 7) rfl (by first | exact Or.inl rfl | exact Or.inr rfl) (by first | exact .inl rfl | exact .inr rfl)) (.nil)))) (rss_one (rs_ret (re_and (re_cmp (op_inA hr) fIn_rel.op (re_var (i := 6)) (re_tup (ra_cons (re_str) (ra_cons (re_str) (ra_nil)))) (by with_unfolding_all rfl)) (re_and (re_cmp (op_inA hr) fIn_rel.op (re_var (i := 3)) (re_fld (ok := of_cells_Program) (of_cells_Program_ok T) (re_var (i := 0))) (by with_unfolding_all rfl)) (re_one (re_or (re_cmp (op_eqA hr) fEq_rel.op (re_var (i := 7)) (re_str)) (re_one (re_callN (ok_is_number T) (hr.mono (by decide)) T.g_is_number T.F_is_number.kp T.b_is_number (ra_cons (re_var (i := 7)) (ra_cons (re_int) (ra_nil))))))))))) (rcs_nil))))))) (rss_one (rs_ret (re_bl))))
theorem tm_is_row_Program_mok (T : Txt P K mg a fd e) : ∀ c mf, tm_is_row_Program c = some mf → MethW P w K mg base (clT e) 2 "_is_row" c mf := by
  intro c mf h; unfold tm_is_row_Program at h; split at h
  · cases h; exact ⟨a 11, fd 11, ["self", "parts", "size"], T.cl_Program, ⟨T.d_Program__is_row, T.if_Program_is_row, T.F_Program_is_row.kp⟩, T.b_Program_is_row, (ok_Program_is_row T).mono (by decide)⟩
  · cases h
theorem ok_Program__init_ (T : Txt P K mg a fd e) : FnOk P w K mg base (L2.CX P w) 3 (a 12) (fd 12) ["self", "cells", "threads"] (spM K (clT e) m_Program__init_) :=
  fn_ok (k := 2) rfl T.F_Program__init_ sc_Program__init_ (fun cdv A outer s H E hr => by exact rss_cons (rs_if (rt_w (rw_or (rt_not (rt_chain op_le op_le fLe_rel fLe_rel (re_int) (re_callB call_lenA cLen_ok T.n_len PySem.boot_len (ra_cons (re_var (i := 1)) (ra_nil))) (re_con (tab := oc_MOST_CELLS_Program) (oc_MOST_CELLS_Program_ok T) (re_var (i := 0))))) (rw_or1 (rt_cmp op_lt fLt_rel.op (re_lenSet T.n_len T.n_set (re_var (i := 1))) (re_callB call_lenA cLen_ok T.n_len PySem.boot_len (ra_cons (re_var (i := 1)) (ra_nil))))))) (rss_one (rs_raise (c := cx_InvalidCells) T.O_InvalidCells)) (rss_nil)) (rss_cons (rs_if (rt_not (rt_val (re_callB (cr_all rfl) cAll_ok T.n_all PyProof.Rows.boot_all (ra_cons (re_lc (own := [("name", 7)]) sc_Program__init_.nd (ri_any (re_var (i := 1))) (blkOk_by (N := N_Program__init_) (sc := defScope s_Program__init_) (by decide +kernel)) (fun _ _ _ _ _ => rgw_name (i := 7) sc_Program__init_.nd) (fun _ _ _ _ _ => rts_nil) (fun _ _ _ _ _ => re_callN (ok_is_name T) (hr.mono (by decide)) T.g_is_name T.F_is_name.kp T.b_is_name (ra_cons (re_var (i := 7)) (ra_nil)))) (ra_nil))))) (rss_one (rs_raise (c := cx_InvalidCells) T.O_InvalidCells)) (rss_nil)) (rss_cons (rs_if (rt_w (rw_or (rt_not (rt_chain op_le op_le fLe_rel fLe_rel (re_int) (re_callB call_lenA cLen_ok T.n_len PySem.boot_len (ra_cons (re_var (i := 2)) (ra_nil))) (re_con (tab := oc_MOST_THREADS_Program) (oc_MOST_THREADS_Program_ok T) (re_var (i := 0))))) (rw_or1 (rt_cmp op_gt fGt_rel.op (re_callB (cr_sum rfl) cSum_ok T.n_sum PyProof.Rows.boot_sum (ra_cons (re_lc (own := [("rows", 4)]) sc_Program__init_.nd (ri_any (re_var (i := 2))) (blkOk_by (N := N_Program__init_) (sc := defScope s_Program__init_) (by decide +kernel)) (fun _ _ _ _ _ => rgw_name (i := 4) sc_Program__init_.nd) (fun _ _ _ _ _ => rts_nil) (fun _ _ _ _ _ => re_callB call_lenA cLen_ok T.n_len PySem.boot_len (ra_cons (re_var (i := 4)) (ra_nil)))) (ra_nil))) (re_con (tab := oc_MOST_ROWS_Program) (oc_MOST_ROWS_Program_ok T) (re_var (i := 0))))))) (rss_one (rs_raise (c := cx_InvalidShape) T.O_InvalidShape)) (rss_nil)) (rss_cons (rs_fld (ok := of_cells_Program) (of_cells_Program_ok T) (re_var (i := 0)) (re_callTy call_tuple_of cTuple_ok T.n_tuple PyProof.Rows.boot_tuple (ra_cons (re_var (i := 1)) (ra_nil)))) (rss_cons (rs_for (passes_of rfl) (ri_enum1 T.n_enumerate (ra_cons (re_var (i := 2)) (ra_nil))) (rg_tup (rgs_cons (rg_name (i := 3) sc_Program__init_.nd) (rgs_cons (rg_name (i := 4) sc_Program__init_.nd) (rgs_nil)))) (rss_one (rs_for (passes_of rfl) (ri_enum1 T.n_enumerate (ra_cons (re_var (i := 4)) (ra_nil))) (rg_tup (rgs_cons (rg_name (i := 5) sc_Program__init_.nd) (rgs_cons (rg_name (i := 6) sc_Program__init_.nd) (rgs_nil)))) (rss_one (rs_if (rt_not (rt_val (re_meth (tm_is_row_Program_mok T) (hr.mono (by decide)) (re_var (i := 0)) (ra_cons (re_var (i := 6)) (ra_cons (re_callB call_lenA cLen_ok T.n_len PySem.boot_len (ra_cons (re_var (i := 4)) (ra_nil))) (ra_nil)))))) (rss_one (rs_raiseF2 (c := cx_InvalidRow) T.I_InvalidRow (F_InvalidRow T) (hr.mono (by decide)) T.eb_InvalidRow (ra_cons (re_var (i := 3)) (ra_cons (re_var (i := 5)) (ra_nil))))) (rss_nil)))))) (rss_one (rs_fld (ok := of_threads_Program) (of_threads_Program_ok T) (re_var (i := 0)) (re_lc (own := [("rows", 4)]) sc_Program__init_.nd (ri_any (re_var (i := 2))) (blkOk_by (N := N_Program__init_) (sc := defScope s_Program__init_) (by decide +kernel)) (fun _ _ _ _ _ => rgw_name (i := 4) sc_Program__init_.nd) (fun _ _ _ _ _ => rts_nil) (fun _ _ _ _ _ => re_callTy call_list_of cList_ok T.n_list PyProof.Rows.boot_list (ra_cons (re_var (i := 4)) (ra_nil)))))))))))
theorem ct_Program_vok (T : Txt P K mg a fd e) : ∀ y c mf, ct_Program y = some (c, mf) → MkVW P w K mg base (clT e) 3 y c mf := by
  intro y c mf h; unfold ct_Program at h
  split at h
  · rename_i hx; cases h; subst hx; exact ⟨T.nc_Program, a 12, fd 12, ["self", "cells", "threads"], T.mk_Program, T.b_Program__init_, (ok_Program__init_ T).mono (by decide)⟩
  cases h
theorem ok_Program_of (T : Txt P K mg a fd e) : FnPs P w K mg base (clT e) 5 (a 13) m_Program_of :=
  fn_starF (k := 4) rfl T.F_Program_of sc_Program_of (fun cdv A outer s H E hr => by exact rss_one (rs_ret (re_makeV (ct_Program_vok T) (hr.mono (by decide)) (re_var (i := 0)) (ra_cons (re_var (i := 1)) (ra_cons (re_callTy call_list_of cList_ok T.n_list PyProof.Rows.boot_list (ra_cons (re_var (i := 2)) (ra_nil))) (ra_nil))))))
theorem cm_Program_of_cmok (T : Txt P K mg a fd e) : CMetW P w K mg base (clT e) 5 "Program" "of" m_Program_of := by
  obtain ⟨mc, p, h1, h2⟩ := T.cm_Program_of; exact ⟨_, mc, p, _, T.g_Program, T.nc_Program, h1, h2, ok_Program_of T⟩
theorem ok_law_of (T : Txt P K mg a fd e) : FnOk P w K mg base (L2.CX P w) 6 (a 14) (fd 14) ["_law_cells", "_law_threads_here"] (spM K (clT e) m_law_of) :=
  fn_ok (k := 5) rfl T.F_law_of sc_law_of (fun cdv A outer s H E hr => by exact rss_cons (rs_if (rt_cmp (op_eqA hr) fEq_rel.op (re_callB call_lenA cLen_ok T.n_len PySem.boot_len (ra_cons (re_var (i := 1)) (ra_nil))) (re_int)) (rss_one (rs_ret (re_cmeth (cm_Program_of_cmok T) (hr.mono (by decide)) (ra_cons (re_var (i := 0)) (ra_cons (re_ix (re_var (i := 1)) (re_int)) (ra_nil)))))) (rss_nil)) (rss_cons (rs_if (rt_cmp (op_eqA hr) fEq_rel.op (re_callB call_lenA cLen_ok T.n_len PySem.boot_len (ra_cons (re_var (i := 1)) (ra_nil))) (re_int)) (rss_one (rs_ret (re_cmeth (cm_Program_of_cmok T) (hr.mono (by decide)) (ra_cons (re_var (i := 0)) (ra_cons (re_ix (re_var (i := 1)) (re_int)) (ra_cons (re_ix (re_var (i := 1)) (re_int)) (ra_nil))))))) (rss_nil)) (rss_one (rs_ret (re_cmeth (cm_Program_of_cmok T) (hr.mono (by decide)) (ra_cons (re_var (i := 0)) (ra_cons (re_ix (re_var (i := 1)) (re_int)) (ra_cons (re_ix (re_var (i := 1)) (re_int)) (ra_cons (re_ix (re_var (i := 1)) (re_int)) (ra_nil))))))))))
theorem ok_law_same (T : Txt P K mg a fd e) : ∀ n : Nat, FnOk P w K mg base (L2.CX P w) (n + 1) (a 15) (fd 15) ["_law_actual", "_law_due"] (spM K (clT e) (m_law_same n))
  | 0 => fn_none
  | n + 1 => fn_ok (k := n + 1) rfl T.F_law_same sc_law_same (fun cdv A outer s H E hr => by
    have ih : FnOk P w K mg base (L2.CX P w) (n + 1) (a 15) (fd 15) ["_law_actual", "_law_due"] (spM K (clT e) (m_law_same n)) := ok_law_same T n
    exact rss_cons (rs_if (rt_w (rw_or (rt_val (re_isi T.n_isinstance T.n_tuple PyProof.Rows.boot_tuple (by decide +kernel) (re_var (i := 1)))) (rw_or1 (rt_val (re_isi T.n_isinstance T.n_list PyProof.Rows.boot_list (by decide +kernel) (re_var (i := 1))))))) (rss_cons (rs_if (rt_w (rw_or (rt_cmp (op_neA hr) fNe_rel.op (re_isi T.n_isinstance T.n_tuple PyProof.Rows.boot_tuple (by decide +kernel) (re_var (i := 0))) (re_isi T.n_isinstance T.n_tuple PyProof.Rows.boot_tuple (by decide +kernel) (re_var (i := 1)))) (rw_or1 (rt_cmp (op_neA hr) fNe_rel.op (re_isi T.n_isinstance T.n_list PyProof.Rows.boot_list (by decide +kernel) (re_var (i := 0))) (re_isi T.n_isinstance T.n_list PyProof.Rows.boot_list (by decide +kernel) (re_var (i := 1))))))) (rss_one (rs_ret (re_bl))) (rss_nil)) (rss_cons (rs_if (rt_cmp (op_neA hr) fNe_rel.op (re_callB call_lenA cLen_ok T.n_len PySem.boot_len (ra_cons (re_var (i := 0)) (ra_nil))) (re_callB call_lenA cLen_ok T.n_len PySem.boot_len (ra_cons (re_var (i := 1)) (ra_nil)))) (rss_one (rs_ret (re_bl))) (rss_nil)) (rss_one (rs_ret (re_callB (cr_all rfl) cAll_ok T.n_all PyProof.Rows.boot_all (ra_cons (re_lc (own := [("_law_k", 2)]) sc_law_same.nd (ri_range1 T.n_range (ra_cons (re_callB call_lenA cLen_ok T.n_len PySem.boot_len (ra_cons (re_var (i := 1)) (ra_nil))) (ra_nil)) (len_cons len_nil)) (blkOk_by (N := N_law_same) (sc := defScope s_law_same) (by decide +kernel)) (fun _ _ _ _ _ => rgw_name (i := 2) sc_law_same.nd) (fun _ _ _ _ _ => rts_nil) (fun _ _ _ _ _ => re_callN ih hr T.g_law_same T.F_law_same.kp T.b_law_same (ra_cons (re_ix (re_var (i := 0)) (re_var (i := 2))) (ra_cons (re_ix (re_var (i := 1)) (re_var (i := 2))) (ra_nil))))) (ra_nil))))))) (rss_nil)) (rss_cons (rs_if (rt_cmp op_isN fIsN_rel.op (re_var (i := 1)) (re_non)) (rss_one (rs_ret (re_cmp op_isN fIsN_rel.op (re_var (i := 0)) (re_non)))) (rss_nil)) (rss_cons (rs_if (rt_val (re_isi T.n_isinstance T.n_bool PyProof.Rows.boot_bool (by decide +kernel) (re_var (i := 1)))) (rss_one (rs_ret (re_and (re_isi T.n_isinstance T.n_bool PyProof.Rows.boot_bool (by decide +kernel) (re_var (i := 0))) (re_one (re_cmp (op_eqA hr) fEq_rel.op (re_var (i := 0)) (re_var (i := 1))))))) (rss_nil)) (rss_cons (rs_if (rt_val (re_isi T.n_isinstance T.n_int PyProof.Rows.boot_int (by decide +kernel) (re_var (i := 1)))) (rss_one (rs_ret (re_and (re_isi T.n_isinstance T.n_int PyProof.Rows.boot_int (by decide +kernel) (re_var (i := 0))) (re_and (re_not (re_isi T.n_isinstance T.n_bool PyProof.Rows.boot_bool (by decide +kernel) (re_var (i := 0)))) (re_one (re_cmp (op_eqA hr) fEq_rel.op (re_var (i := 0)) (re_var (i := 1)))))))) (rss_nil)) (rss_one (rs_ret (re_and (re_isi T.n_isinstance T.n_str PyProof.Rows.boot_str (by decide +kernel) (re_var (i := 0))) (re_one (re_cmp (op_eqA hr) fEq_rel.op (re_var (i := 0)) (re_var (i := 1)))))))))))
theorem ok_is_value (T : Txt P K mg a fd e) : FnOk P w K mg base (L2.CX P w) 1 (a 16) (fd 16) ["text"] (spM K (clT e) m_is_value) :=
  fn_ok (k := 0) rfl T.F_is_value sc_is_value (fun cdv A outer s H E hr => by exact rss_one (rs_ret (re_and (re_cmp (op_eqA hr) fEq_rel.op (re_callB call_lenA cLen_ok T.n_len PySem.boot_len (ra_cons (re_var (i := 0)) (ra_nil))) (re_int)) (re_one (re_cmp (op_inA hr) fIn_rel.op (re_var (i := 0)) (T.r_DIGITS) (by with_unfolding_all rfl))))))
theorem ok_is_target (T : Txt P K mg a fd e) : FnOk P w K mg base (L2.CX P w) 2 (a 17) (fd 17) ["text"] (spM K (clT e) m_is_target) :=
  fn_ok (k := 1) rfl T.F_is_target sc_is_target (fun cdv A outer s H E hr => by exact rss_cons (rs_if (rt_cmp (op_eqA hr) fEq_rel.op (re_callB call_lenA cLen_ok T.n_len PySem.boot_len (ra_cons (re_var (i := 0)) (ra_nil))) (re_int)) (rss_one (rs_ret (re_and (re_cmp (op_inA hr) fIn_rel.op (re_ix (re_var (i := 0)) (re_int)) (re_sl (T.r_DIGITS) (ro_some (re_int)) (ro_none)) (by with_unfolding_all rfl)) (re_one (re_cmp (op_inA hr) fIn_rel.op (re_ix (re_var (i := 0)) (re_int)) (T.r_DIGITS) (by with_unfolding_all rfl)))))) (rss_nil)) (rss_one (rs_ret (re_callN (ok_is_value T) (hr.mono (by decide)) T.g_is_value T.F_is_value.kp T.b_is_value (ra_cons (re_var (i := 0)) (ra_nil))))))
theorem ok_parse_row (T : Txt P K mg a fd e) : FnOk P w K mg base (L2.CX P w) 3 (a 18) (fd 18) ["line"] (spM K (clT e) m_parse_row) :=
  fn_ok (k := 2) rfl T.F_parse_row sc_parse_row (fun cdv A outer s H E hr => by exact rss_cons (rs_match (re_split (re_var (i := 0)) (re_str)) (rcs_cons sc_parse_row.nd (.cons .val (.nil)) (rss_one (rs_ret (re_tup (ra_cons (re_str) (ra_nil))))) (rcs_cons sc_parse_row.nd (.cons .val (.cons (.cap (i := 1) rfl (by first | exact Or.inl rfl | exact Or.inr rfl) (by first | exact .inl rfl | exact .inr rfl)) (.nil))) (rss_one (rs_if (rt_val (re_callN (ok_is_name T) (hr.mono (by decide)) T.g_is_name T.F_is_name.kp T.b_is_name (ra_cons (re_var (i := 1)) (ra_nil)))) (rss_one (rs_ret (re_tup (ra_cons (re_str) (ra_cons (re_var (i := 1)) (ra_nil)))))) (rss_nil))) (rcs_cons sc_parse_row.nd (.cons .val (.cons (.cap (i := 2) rfl (by first | exact Or.inl rfl | exact Or.inr rfl) (by first | exact .inl rfl | exact .inr rfl)) (.nil))) (rss_one (rs_if (rt_val (re_callN (ok_is_target T) (hr.mono (by decide)) T.g_is_target T.F_is_target.kp T.b_is_target (ra_cons (re_var (i := 2)) (ra_nil)))) (rss_one (rs_ret (re_tup (ra_cons (re_str) (ra_cons (re_callTy call_intA cInt_ok T.n_int PyProof.Rows.boot_int (ra_cons (re_var (i := 2)) (ra_nil))) (ra_nil)))))) (rss_nil))) (rcs_cons sc_parse_row.nd (.cons .val (.cons (.cap (i := 3) rfl (by first | exact Or.inl rfl | exact Or.inr rfl) (by first | exact .inl rfl | exact .inr rfl)) (.cons (.cap (i := 2) rfl (by first | exact Or.inl rfl | exact Or.inr rfl) (by first | exact .inl rfl | exact .inr rfl)) (.nil)))) (rss_one (rs_if (rt_w (rw_and (rt_val (re_callN (ok_is_value T) (hr.mono (by decide)) T.g_is_value T.F_is_value.kp T.b_is_value (ra_cons (re_var (i := 3)) (ra_nil)))) (rw_and1 (rt_val (re_callN (ok_is_target T) (hr.mono (by decide)) T.g_is_target T.F_is_target.kp T.b_is_target (ra_cons (re_var (i := 2)) (ra_nil))))))) (rss_one (rs_ret (re_tup (ra_cons (re_str) (ra_cons (re_callTy call_intA cInt_ok T.n_int PyProof.Rows.boot_int (ra_cons (re_var (i := 3)) (ra_nil))) (ra_cons (re_callTy call_intA cInt_ok T.n_int PyProof.Rows.boot_int (ra_cons (re_var (i := 2)) (ra_nil))) (ra_nil))))))) (rss_nil))) (rcs_cons sc_parse_row.nd (.cons (.cap (i := 4) rfl (by first | exact Or.inl rfl | exact Or.inr rfl) (by first | exact .inl rfl | exact .inr rfl)) (.cons (.cap (i := 1) rfl (by first | exact Or.inl rfl | exact Or.inr rfl) (by first | exact .inl rfl | exact .inr rfl)) (.cons (.cap (i := 5) rfl (by first | exact Or.inl rfl | exact Or.inr rfl) (by first | exact .inl rfl | exact .inr rfl)) (.nil)))) (rss_one (rs_if (rt_w (rw_and (rt_cmp (op_inA hr) fIn_rel.op (re_var (i := 4)) (re_tup (ra_cons (re_str) (ra_cons (re_str) (ra_nil)))) (by with_unfolding_all rfl)) (rw_and1 (rt_val (re_callN (ok_is_name T) (hr.mono (by decide)) T.g_is_name T.F_is_name.kp T.b_is_name (ra_cons (re_var (i := 1)) (ra_nil))))))) (rss_cons (rs_if (rt_cmp (op_eqA hr) fEq_rel.op (re_var (i := 5)) (re_str)) (rss_one (rs_ret (re_tup (ra_cons (re_var (i := 4)) (ra_cons (re_var (i := 1)) (ra_cons (re_str) (ra_nil))))))) (rss_nil)) (rss_one (rs_if (rt_val (re_callN (ok_is_value T) (hr.mono (by decide)) T.g_is_value T.F_is_value.kp T.b_is_value (ra_cons (re_var (i := 5)) (ra_nil)))) (rss_one (rs_ret (re_tup (ra_cons (re_var (i := 4)) (ra_cons (re_var (i := 1)) (ra_cons (re_callTy call_intA cInt_ok T.n_int PyProof.Rows.boot_int (ra_cons (re_var (i := 5)) (ra_nil))) (ra_nil))))))) (rss_nil)))) (rss_nil))) (rcs_nil))))))) (rss_one (rs_raise (c := cx_InvalidText) T.O_InvalidText)))
theorem ok_Program_read (T : Txt P K mg a fd e) : FnOk P w K mg base (L2.CX P w) 5 (a 19) (fd 19) ["cls", "text"] (spM K (clT e) m_Program_read) :=
  fn_ok (k := 4) rfl T.F_Program_read sc_Program_read (fun cdv A outer s H E hr => by exact rss_cons (rs_set (i := 2) sc_Program_read.nd (re_lst (ra_nil))) (rss_cons (rs_set (i := 3) sc_Program_read.nd (re_lstM (ra_nil))) (rss_cons (rs_for (passes_of rfl) (ri_enum2 T.n_enumerate (ra_cons (re_split (re_var (i := 1)) (re_str)) (ra_cons (re_int) (ra_nil)))) (rg_tup (rgs_cons (rg_name (i := 4) sc_Program_read.nd) (rgs_cons (rg_name (i := 5) sc_Program_read.nd) (rgs_nil)))) (rss_cons (rs_set (i := 6) sc_Program_read.nd (re_split (re_var (i := 5)) (re_str))) (rss_one (rs_if (rt_cmp (op_eqA hr) fEq_rel.op (re_var (i := 4)) (re_int)) (rss_cons (rs_set (i := 2) sc_Program_read.nd (re_sl (re_var (i := 6)) (ro_some (re_int)) (ro_none))) (rss_one (rs_if (rt_w (rw_or (rt_cmp (op_neA hr) fNe_rel.op (re_ix (re_var (i := 6)) (re_int)) (re_str)) (rw_or (rt_cmp (op_eqA hr) fEq_rel.op (re_var (i := 2)) (re_lst (ra_nil))) (rw_or1 (rt_not (rt_val (re_callB (cr_all rfl) cAll_ok T.n_all PyProof.Rows.boot_all (ra_cons (re_lc (own := [("name", 7)]) sc_Program_read.nd (ri_any (re_var (i := 2))) (blkOk_by (N := N_Program_read) (sc := defScope s_Program_read) (by decide +kernel)) (fun _ _ _ _ _ => rgw_name (i := 7) sc_Program_read.nd) (fun _ _ _ _ _ => rts_nil) (fun _ _ _ _ _ => re_callN (ok_is_name T) (hr.mono (by decide)) T.g_is_name T.F_is_name.kp T.b_is_name (ra_cons (re_var (i := 7)) (ra_nil)))) (ra_nil))))))))) (rss_one (rs_raiseF1 (c := cx_InvalidLine) T.I_InvalidLine (F_InvalidLine T) (hr.mono (by decide)) T.eb_InvalidLine (ra_cons (re_var (i := 4)) (ra_nil)))) (rss_nil)))) (rss_one (rs_if (rt_cmp (op_eqA hr) fEq_rel.op (re_var (i := 5)) (re_str)) (rss_one (rs_expr (re_app (re_var (i := 3)) (re_lstM (ra_nil))))) (rss_one (rs_if (rt_cmp (op_eqA hr) fEq_rel.op (re_var (i := 4)) (re_int)) (rss_one (rs_raiseF1 (c := cx_InvalidLine) T.I_InvalidLine (F_InvalidLine T) (hr.mono (by decide)) T.eb_InvalidLine (ra_cons (re_var (i := 4)) (ra_nil)))) (rss_one (rs_tryO ⟨rfl, by decide, .inl T.gx_InvalidText⟩ T.x_InvalidText (fun W pn xe itk hp => by exact rss_one (rs_expr (re_app (re_ix (re_var (i := 3)) (re_op1 un_neg fNeg_ok (re_int))) (re_callN (ok_parse_row T) (hr.mono (by decide)) T.g_parse_row T.F_parse_row.kp T.b_parse_row (ra_cons (re_var (i := 5)) (ra_nil)))))) (fun ea oe ec fs ed pn et hz hf => by exact rss_one (rs_no)))))))))))) (rss_one (rs_ret (re_makeV (ct_Program_vok T) (hr.mono (by decide)) (re_var (i := 0)) (ra_cons (re_var (i := 2)) (ra_cons (re_varF (i := 3)) (ra_nil)))))))))
theorem cm_Program_read_cmok (T : Txt P K mg a fd e) : CMetW P w K mg base (clT e) 5 "Program" "read" m_Program_read := by
  obtain ⟨mc, p, h1, h2⟩ := T.cm_Program_read; exact ⟨_, mc, p, _, T.g_Program, T.nc_Program, h1, h2, fnPs_of (ok_Program_read T) T.b_Program_read⟩
theorem ok_Program_rows_of (T : Txt P K mg a fd e) : FnOk P w K mg base (L2.CX P w) 3 (a 20) (fd 20) ["self", "thread"] (spM K (clT e) m_Program_rows_of) :=
  fn_ok (k := 2) rfl T.F_Program_rows_of sc_Program_rows_of (fun cdv A outer s H E hr => by exact rss_cons (rs_if (rt_not (rt_chain op_le op_lt fLe_rel fLt_rel (re_int) (re_var (i := 1)) (re_callB call_lenA cLen_ok T.n_len PySem.boot_len (ra_cons (re_fld (ok := of_threads_Program) (of_threads_Program_ok T) (re_var (i := 0))) (ra_nil))))) (rss_one (rs_raiseF1 (c := cx_UnknownThread) T.I_UnknownThread (F_UnknownThread T) (hr.mono (by decide)) T.eb_UnknownThread (ra_cons (re_var (i := 1)) (ra_nil)))) (rss_nil)) (rss_one (rs_ret (re_listC T.n_list (ra_cons (re_ix (re_fld (ok := of_threads_Program) (of_threads_Program_ok T) (re_var (i := 0))) (re_var (i := 1))) (ra_nil))))))
theorem ok_Program__len_ (T : Txt P K mg a fd e) : FnOk P w K mg base (L2.CX P w) 1 (a 21) (fd 21) ["self"] (spM K (clT e) m_Program__len_) :=
  fn_ok (k := 0) rfl T.F_Program__len_ sc_Program__len_ (fun cdv A outer s H E hr => by exact rss_one (rs_ret (re_callB call_lenA cLen_ok T.n_len PySem.boot_len (ra_cons (re_fld (ok := of_threads_Program) (of_threads_Program_ok T) (re_var (i := 0))) (ra_nil)))))
theorem ok_format_row (T : Txt P K mg a fd e) : FnOk P w K mg base (L2.CX P w) 1 (a 22) (fd 22) ["row"] (spM K (clT e) m_format_row) :=
  fn_ok (k := 0) rfl T.F_format_row sc_format_row (fun cdv A outer s H E hr => by exact rss_one (rs_ret (re_join (re_str) (re_lc (own := [("part", 1)]) sc_format_row.nd (ri_any (re_var (i := 0))) (blkOk_by (N := N_format_row) (sc := defScope s_format_row) (by decide +kernel)) (fun _ _ _ _ _ => rgw_name (i := 1) sc_format_row.nd) (fun _ _ _ _ _ => rts_nil) (fun _ _ _ _ _ => re_callTy call_strA cStr_ok T.n_str PyProof.Rows.boot_str (ra_cons (re_var (i := 1)) (ra_nil)))))))
theorem ok_Program_text (T : Txt P K mg a fd e) : FnOk P w K mg base (L2.CX P w) 2 (a 23) (fd 23) ["self"] (spM K (clT e) m_Program_text) :=
  fn_ok (k := 1) rfl T.F_Program_text sc_Program_text (fun cdv A outer s H E hr => by exact rss_cons (rs_set (i := 1) sc_Program_text.nd (re_lstM (ra_cons (re_join (re_str) (re_lst (ra_cons (re_str) (ra_star (re_fld (ok := of_cells_Program) (of_cells_Program_ok T) (re_var (i := 0))) (ra_nil))))) (ra_nil)))) (rss_cons (rs_for (passes_of rfl) (ri_any (re_fld (ok := of_threads_Program) (of_threads_Program_ok T) (re_var (i := 0)))) (rg_name (i := 2) sc_Program_text.nd) (rss_one (rs_augL (i := 1) sc_Program_text.nd (re_lst (ra_cons (re_str) (ra_star (re_lc (own := [("row", 3)]) sc_Program_text.nd (ri_any (re_var (i := 2))) (blkOk_by (N := N_Program_text) (sc := defScope s_Program_text) (by decide +kernel)) (fun _ _ _ _ _ => rgw_name (i := 3) sc_Program_text.nd) (fun _ _ _ _ _ => rts_nil) (fun _ _ _ _ _ => re_callN (ok_format_row T) (hr.mono (by decide)) T.g_format_row T.F_format_row.kp T.b_format_row (ra_cons (re_var (i := 3)) (ra_nil)))) (ra_nil))))))) (rss_one (rs_ret (re_join (re_str) (re_varF (i := 1)))))))
theorem tm_rows_of_Program_mok (T : Txt P K mg a fd e) : ∀ c mf, tm_rows_of_Program c = some mf → MethW P w K mg base (clT e) 3 "rows_of" c mf := by
  intro c mf h; unfold tm_rows_of_Program at h; split at h
  · cases h; exact ⟨a 20, fd 20, ["self", "thread"], T.cl_Program, ⟨T.d_Program_rows_of, T.if_Program_rows_of, T.F_Program_rows_of.kp⟩, T.b_Program_rows_of, (ok_Program_rows_of T).mono (by decide)⟩
  · cases h
theorem tm_setitem_sok (T : Txt P K mg a fd e) : ∀ c mf, tm_setitem c = some mf → DunW P w K mg base (clT e) 0 "__setitem__" c mf ∧ PySem.W.noSeq K ((clT e).at_ c) = true := by
  intro c mf h; cases h
theorem tm_len_Program_ok (T : Txt P K mg a fd e) : ∀ c mf, tm_len_Program c = some mf → DunW P w K mg base (clT e) 1 "__len__" c mf := by
  intro c mf h; unfold tm_len_Program at h; split at h
  · cases h; exact ⟨a 21, fd 21, ["self"], T.d_Program___len__, T.if_Program__len_, T.fi_Program__len_, T.b_Program__len_, (ok_Program__len_ T).mono (by decide)⟩
  · cases h
theorem tm_text_Program_mok (T : Txt P K mg a fd e) : ∀ c mf, tm_text_Program c = some mf → MethW P w K mg base (clT e) 2 "text" c mf := by
  intro c mf h; unfold tm_text_Program at h; split at h
  · cases h; exact ⟨a 23, fd 23, ["self"], T.cl_Program, ⟨T.d_Program_text, T.if_Program_text, T.F_Program_text.kp⟩, T.b_Program_text, (ok_Program_text T).mono (by decide)⟩
  · cases h
theorem ok_law_holds (T : Txt P K mg a fd e) : FnOk P w K mg base (L2.CX P w) 10 (a 24) (fd 24) ["_law_program", "_law_cells", "_law_threads_here", "_law_text_here"] (spM K (clT e) m_law_holds) :=
  fn_ok (k := 9) rfl T.F_law_holds sc_law_holds (fun cdv A outer s H E hr => by exact rss_cons (rs_if (rt_w (rw_or (rt_not (rt_val (re_callN (ok_law_same T 8) (hr.mono (by decide)) T.g_law_same T.F_law_same.kp T.b_law_same (ra_cons (re_fld (ok := of_cells_Program) (of_cells_Program_ok T) (re_var (i := 0))) (ra_cons (re_callTy call_tuple_of cTuple_ok T.n_tuple PyProof.Rows.boot_tuple (ra_cons (re_var (i := 1)) (ra_nil))) (ra_nil)))))) (rw_or1 (rt_not (rt_val (re_callN (ok_law_same T 8) (hr.mono (by decide)) T.g_law_same T.F_law_same.kp T.b_law_same (ra_cons (re_meth0 (tm_text_Program_mok T) (hr.mono (by decide)) (re_var (i := 0))) (ra_cons (re_var (i := 3)) (ra_nil))))))))) (rss_one (rs_ret (re_bl))) (rss_nil)) (rss_cons (rs_if (rt_not (rt_val (re_callN (ok_law_same T 8) (hr.mono (by decide)) T.g_law_same T.F_law_same.kp T.b_law_same (ra_cons (re_callB (call_lenG rfl (tm_len_Program_ok T) (hr.mono (by decide))) cLenG_ok T.n_len PySem.boot_len (ra_cons (re_var (i := 0)) (ra_nil))) (ra_cons (re_callB call_lenA cLen_ok T.n_len PySem.boot_len (ra_cons (re_var (i := 2)) (ra_nil))) (ra_nil)))))) (rss_one (rs_ret (re_bl))) (rss_nil)) (rss_cons (rs_for (passes_of rfl) (ri_range1 T.n_range (ra_cons (re_callB call_lenA cLen_ok T.n_len PySem.boot_len (ra_cons (re_var (i := 2)) (ra_nil))) (ra_nil)) (len_cons len_nil)) (rg_name (i := 4) sc_law_holds.nd) (rss_cons (rs_set (i := 5) sc_law_holds.nd (re_meth (tm_rows_of_Program_mok T) (hr.mono (by decide)) (re_var (i := 0)) (ra_cons (re_var (i := 4)) (ra_nil)))) (rss_cons (rs_if (rt_not (rt_val (re_callN (ok_law_same T 8) (hr.mono (by decide)) T.g_law_same T.F_law_same.kp T.b_law_same (ra_cons (re_var (i := 5)) (ra_cons (re_ix (re_var (i := 2)) (re_var (i := 4))) (ra_nil)))))) (rss_one (rs_ret (re_bl))) (rss_nil)) (rss_cons (rs_expr (re_app (re_var (i := 5)) (re_tup (ra_cons (re_str) (ra_nil))))) (rss_one (rs_setG (tm_setitem_sok T) (hr.mono (by decide)) (re_var (i := 5)) (re_int) (re_tup (ra_cons (re_str) (ra_nil))))))))) (rss_one (rs_ret (re_callB (cr_all rfl) cAll_ok T.n_all PyProof.Rows.boot_all (ra_cons (re_lc (own := [("_law_k", 4)]) sc_law_holds.nd (ri_range1 T.n_range (ra_cons (re_callB call_lenA cLen_ok T.n_len PySem.boot_len (ra_cons (re_var (i := 2)) (ra_nil))) (ra_nil)) (len_cons len_nil)) (blkOk_by (N := N_law_holds) (sc := defScope s_law_holds) (by decide +kernel)) (fun _ _ _ _ _ => rgw_name (i := 4) sc_law_holds.nd) (fun _ _ _ _ _ => rts_nil) (fun _ _ _ _ _ => re_callN (ok_law_same T 8) (hr.mono (by decide)) T.g_law_same T.F_law_same.kp T.b_law_same (ra_cons (re_meth (tm_rows_of_Program_mok T) (hr.mono (by decide)) (re_var (i := 0)) (ra_cons (re_var (i := 4)) (ra_nil))) (ra_cons (re_ix (re_var (i := 2)) (re_var (i := 4))) (ra_nil))))) (ra_nil))))))))
theorem ok_settle (T : Txt P K mg a fd e) : FnOk P w K mg base (L2.CX P w) 1 (a 25) (fd 25) ["rows", "row", "held"] (spM K (clT e) m_settle) :=
  fn_trim (fn_ok (k := 0) rfl T.F_settle sc_settle (fun cdv A outer s H E hr => by exact rss_cons (rs_set (i := 3) sc_settle.nd (re_lstM (ra_nil))) (rss_cons (rs_while 64 (passes_of rfl) (rt_w (rw_and (rt_cmp op_lt fLt_rel.op (re_var (i := 1)) (re_callB call_lenA cLen_ok T.n_len PySem.boot_len (ra_cons (re_var (i := 0)) (ra_nil)))) (rw_and1 (rt_cmp (op_inA hr) fIn_rel.op (re_ix (re_ix (re_var (i := 0)) (re_var (i := 1))) (re_int)) (T.r_LOCAL) (by with_unfolding_all rfl))))) (rss_cons (rs_if (rt_cmp (op_inA hr) fIn_rel.op (re_var (i := 1)) (re_var (i := 3)) (by with_unfolding_all rfl)) (rss_one (rs_ret (re_callB call_lenA cLen_ok T.n_len PySem.boot_len (ra_cons (re_var (i := 0)) (ra_nil))))) (rss_nil)) (rss_cons (rs_expr (re_app (re_var (i := 3)) (re_var (i := 1)))) (rss_one (rs_if (rt_cmp (op_eqA hr) fEq_rel.op (re_ix (re_ix (re_var (i := 0)) (re_var (i := 1))) (re_int)) (re_str)) (rss_one (rs_set (i := 1) sc_settle.nd (re_ix (re_ix (re_var (i := 0)) (re_var (i := 1))) (re_int)))) (rss_one (rs_if (rt_cmp (op_eqA hr) fEq_rel.op (re_ix (re_ix (re_var (i := 0)) (re_var (i := 1))) (re_int)) (re_var (i := 2))) (rss_one (rs_set (i := 1) sc_settle.nd (re_ix (re_ix (re_var (i := 0)) (re_var (i := 1))) (re_int)))) (rss_one (rs_augI (i := 1) ip_add sc_settle.nd (re_int)))))))))) (rss_one (rs_ret (re_var (i := 1)))))))
theorem ok_Thread__init_ (T : Txt P K mg a fd e) : FnOk P w K mg base (L2.CX P w) 2 (a 26) (fd 26) ["self", "rows"] (spM K (clT e) m_Thread__init_) :=
  fn_ok (k := 1) rfl T.F_Thread__init_ sc_Thread__init_ (fun cdv A outer s H E hr => by exact rss_cons (rs_fld (ok := of_rows_Thread) (of_rows_Thread_ok T) (re_var (i := 0)) (re_callTy call_list_of cList_ok T.n_list PyProof.Rows.boot_list (ra_cons (re_var (i := 1)) (ra_nil)))) (rss_cons (rs_fld (ok := of_held_Thread) (of_held_Thread_ok T) (re_var (i := 0)) (re_int)) (rss_one (rs_fld (ok := of_row_Thread) (of_row_Thread_ok T) (re_var (i := 0)) (re_callN (ok_settle T) (hr.mono (by decide)) T.g_settle T.F_settle.kp T.b_settle (ra_cons (re_fld (ok := of_rows_Thread) (of_rows_Thread_ok T) (re_var (i := 0))) (ra_cons (re_int) (ra_cons (re_int) (ra_nil)))))))))
theorem ok_Program_thread_at (T : Txt P K mg a fd e) : FnOk P w K mg base (L2.CX P w) 4 (a 27) (fd 27) ["self", "thread"] (spM K (clT e) m_Program_thread_at) :=
  fn_ok (k := 3) rfl T.F_Program_thread_at sc_Program_thread_at (fun cdv A outer s H E hr => by exact rss_one (rs_ret (re_make T.mk_Thread T.g_Thread (ok_Thread__init_ T) (hr.mono (by decide)) T.b_Thread__init_ (ra_cons (re_meth (tm_rows_of_Program_mok T) (hr.mono (by decide)) (re_var (i := 0)) (ra_cons (re_var (i := 1)) (ra_nil))) (ra_nil)))))
theorem tm_thread_at_Program_mok (T : Txt P K mg a fd e) : ∀ c mf, tm_thread_at_Program c = some mf → MethW P w K mg base (clT e) 4 "thread_at" c mf := by
  intro c mf h; unfold tm_thread_at_Program at h; split at h
  · cases h; exact ⟨a 27, fd 27, ["self", "thread"], T.cl_Program, ⟨T.d_Program_thread_at, T.if_Program_thread_at, T.F_Program_thread_at.kp⟩, T.b_Program_thread_at, (ok_Program_thread_at T).mono (by decide)⟩
  · cases h
theorem ok_law_unknown (T : Txt P K mg a fd e) : FnOk P w K mg base (L2.CX P w) 10 (a 28) (fd 28) ["_law_program", "_law_number"] (spM K (clT e) m_law_unknown) :=
  fn_ok (k := 9) rfl T.F_law_unknown sc_law_unknown (fun cdv A outer s H E hr => by exact rss_cons (rs_set (i := 2) sc_law_unknown.nd (re_int)) (rss_cons (rs_tryAs (i := 3) sc_law_unknown.nd ⟨rfl, by decide, .inl T.gx_UnknownThread⟩ T.x_UnknownThread (fun W pn xe itk hp => by exact rss_one (rs_expr (re_meth (tm_rows_of_Program_mok T) (hr.mono (by decide)) (re_var (i := 0)) (ra_cons (re_var (i := 1)) (ra_nil))))) (fun ea oe ec fs ed pn et hz hf => by exact rss_one (rs_set (i := 2) sc_law_unknown.nd (re_op2 op_addA fAdd_ok (re_var (i := 2)) (re_callTy call_intA cInt_ok T.n_int PyProof.Rows.boot_int (ra_cons (re_callH (okC_law_same T) (roomS (hr.mono (by decide))) T.g_law_same T.F_law_same.kp T.b_law_same (ra_cons (re_ef (i := 3) (T.X_all ec (tb_UnknownThread_lt et)) (T.nf_thread ec (tb_UnknownThread_lt et)) hz hf) (ra_cons (re_var (i := 1)) (ra_nil)))) (ra_nil))))))) (rss_cons (rs_tryAs (i := 3) sc_law_unknown.nd ⟨rfl, by decide, .inl T.gx_UnknownThread⟩ T.x_UnknownThread (fun W pn xe itk hp => by exact rss_one (rs_expr (re_meth (tm_thread_at_Program_mok T) (hr.mono (by decide)) (re_var (i := 0)) (ra_cons (re_var (i := 1)) (ra_nil))))) (fun ea oe ec fs ed pn et hz hf => by exact rss_one (rs_set (i := 2) sc_law_unknown.nd (re_op2 op_addA fAdd_ok (re_var (i := 2)) (re_callTy call_intA cInt_ok T.n_int PyProof.Rows.boot_int (ra_cons (re_callH (okC_law_same T) (roomS (hr.mono (by decide))) T.g_law_same T.F_law_same.kp T.b_law_same (ra_cons (re_ef (i := 3) (T.X_all ec (tb_UnknownThread_lt et)) (T.nf_thread ec (tb_UnknownThread_lt et)) hz hf) (ra_cons (re_var (i := 1)) (ra_nil)))) (ra_nil))))))) (rss_one (rs_ret (re_cmp (op_eqA hr) fEq_rel.op (re_var (i := 2)) (re_int)))))))
theorem ok_law (T : Txt P K mg a fd e) : FnOk P w K mg base (L2.CX P w) 11 (a 29) (fd 29) ["_law_script"] (spM K (clT e) m_law) :=
  fn_ok (k := 10) rfl T.F_law sc_law (fun cdv A outer s H E hr => by exact rss_cons (rs_set (i := 1) sc_law.nd (re_callN (ok_law_pool T) (hr.mono (by decide)) T.g_law_pool T.F_law_pool.kp T.b_law_pool (ra_cons (re_var (i := 0)) (ra_nil)))) (rss_cons (rs_set (i := 2) sc_law.nd (re_callN (ok_law_distinct T) (hr.mono (by decide)) T.g_law_distinct T.F_law_distinct.kp T.b_law_distinct (ra_cons (re_var (i := 1)) (ra_cons (re_int) (ra_cons (re_ix (re_lst (ra_cons (re_int) (ra_cons (re_int) (ra_cons (re_int) (ra_nil))))) (re_callN (ok_law_draw T) (hr.mono (by decide)) T.g_law_draw T.F_law_draw.kp T.b_law_draw (ra_cons (re_var (i := 1)) (ra_cons (re_int) (ra_cons (re_int) (ra_nil)))))) (ra_nil)))))) (rss_cons (rs_set (i := 3) sc_law.nd (re_callN (ok_law_sizes T) (hr.mono (by decide)) T.g_law_sizes T.F_law_sizes.kp T.b_law_sizes (ra_cons (re_var (i := 1)) (ra_cons (re_int) (ra_cons (re_lst (ra_cons (re_int) (ra_cons (re_int) (ra_cons (re_int) (ra_nil))))) (ra_nil)))))) (rss_cons (rs_set (i := 4) sc_law.nd (re_callN (ok_law_threads T) (hr.mono (by decide)) T.g_law_threads T.F_law_threads.kp T.b_law_threads (ra_cons (re_var (i := 1)) (ra_cons (re_int) (ra_cons (re_var (i := 2)) (ra_cons (re_var (i := 3)) (ra_nil))))))) (rss_cons (rs_set (i := 5) sc_law.nd (re_callN (ok_law_text T) (hr.mono (by decide)) T.g_law_text T.F_law_text.kp T.b_law_text (ra_cons (re_var (i := 2)) (ra_cons (re_var (i := 4)) (ra_nil))))) (rss_cons (rs_set (i := 6) sc_law.nd (re_listC T.n_list (ra_cons (re_var (i := 2)) (ra_nil)))) (rss_cons (rs_setLcC (i := 7) (own := [("_law_rows", 14)]) sc_law.nd (ri_any (re_var (i := 4))) (blkOk_by (N := N_law) (sc := defScope s_law) (by decide +kernel)) (fun _ _ _ _ _ => rgw_name (i := 14) sc_law.nd) (fun _ _ _ _ _ => rts_nil) (fun _ _ _ _ _ => re_listC T.n_list (ra_cons (re_var (i := 14)) (ra_nil))) (sw_true rfl rfl rfl (by decide +kernel))) (rss_cons (rs_set (i := 8) sc_law.nd (re_make T.mk_Program T.g_Program (ok_Program__init_ T) (hr.mono (by decide)) T.b_Program__init_ (ra_cons (re_var (i := 6)) (ra_cons (re_var (i := 7)) (ra_nil))))) (rss_cons (rs_if (rt_w (rw_or (rt_cmp (op_neA hr) fNe_rel.op (re_var (i := 6)) (re_var (i := 2))) (rw_or1 (rt_cmp (op_neA hr) fNe_rel.op (re_var (i := 7)) (re_var (i := 4)))))) (rss_one (rs_ret (re_bl))) (rss_nil)) (rss_cons (rs_expr (re_app (re_var (i := 6)) (re_str))) (rss_cons (rs_expr (re_app (re_ix (re_var (i := 7)) (re_int)) (re_tup (ra_cons (re_str) (ra_cons (re_int) (ra_nil)))))) (rss_cons (rs_expr (re_app (re_var (i := 7)) (re_lstM (ra_nil)))) (rss_cons (rs_set (i := 9) sc_law.nd (re_listC T.n_list (ra_cons (re_var (i := 2)) (ra_nil)))) (rss_cons (rs_setLc (i := 10) (own := [("_law_rows", 14)]) sc_law.nd (ri_any (re_var (i := 4))) (blkOk_by (N := N_law) (sc := defScope s_law) (by decide +kernel)) (fun _ _ _ _ _ => rgw_name (i := 14) sc_law.nd) (fun _ _ _ _ _ => rts_nil) (fun _ _ _ _ _ => re_listC T.n_list (ra_cons (re_var (i := 14)) (ra_nil))) (sw_true rfl rfl rfl (by decide +kernel))) (rss_cons (rs_set (i := 11) sc_law.nd (re_callN (ok_law_of T) (hr.mono (by decide)) T.g_law_of T.F_law_of.kp T.b_law_of (ra_cons (re_var (i := 9)) (ra_cons (re_var (i := 10)) (ra_nil))))) (rss_cons (rs_if (rt_w (rw_or (rt_cmp (op_neA hr) fNe_rel.op (re_var (i := 9)) (re_var (i := 2))) (rw_or1 (rt_cmp (op_neA hr) fNe_rel.op (re_var (i := 10)) (re_var (i := 4)))))) (rss_one (rs_ret (re_bl))) (rss_nil)) (rss_cons (rs_expr (re_app (re_var (i := 9)) (re_str))) (rss_cons (rs_for (passes_of rfl) (ri_range1 T.n_range (ra_cons (re_callB call_lenA cLen_ok T.n_len PySem.boot_len (ra_cons (re_var (i := 10)) (ra_nil))) (ra_nil)) (len_cons len_nil)) (rg_name (i := 12) sc_law.nd) (rss_one (rs_expr (re_app (re_ix (re_var (i := 10)) (re_var (i := 12))) (re_tup (ra_cons (re_str) (ra_cons (re_int) (ra_nil)))))))) (rss_cons (rs_for (passes_of rfl) (ri_any (re_lst (ra_cons (re_var (i := 8)) (ra_cons (re_cmeth (cm_Program_read_cmok T) (hr.mono (by decide)) (ra_cons (re_var (i := 5)) (ra_nil))) (ra_cons (re_var (i := 11)) (ra_nil)))))) (rg_name (i := 13) sc_law.nd) (rss_cons (rs_if (rt_w (rw_or (rt_not (rt_val (re_callN (ok_law_holds T) (hr.mono (by decide)) T.g_law_holds T.F_law_holds.kp T.b_law_holds (ra_cons (re_var (i := 13)) (ra_cons (re_var (i := 2)) (ra_cons (re_var (i := 4)) (ra_cons (re_var (i := 5)) (ra_nil)))))))) (rw_or1 (rt_not (rt_val (re_callN (ok_law_holds T) (hr.mono (by decide)) T.g_law_holds T.F_law_holds.kp T.b_law_holds (ra_cons (re_var (i := 13)) (ra_cons (re_var (i := 2)) (ra_cons (re_var (i := 4)) (ra_cons (re_var (i := 5)) (ra_nil))))))))))) (rss_one (rs_ret (re_bl))) (rss_nil)) (rss_one (rs_if (rt_not (rt_val (re_callB (cr_all rfl) cAll_ok T.n_all PyProof.Rows.boot_all (ra_cons (re_lc (own := [("_law_number", 15)]) sc_law.nd (ri_any (re_lst (ra_cons (re_callB call_lenA cLen_ok T.n_len PySem.boot_len (ra_cons (re_var (i := 4)) (ra_nil))) (ra_cons (re_op1 un_neg fNeg_ok (re_int)) (ra_cons (re_op2 op_addA fAdd_ok (re_callB call_lenA cLen_ok T.n_len PySem.boot_len (ra_cons (re_var (i := 4)) (ra_nil))) (re_int)) (ra_cons (re_op1 un_neg fNeg_ok (re_callB call_lenA cLen_ok T.n_len PySem.boot_len (ra_cons (re_var (i := 4)) (ra_nil)))) (ra_nil))))))) (blkOk_by (N := N_law) (sc := defScope s_law) (by decide +kernel)) (fun _ _ _ _ _ => rgw_name (i := 15) sc_law.nd) (fun _ _ _ _ _ => rts_nil) (fun _ _ _ _ _ => re_callN (ok_law_unknown T) (hr.mono (by decide)) T.g_law_unknown T.F_law_unknown.kp T.b_law_unknown (ra_cons (re_var (i := 13)) (ra_cons (re_var (i := 15)) (ra_nil))))) (ra_nil))))) (rss_one (rs_ret (re_bl))) (rss_nil))))) (rss_one (rs_ret (re_callN (ok_law_same T 8) (hr.mono (by decide)) T.g_law_same T.F_law_same.kp T.b_law_same (ra_cons (re_lst (ra_cons (re_clsC T.g_Program T.cc_Program_MOST_CELLS fun _ _ => by simp only [Mi.IsD]) (ra_cons (re_clsC T.g_Program T.cc_Program_MOST_THREADS fun _ _ => by simp only [Mi.IsD]) (ra_cons (re_clsC T.g_Program T.cc_Program_MOST_ROWS fun _ _ => by simp only [Mi.IsD]) (ra_nil))))) (ra_cons (re_lst (ra_cons (re_int) (ra_cons (re_int) (ra_cons (re_int) (ra_nil))))) (ra_nil)))))))))))))))))))))))))
end
theorem all_mk {w : World} {K : PySem.W.Frag} {h : Heap} {mg : Str → Option Value} {fa : Addr} (X : K.In h) (G : h.Ns mainGlobals mg) (hfa : mg "law" = some (.ref fa))
    {f0 f1 f2 f3 f4 f5 f6 f7 f8 f9 f10 f11 f12 f13 f14 f15 f16 f17 f18 f19 f20 f21 f22 f23 f24 f25 f26 f27 f28 f29 : Addr}
    {od0 an0 od1 an1 od2 an2 od3 an3 od4 an4 od5 an5 od6 an6 od7 an7 od8 an8 od9 an9 od10 an10 od11 an11 od12 an12 od13 an13 od14 an14 od15 an15 od16 an16 od17 an17 od18 an18 od19 an19 od20 an20 od21 an21 od22 an22 od23 an23 od24 an24 od25 an25 od26 an26 od27 an27 od28 an28 od29 an29 : Option Addr}
    {sl0 sl1 sl2 sl3 sl4 sl5 sl6 sl7 sl8 sl9 sl10 sl11 sl12 sl13 sl14 sl15 sl16 sl17 sl18 sl19 sl20 sl21 sl22 sl23 sl24 sl25 sl26 sl27 sl28 sl29 : Array (Option Value)}
    {oc0 kV0 dc0 pm0 cd0 ct0 oc1 kV1 dc1 pm1 cd1 ct1 oc2 kV2 dc2 pm2 cd2 ct2 oc3 kV3 dc3 pm3 cd3 ct3 oc4 kV4 dc4 pm4 cd4 ct4 oc5 kV5 dc5 pm5 cd5 ct5 oc6 kV6 dc6 pm6 cd6 ct6 oc7 kV7 dc7 pm7 cd7 ct7 oc8 kV8 dc8 pm8 cd8 ct8 oc9 kV9 dc9 pm9 cd9 ct9 oc10 kV10 dc10 pm10 cd10 ct10 oc11 kV11 dc11 pm11 cd11 ct11 oc12 kV12 dc12 pm12 cd12 ct12 oc13 kV13 dc13 pm13 cd13 ct13 oc14 kV14 dc14 pm14 cd14 ct14 oc15 kV15 dc15 pm15 cd15 ct15 oc16 kV16 dc16 pm16 cd16 ct16 oc17 kV17 dc17 pm17 cd17 ct17 oc18 kV18 dc18 pm18 cd18 ct18 oc19 kV19 dc19 pm19 cd19 ct19 oc20 kV20 dc20 pm20 cd20 ct20 oc21 kV21 dc21 pm21 cd21 ct21 oc22 kV22 dc22 pm22 cd22 ct22 oc23 kV23 dc23 pm23 cd23 ct23 oc24 kV24 dc24 pm24 cd24 ct24 oc25 kV25 dc25 pm25 cd25 ct25 oc26 kV26 dc26 pm26 cd26 ct26 oc27 kV27 dc27 pm27 cd27 ct27 oc28 kV28 dc28 pm28 cd28 ct28 oc29 kV29 dc29 pm29 cd29 ct29 : Value}
    {t_DIGITS : Tok}
    {t_LETTERS : Tok}
    {tA_LOCAL : Addr} {tO_LOCAL : Option Addr} {tN_LOCAL : Nat} {tS_LOCAL : Array (Option Value)} {t_LOCAL_0 t_LOCAL_1 : Tok}
    {C0 C1 C2 C3 C4 C5 C6 C7 C8 : Addr}
    (uC0 : PySem.W.nsIn K mainGlobals "InvalidRow" = some (some (.ref C0)))
    (uC1 : PySem.W.nsIn K mainGlobals "InvalidShape" = some (some (.ref C1)))
    (uC2 : PySem.W.nsIn K mainGlobals "InvalidCells" = some (some (.ref C2)))
    (uC3 : PySem.W.nsIn K mainGlobals "InvalidText" = some (some (.ref C3)))
    (uC4 : PySem.W.nsIn K mainGlobals "InvalidLine" = some (some (.ref C4)))
    (uC5 : PySem.W.nsIn K mainGlobals "UnknownThread" = some (some (.ref C5)))
    (uC6 : PySem.W.nsIn K mainGlobals "ElderError" = some (some (.ref C6)))
    (uC7 : PySem.W.nsIn K mainGlobals "Program" = some (some (.ref C7)))
    (uC8 : PySem.W.nsIn K mainGlobals "Thread" = some (some (.ref C8)))
    (a0 : PySem.W.nsIn K mainGlobals "_law_pool" = some (some (.ref f0)))
    (l0 : K.lookup f0 = some ⟨oc0, od0, .func (PySem.W.fnOf "_law_pool" "_law_pool" (defArgs s_law_pool) (defBody s_law_pool) (defScope s_law_pool) .none kV0 dc0 pm0 an0 cd0 ct0), sl0⟩)
    (c0 : PySem.W.codeIn K cd0 "_law_pool" = true)
    (k0 : PySem.W.keepIn K (.ref f0) = true)
    (a1 : PySem.W.nsIn K mainGlobals "_law_draw" = some (some (.ref f1)))
    (l1 : K.lookup f1 = some ⟨oc1, od1, .func (PySem.W.fnOf "_law_draw" "_law_draw" (defArgs s_law_draw) (defBody s_law_draw) (defScope s_law_draw) .none kV1 dc1 pm1 an1 cd1 ct1), sl1⟩)
    (c1 : PySem.W.codeIn K cd1 "_law_draw" = true)
    (k1 : PySem.W.keepIn K (.ref f1) = true)
    (a2 : PySem.W.nsIn K mainGlobals "_law_word" = some (some (.ref f2)))
    (l2 : K.lookup f2 = some ⟨oc2, od2, .func (PySem.W.fnOf "_law_word" "_law_word" (defArgs s_law_word) (defBody s_law_word) (defScope s_law_word) .none kV2 dc2 pm2 an2 cd2 ct2), sl2⟩)
    (c2 : PySem.W.codeIn K cd2 "_law_word" = true)
    (k2 : PySem.W.keepIn K (.ref f2) = true)
    (a3 : PySem.W.nsIn K mainGlobals "_law_distinct" = some (some (.ref f3)))
    (l3 : K.lookup f3 = some ⟨oc3, od3, .func (PySem.W.fnOf "_law_distinct" "_law_distinct" (defArgs s_law_distinct) (defBody s_law_distinct) (defScope s_law_distinct) .none kV3 dc3 pm3 an3 cd3 ct3), sl3⟩)
    (c3 : PySem.W.codeIn K cd3 "_law_distinct" = true)
    (k3 : PySem.W.keepIn K (.ref f3) = true)
    (a4 : PySem.W.nsIn K mainGlobals "_law_sizes" = some (some (.ref f4)))
    (l4 : K.lookup f4 = some ⟨oc4, od4, .func (PySem.W.fnOf "_law_sizes" "_law_sizes" (defArgs s_law_sizes) (defBody s_law_sizes) (defScope s_law_sizes) .none kV4 dc4 pm4 an4 cd4 ct4), sl4⟩)
    (c4 : PySem.W.codeIn K cd4 "_law_sizes" = true)
    (k4 : PySem.W.keepIn K (.ref f4) = true)
    (a5 : PySem.W.nsIn K mainGlobals "_law_value" = some (some (.ref f5)))
    (l5 : K.lookup f5 = some ⟨oc5, od5, .func (PySem.W.fnOf "_law_value" "_law_value" (defArgs s_law_value) (defBody s_law_value) (defScope s_law_value) .none kV5 dc5 pm5 an5 cd5 ct5), sl5⟩)
    (c5 : PySem.W.codeIn K cd5 "_law_value" = true)
    (k5 : PySem.W.keepIn K (.ref f5) = true)
    (a6 : PySem.W.nsIn K mainGlobals "_law_row" = some (some (.ref f6)))
    (l6 : K.lookup f6 = some ⟨oc6, od6, .func (PySem.W.fnOf "_law_row" "_law_row" (defArgs s_law_row) (defBody s_law_row) (defScope s_law_row) .none kV6 dc6 pm6 an6 cd6 ct6), sl6⟩)
    (c6 : PySem.W.codeIn K cd6 "_law_row" = true)
    (k6 : PySem.W.keepIn K (.ref f6) = true)
    (a7 : PySem.W.nsIn K mainGlobals "_law_threads" = some (some (.ref f7)))
    (l7 : K.lookup f7 = some ⟨oc7, od7, .func (PySem.W.fnOf "_law_threads" "_law_threads" (defArgs s_law_threads) (defBody s_law_threads) (defScope s_law_threads) .none kV7 dc7 pm7 an7 cd7 ct7), sl7⟩)
    (c7 : PySem.W.codeIn K cd7 "_law_threads" = true)
    (k7 : PySem.W.keepIn K (.ref f7) = true)
    (a8 : PySem.W.nsIn K mainGlobals "_law_text" = some (some (.ref f8)))
    (l8 : K.lookup f8 = some ⟨oc8, od8, .func (PySem.W.fnOf "_law_text" "_law_text" (defArgs s_law_text) (defBody s_law_text) (defScope s_law_text) .none kV8 dc8 pm8 an8 cd8 ct8), sl8⟩)
    (c8 : PySem.W.codeIn K cd8 "_law_text" = true)
    (k8 : PySem.W.keepIn K (.ref f8) = true)
    (a9 : PySem.W.nsIn K mainGlobals "is_name" = some (some (.ref f9)))
    (l9 : K.lookup f9 = some ⟨oc9, od9, .func (PySem.W.fnOf "is_name" "is_name" (defArgs s_is_name) (defBody s_is_name) (defScope s_is_name) .none kV9 dc9 pm9 an9 cd9 ct9), sl9⟩)
    (c9 : PySem.W.codeIn K cd9 "is_name" = true)
    (k9 : PySem.W.keepIn K (.ref f9) = true)
    (a10 : PySem.W.nsIn K mainGlobals "is_number" = some (some (.ref f10)))
    (l10 : K.lookup f10 = some ⟨oc10, od10, .func (PySem.W.fnOf "is_number" "is_number" (defArgs s_is_number) (defBody s_is_number) (defScope s_is_number) .none kV10 dc10 pm10 an10 cd10 ct10), sl10⟩)
    (c10 : PySem.W.codeIn K cd10 "is_number" = true)
    (k10 : PySem.W.keepIn K (.ref f10) = true)
    (a11 : PySem.W.findIn K (.ref C7) "_is_row" = some (some (.ref f11)))
    (l11 : K.lookup f11 = some ⟨oc11, od11, .func (PySem.W.fnOf "_is_row" "Program._is_row" (defArgs s_Program_is_row) (defBody s_Program_is_row) (defScope s_Program_is_row) .none kV11 dc11 pm11 an11 cd11 ct11), sl11⟩)
    (c11 : PySem.W.codeIn K cd11 "Program._is_row" = true)
    (k11 : PySem.W.keepIn K (.ref f11) = true)
    (a12 : PySem.W.findIn K (.ref C7) "__init__" = some (some (.ref f12)))
    (l12 : K.lookup f12 = some ⟨oc12, od12, .func (PySem.W.fnOf "__init__" "Program.__init__" (defArgs s_Program__init_) (defBody s_Program__init_) (defScope s_Program__init_) .none kV12 dc12 pm12 an12 cd12 ct12), sl12⟩)
    (c12 : PySem.W.codeIn K cd12 "Program.__init__" = true)
    (k12 : PySem.W.keepIn K (.ref f12) = true)
    {pq13 : Addr} {rs13 : List Value}
    (pa13 : PySem.W.findCls K (.ref C7) (.type "type") "of" = some (.get (.builtin "classmethod.__get__") (.ref pq13) .none (.ref C7)))
    (a13 : PySem.W.recIn K pq13 "classmethod" = some (.ref f13 :: rs13))
    (pf13 : PySem.W.fnIn K f13 = true)
    (l13 : K.lookup f13 = some ⟨oc13, od13, .func (PySem.W.fnOf "of" "Program.of" (defArgs s_Program_of) (defBody s_Program_of) (defScope s_Program_of) .none kV13 dc13 pm13 an13 cd13 ct13), sl13⟩)
    (c13 : PySem.W.codeIn K cd13 "Program.of" = true)
    (k13 : PySem.W.keepIn K (.ref f13) = true)
    (a14 : PySem.W.nsIn K mainGlobals "_law_of" = some (some (.ref f14)))
    (l14 : K.lookup f14 = some ⟨oc14, od14, .func (PySem.W.fnOf "_law_of" "_law_of" (defArgs s_law_of) (defBody s_law_of) (defScope s_law_of) .none kV14 dc14 pm14 an14 cd14 ct14), sl14⟩)
    (c14 : PySem.W.codeIn K cd14 "_law_of" = true)
    (k14 : PySem.W.keepIn K (.ref f14) = true)
    (a15 : PySem.W.nsIn K mainGlobals "_law_same" = some (some (.ref f15)))
    (l15 : K.lookup f15 = some ⟨oc15, od15, .func (PySem.W.fnOf "_law_same" "_law_same" (defArgs s_law_same) (defBody s_law_same) (defScope s_law_same) .none kV15 dc15 pm15 an15 cd15 ct15), sl15⟩)
    (c15 : PySem.W.codeIn K cd15 "_law_same" = true)
    (k15 : PySem.W.keepIn K (.ref f15) = true)
    (a16 : PySem.W.nsIn K mainGlobals "is_value" = some (some (.ref f16)))
    (l16 : K.lookup f16 = some ⟨oc16, od16, .func (PySem.W.fnOf "is_value" "is_value" (defArgs s_is_value) (defBody s_is_value) (defScope s_is_value) .none kV16 dc16 pm16 an16 cd16 ct16), sl16⟩)
    (c16 : PySem.W.codeIn K cd16 "is_value" = true)
    (k16 : PySem.W.keepIn K (.ref f16) = true)
    (a17 : PySem.W.nsIn K mainGlobals "is_target" = some (some (.ref f17)))
    (l17 : K.lookup f17 = some ⟨oc17, od17, .func (PySem.W.fnOf "is_target" "is_target" (defArgs s_is_target) (defBody s_is_target) (defScope s_is_target) .none kV17 dc17 pm17 an17 cd17 ct17), sl17⟩)
    (c17 : PySem.W.codeIn K cd17 "is_target" = true)
    (k17 : PySem.W.keepIn K (.ref f17) = true)
    (a18 : PySem.W.nsIn K mainGlobals "parse_row" = some (some (.ref f18)))
    (l18 : K.lookup f18 = some ⟨oc18, od18, .func (PySem.W.fnOf "parse_row" "parse_row" (defArgs s_parse_row) (defBody s_parse_row) (defScope s_parse_row) .none kV18 dc18 pm18 an18 cd18 ct18), sl18⟩)
    (c18 : PySem.W.codeIn K cd18 "parse_row" = true)
    (k18 : PySem.W.keepIn K (.ref f18) = true)
    {pq19 : Addr} {rs19 : List Value}
    (pa19 : PySem.W.findCls K (.ref C7) (.type "type") "read" = some (.get (.builtin "classmethod.__get__") (.ref pq19) .none (.ref C7)))
    (a19 : PySem.W.recIn K pq19 "classmethod" = some (.ref f19 :: rs19))
    (pf19 : PySem.W.fnIn K f19 = true)
    (l19 : K.lookup f19 = some ⟨oc19, od19, .func (PySem.W.fnOf "read" "Program.read" (defArgs s_Program_read) (defBody s_Program_read) (defScope s_Program_read) .none kV19 dc19 pm19 an19 cd19 ct19), sl19⟩)
    (c19 : PySem.W.codeIn K cd19 "Program.read" = true)
    (k19 : PySem.W.keepIn K (.ref f19) = true)
    (a20 : PySem.W.findIn K (.ref C7) "rows_of" = some (some (.ref f20)))
    (l20 : K.lookup f20 = some ⟨oc20, od20, .func (PySem.W.fnOf "rows_of" "Program.rows_of" (defArgs s_Program_rows_of) (defBody s_Program_rows_of) (defScope s_Program_rows_of) .none kV20 dc20 pm20 an20 cd20 ct20), sl20⟩)
    (c20 : PySem.W.codeIn K cd20 "Program.rows_of" = true)
    (k20 : PySem.W.keepIn K (.ref f20) = true)
    (a21 : PySem.W.findIn K (.ref C7) "__len__" = some (some (.ref f21)))
    (l21 : K.lookup f21 = some ⟨oc21, od21, .func (PySem.W.fnOf "__len__" "Program.__len__" (defArgs s_Program__len_) (defBody s_Program__len_) (defScope s_Program__len_) .none kV21 dc21 pm21 an21 cd21 ct21), sl21⟩)
    (c21 : PySem.W.codeIn K cd21 "Program.__len__" = true)
    (k21 : PySem.W.keepIn K (.ref f21) = true)
    (a22 : PySem.W.nsIn K mainGlobals "format_row" = some (some (.ref f22)))
    (l22 : K.lookup f22 = some ⟨oc22, od22, .func (PySem.W.fnOf "format_row" "format_row" (defArgs s_format_row) (defBody s_format_row) (defScope s_format_row) .none kV22 dc22 pm22 an22 cd22 ct22), sl22⟩)
    (c22 : PySem.W.codeIn K cd22 "format_row" = true)
    (k22 : PySem.W.keepIn K (.ref f22) = true)
    (a23 : PySem.W.findIn K (.ref C7) "text" = some (some (.ref f23)))
    (l23 : K.lookup f23 = some ⟨oc23, od23, .func (PySem.W.fnOf "text" "Program.text" (defArgs s_Program_text) (defBody s_Program_text) (defScope s_Program_text) .none kV23 dc23 pm23 an23 cd23 ct23), sl23⟩)
    (c23 : PySem.W.codeIn K cd23 "Program.text" = true)
    (k23 : PySem.W.keepIn K (.ref f23) = true)
    (a24 : PySem.W.nsIn K mainGlobals "_law_holds" = some (some (.ref f24)))
    (l24 : K.lookup f24 = some ⟨oc24, od24, .func (PySem.W.fnOf "_law_holds" "_law_holds" (defArgs s_law_holds) (defBody s_law_holds) (defScope s_law_holds) .none kV24 dc24 pm24 an24 cd24 ct24), sl24⟩)
    (c24 : PySem.W.codeIn K cd24 "_law_holds" = true)
    (k24 : PySem.W.keepIn K (.ref f24) = true)
    (a25 : PySem.W.nsIn K mainGlobals "settle" = some (some (.ref f25)))
    (l25 : K.lookup f25 = some ⟨oc25, od25, .func (PySem.W.fnOf "settle" "settle" (defArgs s_settle) (defBody s_settle) (defScope s_settle) .none kV25 dc25 pm25 an25 cd25 ct25), sl25⟩)
    (c25 : PySem.W.codeIn K cd25 "settle" = true)
    (k25 : PySem.W.keepIn K (.ref f25) = true)
    (a26 : PySem.W.findIn K (.ref C8) "__init__" = some (some (.ref f26)))
    (l26 : K.lookup f26 = some ⟨oc26, od26, .func (PySem.W.fnOf "__init__" "Thread.__init__" (defArgs s_Thread__init_) (defBody s_Thread__init_) (defScope s_Thread__init_) .none kV26 dc26 pm26 an26 cd26 ct26), sl26⟩)
    (c26 : PySem.W.codeIn K cd26 "Thread.__init__" = true)
    (k26 : PySem.W.keepIn K (.ref f26) = true)
    (a27 : PySem.W.findIn K (.ref C7) "thread_at" = some (some (.ref f27)))
    (l27 : K.lookup f27 = some ⟨oc27, od27, .func (PySem.W.fnOf "thread_at" "Program.thread_at" (defArgs s_Program_thread_at) (defBody s_Program_thread_at) (defScope s_Program_thread_at) .none kV27 dc27 pm27 an27 cd27 ct27), sl27⟩)
    (c27 : PySem.W.codeIn K cd27 "Program.thread_at" = true)
    (k27 : PySem.W.keepIn K (.ref f27) = true)
    (a28 : PySem.W.nsIn K mainGlobals "_law_unknown" = some (some (.ref f28)))
    (l28 : K.lookup f28 = some ⟨oc28, od28, .func (PySem.W.fnOf "_law_unknown" "_law_unknown" (defArgs s_law_unknown) (defBody s_law_unknown) (defScope s_law_unknown) .none kV28 dc28 pm28 an28 cd28 ct28), sl28⟩)
    (c28 : PySem.W.codeIn K cd28 "_law_unknown" = true)
    (k28 : PySem.W.keepIn K (.ref f28) = true)
    (a29 : PySem.W.nsIn K mainGlobals "law" = some (some (.ref f29)))
    (l29 : K.lookup f29 = some ⟨oc29, od29, .func (PySem.W.fnOf "law" "law" (defArgs s_law) (defBody s_law) (defScope s_law) .none kV29 dc29 pm29 an29 cd29 ct29), sl29⟩)
    (c29 : PySem.W.codeIn K cd29 "law" = true)
    (k29 : PySem.W.keepIn K (.ref f29) = true)
    (z_abs : PySem.W.nsIn K mainGlobals "abs" = some none)
    (z_all : PySem.W.nsIn K mainGlobals "all" = some none)
    (z_bool : PySem.W.nsIn K mainGlobals "bool" = some none)
    (z_enumerate : PySem.W.nsIn K mainGlobals "enumerate" = some none)
    (z_int : PySem.W.nsIn K mainGlobals "int" = some none)
    (z_isinstance : PySem.W.nsIn K mainGlobals "isinstance" = some none)
    (z_len : PySem.W.nsIn K mainGlobals "len" = some none)
    (z_list : PySem.W.nsIn K mainGlobals "list" = some none)
    (z_range : PySem.W.nsIn K mainGlobals "range" = some none)
    (z_set : PySem.W.nsIn K mainGlobals "set" = some none)
    (z_str : PySem.W.nsIn K mainGlobals "str" = some none)
    (z_sum : PySem.W.nsIn K mainGlobals "sum" = some none)
    (z_tuple : PySem.W.nsIn K mainGlobals "tuple" = some none)
    (y_DIGITS : PySem.W.nsIn K mainGlobals "DIGITS" = some (some (.str "0123456789" t_DIGITS)))
    (y_LETTERS : PySem.W.nsIn K mainGlobals "LETTERS" = some (some (.str "abcdefghijklmnopqrstuvwxyz" t_LETTERS)))
    (y_LOCAL : PySem.W.nsIn K mainGlobals "LOCAL" = some (some (.ref tA_LOCAL)))
    (yl_LOCAL : K.lookup tA_LOCAL = some ⟨.type "tuple", tO_LOCAL, .seq #[.str "test" t_LOCAL_0, .str "jump" t_LOCAL_1] tN_LOCAL, tS_LOCAL⟩)
    (tC0 : PySem.W.typeIn K (.ref C0) = some (.type "type"))
    (lC0 : PySem.W.isClsIn K C0 = true)
    (pp0 : PySem.W.subIn K (.ref C0) (.ref C0) = some true)
    (bC0 : PySem.W.subIn K (.ref C0) (.type "BaseException") = some true)
    (tC1 : PySem.W.typeIn K (.ref C1) = some (.type "type"))
    (lC1 : PySem.W.isClsIn K C1 = true)
    (pp1 : PySem.W.subIn K (.ref C1) (.ref C1) = some true)
    (bC1 : PySem.W.subIn K (.ref C1) (.type "BaseException") = some true)
    (tC2 : PySem.W.typeIn K (.ref C2) = some (.type "type"))
    (lC2 : PySem.W.isClsIn K C2 = true)
    (pp2 : PySem.W.subIn K (.ref C2) (.ref C2) = some true)
    (bC2 : PySem.W.subIn K (.ref C2) (.type "BaseException") = some true)
    (tC3 : PySem.W.typeIn K (.ref C3) = some (.type "type"))
    (lC3 : PySem.W.isClsIn K C3 = true)
    (pp3 : PySem.W.subIn K (.ref C3) (.ref C3) = some true)
    (bC3 : PySem.W.subIn K (.ref C3) (.type "BaseException") = some true)
    (tC4 : PySem.W.typeIn K (.ref C4) = some (.type "type"))
    (lC4 : PySem.W.isClsIn K C4 = true)
    (pp4 : PySem.W.subIn K (.ref C4) (.ref C4) = some true)
    (bC4 : PySem.W.subIn K (.ref C4) (.type "BaseException") = some true)
    (tC5 : PySem.W.typeIn K (.ref C5) = some (.type "type"))
    (lC5 : PySem.W.isClsIn K C5 = true)
    (pp5 : PySem.W.subIn K (.ref C5) (.ref C5) = some true)
    (bC5 : PySem.W.subIn K (.ref C5) (.type "BaseException") = some true)
    (tC6 : PySem.W.typeIn K (.ref C6) = some (.type "type"))
    (lC6 : PySem.W.isClsIn K C6 = true)
    (pp6 : PySem.W.subIn K (.ref C6) (.ref C6) = some true)
    (bC6 : PySem.W.subIn K (.ref C6) (.type "BaseException") = some true)
    (kC0 : PySem.W.keepIn K (.ref C0) = true)
    (gaC0 : PySem.W.findIn K (.ref C0) "__getattribute__" = some (some (.builtin "BaseException.__getattribute__")))
    (ggC0 : PySem.W.findIn K (.ref C0) "__getattr__" = some none)
    (hdC0 : PySem.W.hasDictIn K C0 = true)
    (caC0 : PySem.W.findIn K (.ref C0) "__class__" = some (some (.builtin "object.__class__")))
    (hmC0 : PySem.W.mroIn K C0 (.type "object") = some true)
    (p0_3 : PySem.W.subIn K (.ref C0) (.ref C3) = some false)
    (p0_5 : PySem.W.subIn K (.ref C0) (.ref C5) = some false)
    (nf0_line : PySem.W.findIn K (.ref C0) "line" = some none)
    (nf0_row : PySem.W.findIn K (.ref C0) "row" = some none)
    (nf0_thread : PySem.W.findIn K (.ref C0) "thread" = some none)
    (qC1 : PySem.W.excIn K C1 veBm "ValueError.__new__" = true)
    (kC1 : PySem.W.keepIn K (.ref C1) = true)
    (gaC1 : PySem.W.findIn K (.ref C1) "__getattribute__" = some (some (.builtin "BaseException.__getattribute__")))
    (ggC1 : PySem.W.findIn K (.ref C1) "__getattr__" = some none)
    (hdC1 : PySem.W.hasDictIn K C1 = true)
    (caC1 : PySem.W.findIn K (.ref C1) "__class__" = some (some (.builtin "object.__class__")))
    (hmC1 : PySem.W.mroIn K C1 (.type "object") = some true)
    (p1_3 : PySem.W.subIn K (.ref C1) (.ref C3) = some false)
    (p1_5 : PySem.W.subIn K (.ref C1) (.ref C5) = some false)
    (nf1_line : PySem.W.findIn K (.ref C1) "line" = some none)
    (nf1_row : PySem.W.findIn K (.ref C1) "row" = some none)
    (nf1_thread : PySem.W.findIn K (.ref C1) "thread" = some none)
    (qC2 : PySem.W.excIn K C2 veBm "ValueError.__new__" = true)
    (kC2 : PySem.W.keepIn K (.ref C2) = true)
    (gaC2 : PySem.W.findIn K (.ref C2) "__getattribute__" = some (some (.builtin "BaseException.__getattribute__")))
    (ggC2 : PySem.W.findIn K (.ref C2) "__getattr__" = some none)
    (hdC2 : PySem.W.hasDictIn K C2 = true)
    (caC2 : PySem.W.findIn K (.ref C2) "__class__" = some (some (.builtin "object.__class__")))
    (hmC2 : PySem.W.mroIn K C2 (.type "object") = some true)
    (p2_3 : PySem.W.subIn K (.ref C2) (.ref C3) = some false)
    (p2_5 : PySem.W.subIn K (.ref C2) (.ref C5) = some false)
    (nf2_line : PySem.W.findIn K (.ref C2) "line" = some none)
    (nf2_row : PySem.W.findIn K (.ref C2) "row" = some none)
    (nf2_thread : PySem.W.findIn K (.ref C2) "thread" = some none)
    (qC3 : PySem.W.excIn K C3 veBm "ValueError.__new__" = true)
    (kC3 : PySem.W.keepIn K (.ref C3) = true)
    (gaC3 : PySem.W.findIn K (.ref C3) "__getattribute__" = some (some (.builtin "BaseException.__getattribute__")))
    (ggC3 : PySem.W.findIn K (.ref C3) "__getattr__" = some none)
    (hdC3 : PySem.W.hasDictIn K C3 = true)
    (caC3 : PySem.W.findIn K (.ref C3) "__class__" = some (some (.builtin "object.__class__")))
    (hmC3 : PySem.W.mroIn K C3 (.type "object") = some true)
    (p3_3 : PySem.W.subIn K (.ref C3) (.ref C3) = some true)
    (p3_5 : PySem.W.subIn K (.ref C3) (.ref C5) = some false)
    (nf3_line : PySem.W.findIn K (.ref C3) "line" = some none)
    (nf3_row : PySem.W.findIn K (.ref C3) "row" = some none)
    (nf3_thread : PySem.W.findIn K (.ref C3) "thread" = some none)
    (kC4 : PySem.W.keepIn K (.ref C4) = true)
    (gaC4 : PySem.W.findIn K (.ref C4) "__getattribute__" = some (some (.builtin "BaseException.__getattribute__")))
    (ggC4 : PySem.W.findIn K (.ref C4) "__getattr__" = some none)
    (hdC4 : PySem.W.hasDictIn K C4 = true)
    (caC4 : PySem.W.findIn K (.ref C4) "__class__" = some (some (.builtin "object.__class__")))
    (hmC4 : PySem.W.mroIn K C4 (.type "object") = some true)
    (p4_3 : PySem.W.subIn K (.ref C4) (.ref C3) = some false)
    (p4_5 : PySem.W.subIn K (.ref C4) (.ref C5) = some false)
    (nf4_line : PySem.W.findIn K (.ref C4) "line" = some none)
    (nf4_row : PySem.W.findIn K (.ref C4) "row" = some none)
    (nf4_thread : PySem.W.findIn K (.ref C4) "thread" = some none)
    (kC5 : PySem.W.keepIn K (.ref C5) = true)
    (gaC5 : PySem.W.findIn K (.ref C5) "__getattribute__" = some (some (.builtin "BaseException.__getattribute__")))
    (ggC5 : PySem.W.findIn K (.ref C5) "__getattr__" = some none)
    (hdC5 : PySem.W.hasDictIn K C5 = true)
    (caC5 : PySem.W.findIn K (.ref C5) "__class__" = some (some (.builtin "object.__class__")))
    (hmC5 : PySem.W.mroIn K C5 (.type "object") = some true)
    (p5_3 : PySem.W.subIn K (.ref C5) (.ref C3) = some false)
    (p5_5 : PySem.W.subIn K (.ref C5) (.ref C5) = some true)
    (nf5_line : PySem.W.findIn K (.ref C5) "line" = some none)
    (nf5_row : PySem.W.findIn K (.ref C5) "row" = some none)
    (nf5_thread : PySem.W.findIn K (.ref C5) "thread" = some none)
    (snC : PySem.W.specialIn K (.builtin "object.__class__") "__get__" = some (some (.builtin "getset_descriptor.__get__")))
    (htC : PySem.W.takesIn K (.builtin "object.__class__") = some true)
    {nm0 q0 : Str} {NN0 : Addr} {bs0 : List Value} {sn0 : List Str} {sb0 : List Value} {ab0 : Bool} {col0 : Option Bool} {dd0 : Option Addr} {u00 u10 u20 u30 u50 : Option Value}
    (xl0 : K.lookup C0 = some (PySem.excClassObj nm0 q0 C0 NN0 bs0 [.ref C6, .type "ValueError", .type "Exception", .type "BaseException", .type "object"] true sn0 sb0 ab0 col0 dd0 u00 u10 u20 u30 u50 "ValueError.__new__"))
    (sa0 : PySem.W.findIn K (.ref C0) "__setattr__" = some (some (.builtin "object.__setattr__")))
    {fx0 cda0 cc0 : Addr} {oc0x kV0x dc0x pm0x ct0x cl0x ocb0x : Value} {od0x an0x cld0x odb0x : Option Addr} {sl0x csl0x slb0x : Array (Option Value)} {vs0x : Array Value} {fl0x : Str} {tf0x : Tok}
    (iC0 : PySem.W.findIn K (.ref C0) "__init__" = some (some (.ref fx0)))
    (tI0 : PySem.W.typeIn K (.ref fx0) = some (.type "function"))
    (mr0 : PySem.W.mroIn K C0 (.ref C0) = some true)
    (sup0 : PySem.W.ks_superIn K C0 C0 "__init__" = some (some (.builtin "ValueError.__init__")))
    (vE0 : PySem.W.subIn K (.ref C0) (.type "ValueError") = some true)
    (lx0 : K.lookup fx0 = some ⟨oc0x, od0x, .func (PySem.W.fnX "__init__" "InvalidRow.__init__" (defArgs s_InvalidRow__init_) (defBody s_InvalidRow__init_) (defScope s_InvalidRow__init_) [("__class__", cc0)] .none kV0x dc0x pm0x an0x (.ref cda0) ct0x), sl0x⟩)
    (cx0 : PySem.W.codeIn K (.ref cda0) "InvalidRow.__init__" = true)
    (lc0 : K.lookup cc0 = some ⟨cl0x, cld0x, .cell (some (.ref C0)), csl0x⟩)
    (ld0 : K.lookup cda0 = some ⟨ocb0x, odb0x, .fields vs0x, slb0x⟩)
    (vs0 : vs0x[2]? = some (.str fl0x tf0x))
    (fe0 : ((PySem.Challenge.rw_elderreads_k03_whole_program_texts.prog.main.file : Str) == fl0x) = true)
    {nm4 q4 : Str} {NN4 : Addr} {bs4 : List Value} {sn4 : List Str} {sb4 : List Value} {ab4 : Bool} {col4 : Option Bool} {dd4 : Option Addr} {u04 u14 u24 u34 u54 : Option Value}
    (xl4 : K.lookup C4 = some (PySem.excClassObj nm4 q4 C4 NN4 bs4 [.ref C6, .type "ValueError", .type "Exception", .type "BaseException", .type "object"] true sn4 sb4 ab4 col4 dd4 u04 u14 u24 u34 u54 "ValueError.__new__"))
    (sa4 : PySem.W.findIn K (.ref C4) "__setattr__" = some (some (.builtin "object.__setattr__")))
    {fx4 cda4 cc4 : Addr} {oc4x kV4x dc4x pm4x ct4x cl4x ocb4x : Value} {od4x an4x cld4x odb4x : Option Addr} {sl4x csl4x slb4x : Array (Option Value)} {vs4x : Array Value} {fl4x : Str} {tf4x : Tok}
    (iC4 : PySem.W.findIn K (.ref C4) "__init__" = some (some (.ref fx4)))
    (tI4 : PySem.W.typeIn K (.ref fx4) = some (.type "function"))
    (mr4 : PySem.W.mroIn K C4 (.ref C4) = some true)
    (sup4 : PySem.W.ks_superIn K C4 C4 "__init__" = some (some (.builtin "ValueError.__init__")))
    (vE4 : PySem.W.subIn K (.ref C4) (.type "ValueError") = some true)
    (lx4 : K.lookup fx4 = some ⟨oc4x, od4x, .func (PySem.W.fnX "__init__" "InvalidLine.__init__" (defArgs s_InvalidLine__init_) (defBody s_InvalidLine__init_) (defScope s_InvalidLine__init_) [("__class__", cc4)] .none kV4x dc4x pm4x an4x (.ref cda4) ct4x), sl4x⟩)
    (cx4 : PySem.W.codeIn K (.ref cda4) "InvalidLine.__init__" = true)
    (lc4 : K.lookup cc4 = some ⟨cl4x, cld4x, .cell (some (.ref C4)), csl4x⟩)
    (ld4 : K.lookup cda4 = some ⟨ocb4x, odb4x, .fields vs4x, slb4x⟩)
    (vs4 : vs4x[2]? = some (.str fl4x tf4x))
    (fe4 : ((PySem.Challenge.rw_elderreads_k03_whole_program_texts.prog.main.file : Str) == fl4x) = true)
    {nm5 q5 : Str} {NN5 : Addr} {bs5 : List Value} {sn5 : List Str} {sb5 : List Value} {ab5 : Bool} {col5 : Option Bool} {dd5 : Option Addr} {u05 u15 u25 u35 u55 : Option Value}
    (xl5 : K.lookup C5 = some (PySem.excClassObj nm5 q5 C5 NN5 bs5 [.ref C6, .type "ValueError", .type "Exception", .type "BaseException", .type "object"] true sn5 sb5 ab5 col5 dd5 u05 u15 u25 u35 u55 "ValueError.__new__"))
    (sa5 : PySem.W.findIn K (.ref C5) "__setattr__" = some (some (.builtin "object.__setattr__")))
    {fx5 cda5 cc5 : Addr} {oc5x kV5x dc5x pm5x ct5x cl5x ocb5x : Value} {od5x an5x cld5x odb5x : Option Addr} {sl5x csl5x slb5x : Array (Option Value)} {vs5x : Array Value} {fl5x : Str} {tf5x : Tok}
    (iC5 : PySem.W.findIn K (.ref C5) "__init__" = some (some (.ref fx5)))
    (tI5 : PySem.W.typeIn K (.ref fx5) = some (.type "function"))
    (mr5 : PySem.W.mroIn K C5 (.ref C5) = some true)
    (sup5 : PySem.W.ks_superIn K C5 C5 "__init__" = some (some (.builtin "ValueError.__init__")))
    (vE5 : PySem.W.subIn K (.ref C5) (.type "ValueError") = some true)
    (lx5 : K.lookup fx5 = some ⟨oc5x, od5x, .func (PySem.W.fnX "__init__" "UnknownThread.__init__" (defArgs s_UnknownThread__init_) (defBody s_UnknownThread__init_) (defScope s_UnknownThread__init_) [("__class__", cc5)] .none kV5x dc5x pm5x an5x (.ref cda5) ct5x), sl5x⟩)
    (cx5 : PySem.W.codeIn K (.ref cda5) "UnknownThread.__init__" = true)
    (lc5 : K.lookup cc5 = some ⟨cl5x, cld5x, .cell (some (.ref C5)), csl5x⟩)
    (ld5 : K.lookup cda5 = some ⟨ocb5x, odb5x, .fields vs5x, slb5x⟩)
    (vs5 : vs5x[2]? = some (.str fl5x tf5x))
    (fe5 : ((PySem.Challenge.rw_elderreads_k03_whole_program_texts.prog.main.file : Str) == fl5x) = true)
    (tpC : PySem.W.nsIn K cStatics "thirdparty.any" = some none)
    (z_super : PySem.W.nsIn K mainGlobals "super" = some none)
    (topC : (PySem.Challenge.rw_elderreads_k03_whole_program_texts.prog.main.scope.names.lookup ("super" : Str)).isSome = false)
    (pg7 : PySem.W.plainGet K C7 Str.empty = true)
    (hd7 : PySem.W.hasDictIn K C7 = true)
    (po7 : PySem.W.plainOver K C7 = true)
    (sb7 : PySem.W.findIn K (.ref C7) "__setattr__" = some (some (.builtin "object.__setattr__")))
    (nsq7 : PySem.W.noSeq K C7 = true)
    (pg8 : PySem.W.plainGet K C8 Str.empty = true)
    (hd8 : PySem.W.hasDictIn K C8 = true)
    (po8 : PySem.W.plainOver K C8 = true)
    (sb8 : PySem.W.findIn K (.ref C8) "__setattr__" = some (some (.builtin "object.__setattr__")))
    (nsq8 : PySem.W.noSeq K C8 = true)
    (mk7 : PySem.W.makesIn K C7 = true)
    (kp7 : PySem.W.keepIn K (.ref C7) = true)
    (mk8 : PySem.W.makesIn K C8 = true)
    (kp8 : PySem.W.keepIn K (.ref C8) = true)
    (rg7 : PySem.W.readsIn K C7 (.type "type") = true)
    (gg7 : PySem.W.specialIn K (.ref C7) "__getattribute__" = some (some (.builtin "type.__getattribute__")))
    (if11 : PySem.W.isFn K (.ref f11) = true)
    (fi11 : PySem.W.fnIn K f11 = true)
    (if20 : PySem.W.isFn K (.ref f20) = true)
    (fi20 : PySem.W.fnIn K f20 = true)
    (if21 : PySem.W.isFn K (.ref f21) = true)
    (fi21 : PySem.W.fnIn K f21 = true)
    (if23 : PySem.W.isFn K (.ref f23) = true)
    (fi23 : PySem.W.fnIn K f23 = true)
    (if27 : PySem.W.isFn K (.ref f27) = true)
    (fi27 : PySem.W.fnIn K f27 = true)
    (if12 : PySem.W.isFn K (.ref f12) = true)
    (fi12 : PySem.W.fnIn K f12 = true)
    (if26 : PySem.W.isFn K (.ref f26) = true)
    (fi26 : PySem.W.fnIn K f26 = true)
    (no7_cells : PySem.W.findIn K (.ref C7) "cells" = some none)
    (no7__threads : PySem.W.findIn K (.ref C7) "_threads" = some none)
    (no8_row : PySem.W.findIn K (.ref C8) "row" = some none)
    (no8__rows : PySem.W.findIn K (.ref C8) "_rows" = some none)
    (no8_held : PySem.W.findIn K (.ref C8) "held" = some none)
    {tk7_MOST_THREADS : Tok}
    (co7_MOST_THREADS : PySem.W.findIn K (.ref C7) "MOST_THREADS" = some (some (.int 3 tk7_MOST_THREADS)))
    (cg7_MOST_THREADS : PySem.W.specialIn K (.int 3 tk7_MOST_THREADS) "__get__" = some none)
    {tk7_MOST_ROWS : Tok}
    (co7_MOST_ROWS : PySem.W.findIn K (.ref C7) "MOST_ROWS" = some (some (.int 24 tk7_MOST_ROWS)))
    (cg7_MOST_ROWS : PySem.W.specialIn K (.int 24 tk7_MOST_ROWS) "__get__" = some none)
    {tk7_MOST_CELLS : Tok}
    (co7_MOST_CELLS : PySem.W.findIn K (.ref C7) "MOST_CELLS" = some (some (.int 3 tk7_MOST_CELLS)))
    (cg7_MOST_CELLS : PySem.W.specialIn K (.int 3 tk7_MOST_CELLS) "__get__" = some none)
    {tc7_MOST_ROWS : Tok}
    (rd7_MOST_ROWS : PySem.W.readsIn K C7 (.type "type") = true)
    (fc7_MOST_ROWS : PySem.W.findCls K (.ref C7) (.type "type") "MOST_ROWS" = some (.val (.int 24 tc7_MOST_ROWS)))
    {tc7_MOST_THREADS : Tok}
    (rd7_MOST_THREADS : PySem.W.readsIn K C7 (.type "type") = true)
    (fc7_MOST_THREADS : PySem.W.findCls K (.ref C7) (.type "type") "MOST_THREADS" = some (.val (.int 3 tc7_MOST_THREADS)))
    {tc7_MOST_CELLS : Tok}
    (rd7_MOST_CELLS : PySem.W.readsIn K C7 (.type "type") = true)
    (fc7_MOST_CELLS : PySem.W.findCls K (.ref C7) (.type "type") "MOST_CELLS" = some (.val (.int 3 tc7_MOST_CELLS)))
    : ∃ fd : FuncData, (∀ (s : Shared) (u : Value), BindsTo s fd ⟨[u], []⟩ [("_law_script", u)]) ∧ ∀ base : Heap, K.In base → base.Ns mainGlobals mg → FnOk PySem.Challenge.rw_elderreads_k03_whole_program_texts.prog w K mg base (L2.CX PySem.Challenge.rw_elderreads_k03_whole_program_texts.prog w) 11 fa fd ["_law_script"] (spA K m_law) := by
  have e := hfa.symm.trans (PySem.W.mg_of X G a29)
  cases e
  have F0 := fun_mk (st := s_law_pool) l0 c0 k0
  have F1 := fun_mk (st := s_law_draw) l1 c1 k1
  have F2 := fun_mk (st := s_law_word) l2 c2 k2
  have F3 := fun_mk (st := s_law_distinct) l3 c3 k3
  have F4 := fun_mk (st := s_law_sizes) l4 c4 k4
  have F5 := fun_mk (st := s_law_value) l5 c5 k5
  have F6 := fun_mk (st := s_law_row) l6 c6 k6
  have F7 := fun_mk (st := s_law_threads) l7 c7 k7
  have F8 := fun_mk (st := s_law_text) l8 c8 k8
  have F9 := fun_mk (st := s_is_name) l9 c9 k9
  have F10 := fun_mk (st := s_is_number) l10 c10 k10
  have F11 := fun_mk (st := s_Program_is_row) l11 c11 k11
  have F12 := fun_mk (st := s_Program__init_) l12 c12 k12
  have F14 := fun_mk (st := s_law_of) l14 c14 k14
  have F15 := fun_mk (st := s_law_same) l15 c15 k15
  have F16 := fun_mk (st := s_is_value) l16 c16 k16
  have F17 := fun_mk (st := s_is_target) l17 c17 k17
  have F18 := fun_mk (st := s_parse_row) l18 c18 k18
  have F19 := fun_mk (st := s_Program_read) l19 c19 k19
  have F20 := fun_mk (st := s_Program_rows_of) l20 c20 k20
  have F21 := fun_mk (st := s_Program__len_) l21 c21 k21
  have F22 := fun_mk (st := s_format_row) l22 c22 k22
  have F23 := fun_mk (st := s_Program_text) l23 c23 k23
  have F24 := fun_mk (st := s_law_holds) l24 c24 k24
  have F25 := fun_mk (st := s_settle) l25 c25 k25
  have F26 := fun_mk (st := s_Thread__init_) l26 c26 k26
  have F27 := fun_mk (st := s_Program_thread_at) l27 c27 k27
  have F28 := fun_mk (st := s_law_unknown) l28 c28 k28
  have F29 := fun_mk (st := s_law) l29 c29 k29
  let ad : Nat → Addr := fun n => [f0, f1, f2, f3, f4, f5, f6, f7, f8, f9, f10, f11, f12, f13, f14, f15, f16, f17, f18, f19, f20, f21, f22, f23, f24, f25, f26, f27, f28, fa, fx0, fx4, fx5].getD n 0
  let fds : Nat → FuncData := fun n => [PySem.W.fnOf "_law_pool" "_law_pool" (defArgs s_law_pool) (defBody s_law_pool) (defScope s_law_pool) .none kV0 dc0 pm0 an0 cd0 ct0, PySem.W.fnOf "_law_draw" "_law_draw" (defArgs s_law_draw) (defBody s_law_draw) (defScope s_law_draw) .none kV1 dc1 pm1 an1 cd1 ct1, PySem.W.fnOf "_law_word" "_law_word" (defArgs s_law_word) (defBody s_law_word) (defScope s_law_word) .none kV2 dc2 pm2 an2 cd2 ct2, PySem.W.fnOf "_law_distinct" "_law_distinct" (defArgs s_law_distinct) (defBody s_law_distinct) (defScope s_law_distinct) .none kV3 dc3 pm3 an3 cd3 ct3, PySem.W.fnOf "_law_sizes" "_law_sizes" (defArgs s_law_sizes) (defBody s_law_sizes) (defScope s_law_sizes) .none kV4 dc4 pm4 an4 cd4 ct4, PySem.W.fnOf "_law_value" "_law_value" (defArgs s_law_value) (defBody s_law_value) (defScope s_law_value) .none kV5 dc5 pm5 an5 cd5 ct5, PySem.W.fnOf "_law_row" "_law_row" (defArgs s_law_row) (defBody s_law_row) (defScope s_law_row) .none kV6 dc6 pm6 an6 cd6 ct6, PySem.W.fnOf "_law_threads" "_law_threads" (defArgs s_law_threads) (defBody s_law_threads) (defScope s_law_threads) .none kV7 dc7 pm7 an7 cd7 ct7, PySem.W.fnOf "_law_text" "_law_text" (defArgs s_law_text) (defBody s_law_text) (defScope s_law_text) .none kV8 dc8 pm8 an8 cd8 ct8, PySem.W.fnOf "is_name" "is_name" (defArgs s_is_name) (defBody s_is_name) (defScope s_is_name) .none kV9 dc9 pm9 an9 cd9 ct9, PySem.W.fnOf "is_number" "is_number" (defArgs s_is_number) (defBody s_is_number) (defScope s_is_number) .none kV10 dc10 pm10 an10 cd10 ct10, PySem.W.fnOf "_is_row" "Program._is_row" (defArgs s_Program_is_row) (defBody s_Program_is_row) (defScope s_Program_is_row) .none kV11 dc11 pm11 an11 cd11 ct11, PySem.W.fnOf "__init__" "Program.__init__" (defArgs s_Program__init_) (defBody s_Program__init_) (defScope s_Program__init_) .none kV12 dc12 pm12 an12 cd12 ct12, PySem.W.fnOf "of" "Program.of" (defArgs s_Program_of) (defBody s_Program_of) (defScope s_Program_of) .none kV13 dc13 pm13 an13 cd13 ct13, PySem.W.fnOf "_law_of" "_law_of" (defArgs s_law_of) (defBody s_law_of) (defScope s_law_of) .none kV14 dc14 pm14 an14 cd14 ct14, PySem.W.fnOf "_law_same" "_law_same" (defArgs s_law_same) (defBody s_law_same) (defScope s_law_same) .none kV15 dc15 pm15 an15 cd15 ct15, PySem.W.fnOf "is_value" "is_value" (defArgs s_is_value) (defBody s_is_value) (defScope s_is_value) .none kV16 dc16 pm16 an16 cd16 ct16, PySem.W.fnOf "is_target" "is_target" (defArgs s_is_target) (defBody s_is_target) (defScope s_is_target) .none kV17 dc17 pm17 an17 cd17 ct17, PySem.W.fnOf "parse_row" "parse_row" (defArgs s_parse_row) (defBody s_parse_row) (defScope s_parse_row) .none kV18 dc18 pm18 an18 cd18 ct18, PySem.W.fnOf "read" "Program.read" (defArgs s_Program_read) (defBody s_Program_read) (defScope s_Program_read) .none kV19 dc19 pm19 an19 cd19 ct19, PySem.W.fnOf "rows_of" "Program.rows_of" (defArgs s_Program_rows_of) (defBody s_Program_rows_of) (defScope s_Program_rows_of) .none kV20 dc20 pm20 an20 cd20 ct20, PySem.W.fnOf "__len__" "Program.__len__" (defArgs s_Program__len_) (defBody s_Program__len_) (defScope s_Program__len_) .none kV21 dc21 pm21 an21 cd21 ct21, PySem.W.fnOf "format_row" "format_row" (defArgs s_format_row) (defBody s_format_row) (defScope s_format_row) .none kV22 dc22 pm22 an22 cd22 ct22, PySem.W.fnOf "text" "Program.text" (defArgs s_Program_text) (defBody s_Program_text) (defScope s_Program_text) .none kV23 dc23 pm23 an23 cd23 ct23, PySem.W.fnOf "_law_holds" "_law_holds" (defArgs s_law_holds) (defBody s_law_holds) (defScope s_law_holds) .none kV24 dc24 pm24 an24 cd24 ct24, PySem.W.fnOf "settle" "settle" (defArgs s_settle) (defBody s_settle) (defScope s_settle) .none kV25 dc25 pm25 an25 cd25 ct25, PySem.W.fnOf "__init__" "Thread.__init__" (defArgs s_Thread__init_) (defBody s_Thread__init_) (defScope s_Thread__init_) .none kV26 dc26 pm26 an26 cd26 ct26, PySem.W.fnOf "thread_at" "Program.thread_at" (defArgs s_Program_thread_at) (defBody s_Program_thread_at) (defScope s_Program_thread_at) .none kV27 dc27 pm27 an27 cd27 ct27, PySem.W.fnOf "_law_unknown" "_law_unknown" (defArgs s_law_unknown) (defBody s_law_unknown) (defScope s_law_unknown) .none kV28 dc28 pm28 an28 cd28 ct28, PySem.W.fnOf "law" "law" (defArgs s_law) (defBody s_law) (defScope s_law) .none kV29 dc29 pm29 an29 cd29 ct29, PySem.W.fnX "__init__" "InvalidRow.__init__" (defArgs s_InvalidRow__init_) (defBody s_InvalidRow__init_) (defScope s_InvalidRow__init_) [("__class__", cc0)] .none kV0x dc0x pm0x an0x (.ref cda0) ct0x, PySem.W.fnX "__init__" "InvalidLine.__init__" (defArgs s_InvalidLine__init_) (defBody s_InvalidLine__init_) (defScope s_InvalidLine__init_) [("__class__", cc4)] .none kV4x dc4x pm4x an4x (.ref cda4) ct4x, PySem.W.fnX "__init__" "UnknownThread.__init__" (defArgs s_UnknownThread__init_) (defBody s_UnknownThread__init_) (defScope s_UnknownThread__init_) [("__class__", cc5)] .none kV5x dc5x pm5x an5x (.ref cda5) ct5x].getD n (PySem.W.fnOf "" "" (defArgs s_law) [] (defScope s_law) .none .none .none .none none .none .none)
  let ex : Nat → Addr := fun n => [C0, C1, C2, C3, C4, C5, C6, C7, C8].getD n 0
  have T : Txt PySem.Challenge.rw_elderreads_k03_whole_program_texts.prog K mg ad fds ex := {
    I_InvalidRow := { T := ⟨⟨nm0, q0, NN0, bs0, _, sn0, sb0, ab0, col0, dd0, u00, u10, u20, u30, u50, xl0, by show PySem.HandSPX.refsVE [.type "ValueError", .type "Exception", .type "BaseException", .type "object"] = true; decide +kernel⟩, sa0, bC0, tC0, kC0⟩, g := PySem.W.mg_of X G uC0, iC := iC0, tI := tI0, mro := mr0, sup := sup0, vE := vE0, tp := tpC, cls := lC0, ms := PySem.W.mg_none_of X G z_super, fn := ⟨_, _, _, _, _, _, _, _, _, _, _, _, _, _, _, _, _, _, _, rfl, lx0, cx0, lc0, ld0, vs0, fe0⟩, top := topC }
    eb_InvalidRow := .all fun us hl => match us, hl with | [_, _, _], _ => rfl
    O_InvalidShape := ⟨qC1, PySem.W.mg_of X G uC1, kC1, bC1, tC1⟩
    O_InvalidCells := ⟨qC2, PySem.W.mg_of X G uC2, kC2, bC2, tC2⟩
    O_InvalidText := ⟨qC3, PySem.W.mg_of X G uC3, kC3, bC3, tC3⟩
    I_InvalidLine := { T := ⟨⟨nm4, q4, NN4, bs4, _, sn4, sb4, ab4, col4, dd4, u04, u14, u24, u34, u54, xl4, by show PySem.HandSPX.refsVE [.type "ValueError", .type "Exception", .type "BaseException", .type "object"] = true; decide +kernel⟩, sa4, bC4, tC4, kC4⟩, g := PySem.W.mg_of X G uC4, iC := iC4, tI := tI4, mro := mr4, sup := sup4, vE := vE4, tp := tpC, cls := lC4, ms := PySem.W.mg_none_of X G z_super, fn := ⟨_, _, _, _, _, _, _, _, _, _, _, _, _, _, _, _, _, _, _, rfl, lx4, cx4, lc4, ld4, vs4, fe4⟩, top := topC }
    eb_InvalidLine := .all fun us hl => match us, hl with | [_, _], _ => rfl
    I_UnknownThread := { T := ⟨⟨nm5, q5, NN5, bs5, _, sn5, sb5, ab5, col5, dd5, u05, u15, u25, u35, u55, xl5, by show PySem.HandSPX.refsVE [.type "ValueError", .type "Exception", .type "BaseException", .type "object"] = true; decide +kernel⟩, sa5, bC5, tC5, kC5⟩, g := PySem.W.mg_of X G uC5, iC := iC5, tI := tI5, mro := mr5, sup := sup5, vE := vE5, tp := tpC, cls := lC5, ms := PySem.W.mg_none_of X G z_super, fn := ⟨_, _, _, _, _, _, _, _, _, _, _, _, _, _, _, _, _, _, _, rfl, lx5, cx5, lc5, ld5, vs5, fe5⟩, top := topC }
    eb_UnknownThread := .all fun us hl => match us, hl with | [_, _], _ => rfl
    nf_line := fun c h => match c, h with | 0, _ => nf0_line | 1, _ => nf1_line | 2, _ => nf2_line | 3, _ => nf3_line | 4, _ => nf4_line | 5, _ => nf5_line | (n + 6), h => absurd h (by omega)
    nf_row := fun c h => match c, h with | 0, _ => nf0_row | 1, _ => nf1_row | 2, _ => nf2_row | 3, _ => nf3_row | 4, _ => nf4_row | 5, _ => nf5_row | (n + 6), h => absurd h (by omega)
    nf_thread := fun c h => match c, h with | 0, _ => nf0_thread | 1, _ => nf1_thread | 2, _ => nf2_thread | 3, _ => nf3_thread | 4, _ => nf4_thread | 5, _ => nf5_thread | (n + 6), h => absurd h (by omega)
    X_all := fun c h => match c, h with | 0, _ => ⟨lC0, gaC0, ggC0, bC0, hdC0, caC0, snC, htC, hmC0⟩ | 1, _ => ⟨lC1, gaC1, ggC1, bC1, hdC1, caC1, snC, htC, hmC1⟩ | 2, _ => ⟨lC2, gaC2, ggC2, bC2, hdC2, caC2, snC, htC, hmC2⟩ | 3, _ => ⟨lC3, gaC3, ggC3, bC3, hdC3, caC3, snC, htC, hmC3⟩ | 4, _ => ⟨lC4, gaC4, ggC4, bC4, hdC4, caC4, snC, htC, hmC4⟩ | 5, _ => ⟨lC5, gaC5, ggC5, bC5, hdC5, caC5, snC, htC, hmC5⟩ | (n + 6), h => absurd h (by omega)
    gx_InvalidText := PySem.W.mg_of X G uC3
    x_InvalidText := fun c b h => match c, h with | 0, h => by cases (show some false = some b from h); exact exm1 bC3 lC3 tC3 p0_3 | 1, h => by cases (show some false = some b from h); exact exm1 bC3 lC3 tC3 p1_3 | 2, h => by cases (show some false = some b from h); exact exm1 bC3 lC3 tC3 p2_3 | 3, h => by cases (show some true = some b from h); exact exm1 bC3 lC3 tC3 p3_3 | 4, h => by cases (show some false = some b from h); exact exm1 bC3 lC3 tC3 p4_3 | 5, h => by cases (show some false = some b from h); exact exm1 bC3 lC3 tC3 p5_3 | (n + 6), h => by cases (show (none : Option Bool) = some b from h)
    i_InvalidText := fun c b h => match c, h with | 0, h => by cases (show some false = some b from h); exact kit1 lC3 tC3 p0_3 (subne pp3 p0_3) | 1, h => by cases (show some false = some b from h); exact kit1 lC3 tC3 p1_3 (subne pp3 p1_3) | 2, h => by cases (show some false = some b from h); exact kit1 lC3 tC3 p2_3 (subne pp3 p2_3) | 3, h => by cases (show some true = some b from h); exact kit1 lC3 tC3 p3_3 (fun _ => rfl) | 4, h => by cases (show some false = some b from h); exact kit1 lC3 tC3 p4_3 (subne pp3 p4_3) | 5, h => by cases (show some false = some b from h); exact kit1 lC3 tC3 p5_3 (subne pp3 p5_3) | (n + 6), h => by cases (show (none : Option Bool) = some b from h)
    gx_UnknownThread := PySem.W.mg_of X G uC5
    x_UnknownThread := fun c b h => match c, h with | 0, h => by cases (show some false = some b from h); exact exm1 bC5 lC5 tC5 p0_5 | 1, h => by cases (show some false = some b from h); exact exm1 bC5 lC5 tC5 p1_5 | 2, h => by cases (show some false = some b from h); exact exm1 bC5 lC5 tC5 p2_5 | 3, h => by cases (show some false = some b from h); exact exm1 bC5 lC5 tC5 p3_5 | 4, h => by cases (show some false = some b from h); exact exm1 bC5 lC5 tC5 p4_5 | 5, h => by cases (show some true = some b from h); exact exm1 bC5 lC5 tC5 p5_5 | (n + 6), h => by cases (show (none : Option Bool) = some b from h)
    i_UnknownThread := fun c b h => match c, h with | 0, h => by cases (show some false = some b from h); exact kit1 lC5 tC5 p0_5 (subne pp5 p0_5) | 1, h => by cases (show some false = some b from h); exact kit1 lC5 tC5 p1_5 (subne pp5 p1_5) | 2, h => by cases (show some false = some b from h); exact kit1 lC5 tC5 p2_5 (subne pp5 p2_5) | 3, h => by cases (show some false = some b from h); exact kit1 lC5 tC5 p3_5 (subne pp5 p3_5) | 4, h => by cases (show some false = some b from h); exact kit1 lC5 tC5 p4_5 (subne pp5 p4_5) | 5, h => by cases (show some true = some b from h); exact kit1 lC5 tC5 p5_5 (fun _ => rfl) | (n + 6), h => by cases (show (none : Option Bool) = some b from h)
    n_abs := PySem.W.mg_none_of X G z_abs
    n_all := PySem.W.mg_none_of X G z_all
    n_bool := PySem.W.mg_none_of X G z_bool
    n_enumerate := PySem.W.mg_none_of X G z_enumerate
    n_int := PySem.W.mg_none_of X G z_int
    n_isinstance := PySem.W.mg_none_of X G z_isinstance
    n_len := PySem.W.mg_none_of X G z_len
    n_list := PySem.W.mg_none_of X G z_list
    n_range := PySem.W.mg_none_of X G z_range
    n_set := PySem.W.mg_none_of X G z_set
    n_str := PySem.W.mg_none_of X G z_str
    n_sum := PySem.W.mg_none_of X G z_sum
    n_tuple := PySem.W.mg_none_of X G z_tuple
    c_DIGITS := ⟨_, PySem.W.mg_of X G y_DIGITS⟩
    c_LETTERS := ⟨_, PySem.W.mg_of X G y_LETTERS⟩
    c_LOCAL := ⟨_, _, _, _, _, PySem.W.mg_of X G y_LOCAL, yl_LOCAL, .cons (.cons (.nil)), (show 2 ≤ sizeLine by decide)⟩
    F_law_pool := F0
    g_law_pool := PySem.W.mg_of X G a0
    b_law_pool := F0.binds (ps := ["_law_script"]) fun _ _ _ _ _ _ us hl => match us, hl with | [_], _ => rfl
    F_law_draw := F1
    g_law_draw := PySem.W.mg_of X G a1
    b_law_draw := F1.binds (ps := ["_law_draws", "_law_k", "_law_many"]) fun _ _ _ _ _ _ us hl => match us, hl with | [_, _, _], _ => rfl
    F_law_word := F2
    g_law_word := PySem.W.mg_of X G a2
    b_law_word := F2.binds (ps := ["_law_draws", "_law_at"]) fun _ _ _ _ _ _ us hl => match us, hl with | [_, _], _ => rfl
    F_law_distinct := F3
    g_law_distinct := PySem.W.mg_of X G a3
    b_law_distinct := F3.binds (ps := ["_law_draws", "_law_at", "_law_count"]) fun _ _ _ _ _ _ us hl => match us, hl with | [_, _, _], _ => rfl
    F_law_sizes := F4
    g_law_sizes := PySem.W.mg_of X G a4
    b_law_sizes := F4.binds (ps := ["_law_draws", "_law_at", "_law_most"]) fun _ _ _ _ _ _ us hl => match us, hl with | [_, _, _], _ => rfl
    F_law_value := F5
    g_law_value := PySem.W.mg_of X G a5
    b_law_value := F5.binds (ps := ["_law_number"]) fun _ _ _ _ _ _ us hl => match us, hl with | [_], _ => rfl
    F_law_row := F6
    g_law_row := PySem.W.mg_of X G a6
    b_law_row := F6.binds (ps := ["_law_draws", "_law_at", "_law_cells", "_law_size"]) fun _ _ _ _ _ _ us hl => match us, hl with | [_, _, _, _], _ => rfl
    F_law_threads := F7
    g_law_threads := PySem.W.mg_of X G a7
    b_law_threads := F7.binds (ps := ["_law_draws", "_law_at", "_law_cells", "_law_sizes_here"]) fun _ _ _ _ _ _ us hl => match us, hl with | [_, _, _, _], _ => rfl
    F_law_text := F8
    g_law_text := PySem.W.mg_of X G a8
    b_law_text := F8.binds (ps := ["_law_cells", "_law_threads_here"]) fun _ _ _ _ _ _ us hl => match us, hl with | [_, _], _ => rfl
    F_is_name := F9
    g_is_name := PySem.W.mg_of X G a9
    b_is_name := F9.binds (ps := ["text"]) fun _ _ _ _ _ _ us hl => match us, hl with | [_], _ => rfl
    F_is_number := F10
    g_is_number := PySem.W.mg_of X G a10
    b_is_number := F10.binds (ps := ["number", "most"]) fun _ _ _ _ _ _ us hl => match us, hl with | [_, _], _ => rfl
    F_Program_is_row := F11
    b_Program_is_row := F11.binds (ps := ["self", "parts", "size"]) fun _ _ _ _ _ _ us hl => match us, hl with | [_, _, _], _ => rfl
    F_Program__init_ := F12
    b_Program__init_ := F12.binds (ps := ["self", "cells", "threads"]) fun _ _ _ _ _ _ us hl => match us, hl with | [_, _, _], _ => rfl
    F_Program_of := ⟨⟨_, _, _, _, _, _, _, _, _, l13, c13, StX.bind_star2 (B := fun xs => bindArgs _ ⟨xs, []⟩) (fun _ _ => rfl) (fun _ _ _ _ => rfl)⟩⟩
    F_law_of := F14
    g_law_of := PySem.W.mg_of X G a14
    b_law_of := F14.binds (ps := ["_law_cells", "_law_threads_here"]) fun _ _ _ _ _ _ us hl => match us, hl with | [_, _], _ => rfl
    F_law_same := F15
    g_law_same := PySem.W.mg_of X G a15
    b_law_same := F15.binds (ps := ["_law_actual", "_law_due"]) fun _ _ _ _ _ _ us hl => match us, hl with | [_, _], _ => rfl
    F_is_value := F16
    g_is_value := PySem.W.mg_of X G a16
    b_is_value := F16.binds (ps := ["text"]) fun _ _ _ _ _ _ us hl => match us, hl with | [_], _ => rfl
    F_is_target := F17
    g_is_target := PySem.W.mg_of X G a17
    b_is_target := F17.binds (ps := ["text"]) fun _ _ _ _ _ _ us hl => match us, hl with | [_], _ => rfl
    F_parse_row := F18
    g_parse_row := PySem.W.mg_of X G a18
    b_parse_row := F18.binds (ps := ["line"]) fun _ _ _ _ _ _ us hl => match us, hl with | [_], _ => rfl
    F_Program_read := F19
    b_Program_read := F19.binds (ps := ["cls", "text"]) fun _ _ _ _ _ _ us hl => match us, hl with | [_, _], _ => rfl
    F_Program_rows_of := F20
    b_Program_rows_of := F20.binds (ps := ["self", "thread"]) fun _ _ _ _ _ _ us hl => match us, hl with | [_, _], _ => rfl
    F_Program__len_ := F21
    b_Program__len_ := F21.binds (ps := ["self"]) fun _ _ _ _ _ _ us hl => match us, hl with | [_], _ => rfl
    F_format_row := F22
    g_format_row := PySem.W.mg_of X G a22
    b_format_row := F22.binds (ps := ["row"]) fun _ _ _ _ _ _ us hl => match us, hl with | [_], _ => rfl
    F_Program_text := F23
    b_Program_text := F23.binds (ps := ["self"]) fun _ _ _ _ _ _ us hl => match us, hl with | [_], _ => rfl
    F_law_holds := F24
    g_law_holds := PySem.W.mg_of X G a24
    b_law_holds := F24.binds (ps := ["_law_program", "_law_cells", "_law_threads_here", "_law_text_here"]) fun _ _ _ _ _ _ us hl => match us, hl with | [_, _, _, _], _ => rfl
    F_settle := F25
    g_settle := PySem.W.mg_of X G a25
    b_settle := F25.binds (ps := ["rows", "row", "held"]) fun _ _ _ _ _ _ us hl => match us, hl with | [_, _, _], _ => rfl
    F_Thread__init_ := F26
    b_Thread__init_ := F26.binds (ps := ["self", "rows"]) fun _ _ _ _ _ _ us hl => match us, hl with | [_, _], _ => rfl
    F_Program_thread_at := F27
    b_Program_thread_at := F27.binds (ps := ["self", "thread"]) fun _ _ _ _ _ _ us hl => match us, hl with | [_, _], _ => rfl
    F_law_unknown := F28
    g_law_unknown := PySem.W.mg_of X G a28
    b_law_unknown := F28.binds (ps := ["_law_program", "_law_number"]) fun _ _ _ _ _ _ us hl => match us, hl with | [_, _], _ => rfl
    F_law := F29
    g_law := PySem.W.mg_of X G a29
    b_law := F29.binds (ps := ["_law_script"]) fun _ _ _ _ _ _ us hl => match us, hl with | [_], _ => rfl
    g_Program := PySem.W.mg_of X G uC7
    cl_Program := ⟨pg7, hd7, po7, sb7⟩
    ns_Program := nsq7
    g_Thread := PySem.W.mg_of X G uC8
    cl_Thread := ⟨pg8, hd8, po8, sb8⟩
    ns_Thread := nsq8
    mk_Program := ⟨mk7, a12, if12, kp7⟩
    mk_Thread := ⟨mk8, a26, if26, kp8⟩
    nc_Program := uC7
    cm_Program_of := ⟨_, _, ⟨rg7, gg7⟩, ⟨pa13, ⟨_, a13⟩, pf13⟩⟩
    cm_Program_read := ⟨_, _, ⟨rg7, gg7⟩, ⟨pa19, ⟨_, a19⟩, pf19⟩⟩
    d_Program__is_row := a11
    d_Program_rows_of := a20
    d_Program___len__ := a21
    d_Program_text := a23
    d_Program_thread_at := a27
    d_Program___init__ := a12
    d_Thread___init__ := a26
    if_Program_is_row := if11
    fi_Program_is_row := fi11
    if_Program_rows_of := if20
    fi_Program_rows_of := fi20
    if_Program__len_ := if21
    fi_Program__len_ := fi21
    if_Program_text := if23
    fi_Program_text := fi23
    if_Program_thread_at := if27
    fi_Program_thread_at := fi27
    if_Program__init_ := if12
    fi_Program__init_ := fi12
    if_Thread__init_ := if26
    fi_Thread__init_ := fi26
    no_Program_cells := no7_cells
    no_Program__threads := no7__threads
    no_Thread_row := no8_row
    no_Thread__rows := no8__rows
    no_Thread_held := no8_held
    co_Program_MOST_THREADS := ⟨_, co7_MOST_THREADS, ⟨_, rfl⟩, cg7_MOST_THREADS, by decide +kernel⟩
    co_Program_MOST_ROWS := ⟨_, co7_MOST_ROWS, ⟨_, rfl⟩, cg7_MOST_ROWS, by decide +kernel⟩
    co_Program_MOST_CELLS := ⟨_, co7_MOST_CELLS, ⟨_, rfl⟩, cg7_MOST_CELLS, by decide +kernel⟩
    cc_Program_MOST_ROWS := ⟨_, _, rd7_MOST_ROWS, fc7_MOST_ROWS, rfl, ⟨_, rfl⟩⟩
    cc_Program_MOST_THREADS := ⟨_, _, rd7_MOST_THREADS, fc7_MOST_THREADS, rfl, ⟨_, rfl⟩⟩
    cc_Program_MOST_CELLS := ⟨_, _, rd7_MOST_CELLS, fc7_MOST_CELLS, rfl, ⟨_, rfl⟩⟩
  }
  exact ⟨fds 29, fun s u => .of_eq rfl, fun base _ _ => (ok_law T).imp fun _ _ _ _ h => h _⟩
end Lw
namespace Lw
open PySem L2 Mi
theorem draw_ev {l : List Int} {k many : Int} {S : Store} (hk : 0 ≤ k) (hm : 0 < many) : m_law_draw [.lst (l.map .int), .int k, .int many] S = some (.ok (.int (drawF l k many)), S) := by
  unfold m_law_draw b_law_draw
  by_cases h : k < l.length
  · have e := atI_ints hk h
    simp [h, e, v_mod, hm, drawF]
  · simp [-List.map_take, h, v_mod, v_mul, hm, drawF, cut40, v_sum]
/-! ### the pool: some ints -/
theorem bd0_ev {a : List Int} {o0 o2 o4 o5 : Option D} {r : Int} (h : a.length < 10000) : ∃ (a' : List Int) (r' : Int), a'.length ≤ a.length + 1 ∧
    bd_law_pool_0 [o0, some (.ref 0), o2, some (.int r), o4, o5] [.lst (a.map .int)] = some (.nx [o0, some (.ref 0), o2, some (.int r'), o4, o5], [.lst (a'.map .int)]) := by
  by_cases hr : 0 < r
  · refine ⟨a ++ [r % 840], r / 840, by simp, ?_⟩
    have hz : szOk (a.length + 1) = true := sz_ok (by omega)
    simp [bd_law_pool_0, hr, v_mod, v_div, atC, hz]
  · exact ⟨a, r, by omega, by simp [bd_law_pool_0, hr]⟩
theorem bd1_ev {a : List Int} {o0 o3 o5 : Option D} {c k : Int} (h : a.length < 10000) (hk : 0 ≤ k ∧ k < 6) : ∃ (a' : List Int) (o5' : Option D), a'.length ≤ a.length + 1 ∧
    bd_law_pool_1 [o0, some (.ref 0), some (.int c), o3, some (.int k), o5] [.lst (a.map .int)] = some (.nx [o0, some (.ref 0), some (.int c), o3, some (.int k), o5'], [.lst (a'.map .int)]) := by
  have h0 : 0 ≤ (c * 48271 + k * 69621 + 17) % 2147483647 := Int.emod_nonneg _ (by decide)
  have h1 : (c * 48271 + k * 69621 + 17) % 2147483647 < 2147483647 := Int.emod_lt_of_pos _ (by decide)
  generalize hone : (c * 48271 + k * 69621 + 17) % 2147483647 = one at h0 h1
  refine ⟨a ++ [(one * one + one * 31 + k) % 1000003 % 840], some (.int one), by simp, ?_⟩
  have e1 : ∀ S, fMul S (.int one) (.int one) = some (.int (one * one)) := fun S => v_mul S _ _ (.inl ⟨by omega, by omega⟩)
  have hz : szOk (a.length + 1) = true := sz_ok (by omega)
  simp [bd_law_pool_1, v_mul, v_mod, hone, e1, atC, hz]
def Pst (o0 : Option D) (n : Nat) (g : Gm) (S : Store) : Prop := ∃ (a : List Int) (o2 o3 o4 o5 : Option D), a.length ≤ n ∧ g = [o0, some (.ref 0), o2, o3, o4, o5] ∧ S = [.lst (a.map .int)]
theorem in60 {a : List Int} {o0 o2 o4 o5 : Option D} {r : Int} (h : a.length < 9000) : ∃ g' S', forGo (rngD 0 60, none) (bN 4) bd_law_pool_0 (rngD 0 60) [o0, some (.ref 0), o2, some (.int r), o4, o5] [.lst (a.map .int)] = some (.nx g', S') ∧ Pst o0 (a.length + 60) g' S' := by
  obtain ⟨g', S', e, a', r', o', h1, h2, h3⟩ := forGo_all (src := (rngD 0 60, none)) (b := bN 4) (body := bd_law_pool_0)
    (fun ds g S => ∃ (a' : List Int) (r' : Int) (o' : Option D), a'.length + ds.length ≤ a.length + 60 ∧ g = [o0, some (.ref 0), o2, some (.int r'), o', o5] ∧ S = [.lst (a'.map .int)])
    (fun d ds g S ⟨a', r', o', h1, h2, h3⟩ => by
      subst h2 h3
      simp only [List.length_cons] at h1
      obtain ⟨b, r2, h4, h5⟩ := bd0_ev (a := a') (o0 := o0) (o2 := o2) (o4 := some d) (o5 := o5) (r := r') (by omega)
      exact ⟨trivial, _, _, _, rfl, .inl h5, b, r2, _, by omega, rfl, rfl⟩) (fun g S _ => trivial) (rngD 0 60) _ _ ⟨a, r, o4, by simp [rngD], rfl, rfl⟩
  exact ⟨g', S', e, a', _, _, _, _, by simpa using h1, h2, h3⟩
theorem in6 {a : List Int} {o0 o3 o4 o5 : Option D} {c : Int} (h : a.length < 9000) : ∃ g' S', forGo (rngD 0 6, none) (bN 4) bd_law_pool_1 (rngD 0 6) [o0, some (.ref 0), some (.int c), o3, o4, o5] [.lst (a.map .int)] = some (.nx g', S') ∧ Pst o0 (a.length + 60) g' S' := by
  obtain ⟨g', S', e, a', o4', o5', h1, h2, h3, _⟩ := forGo_all (src := (rngD 0 6, none)) (b := bN 4) (body := bd_law_pool_1)
    (fun ds g S => ∃ (a' : List Int) (o4' o5' : Option D), a'.length + ds.length ≤ a.length + 6 ∧ g = [o0, some (.ref 0), some (.int c), o3, o4', o5'] ∧ S = [.lst (a'.map .int)] ∧ ∀ d ∈ ds, ∃ k : Int, d = .int k ∧ 0 ≤ k ∧ k < 6)
    (fun d ds g S ⟨a', o4', o5', h1, h2, h3, h4⟩ => by
      subst h2 h3
      simp only [List.length_cons] at h1
      obtain ⟨k, rfl, hk⟩ := h4 d List.mem_cons_self
      obtain ⟨b, o, h5, h6⟩ := bd1_ev (a := a') (o0 := o0) (o3 := o3) (c := c) (k := k) (o5 := o5') (by omega) hk
      exact ⟨trivial, _, _, _, rfl, .inl h6, b, _, _, by omega, rfl, rfl, fun x hx => h4 x (List.mem_cons_of_mem _ hx)⟩) (fun g S _ => trivial) (rngD 0 6) _ _ ⟨a, o4, o5, by simp [rngD], rfl, rfl, fun d hd => by
        simp only [rngD, List.mem_map, List.mem_range] at hd
        obtain ⟨i, hi, rfl⟩ := hd
        exact ⟨i, by simp, by omega, by omega⟩⟩
  exact ⟨g', S', e, a', _, _, _, _, by simp at h1; omega, h2, h3⟩
theorem bd2_ev {o0 : Option D} {n : Nat} {g : Gm} {S : Store} {c : Int} (hn : n < 9000) (h : Pst o0 n g S) : ∃ g2 S2, bd_law_pool_2 (g.set 2 (some (.int c))) S = some (.nx g2, S2) ∧ Pst o0 (n + 60) g2 S2 := by
  obtain ⟨a, o2, o3, o4, o5, h1, rfl, rfl⟩ := h
  by_cases hc : (10 : Int) ^ 18 ≤ (if c < 0 then -c else c)
  · obtain ⟨g', S', e, b, p2, p3, p4, p5, q1, q2, q3⟩ := in60 (a := a) (o0 := o0) (o2 := some (.int c)) (o4 := o4) (o5 := o5) (r := if c < 0 then -c else c) (by omega)
    refine ⟨g', S', ?_, b, p2, p3, p4, p5, by omega, q2, q3⟩
    have hc' : (1000000000000000000 : Int) ≤ (if c < 0 then -c else c) := hc
    simp [bd_law_pool_2, v_pow, hc', big_ok, e]
  · obtain ⟨g', S', e, b, p2, p3, p4, p5, q1, q2, q3⟩ := in6 (a := a) (o0 := o0) (c := c) (o3 := some (.int (if c < 0 then -c else c))) (o4 := o4) (o5 := o5) (by omega)
    refine ⟨g', S', ?_, b, p2, p3, p4, p5, by omega, q2, q3⟩
    have hc' : ¬ (1000000000000000000 : Int) ≤ (if c < 0 then -c else c) := hc
    simp [bd_law_pool_2, v_pow, hc', big_ok, e]
theorem pool_ev (ns : List Int) (h : ns.length ≤ 63) : ∃ p : List Int, m_law_pool [.scr ns] [] = some (.ok (.lst (p.map .int)), []) := by
  obtain ⟨g', S', e, h1, _⟩ := forGo_all (src := (ns.map D.int, none)) (b := bN 2) (body := bd_law_pool_2)
    (fun ds g S => Pst (some (.scr ns)) (60 * (63 - ds.length)) g S ∧ ds.length ≤ 63 ∧ ∀ d ∈ ds, ∃ c, d = .int c)
    (fun d ds g S ⟨h1, h2, h3⟩ => by
      obtain ⟨c, rfl⟩ := h3 d List.mem_cons_self
      simp only [List.length_cons] at h1 h2
      obtain ⟨g2, S2, e2, a, p2, p3, p4, p5, q1, q2, q3⟩ := bd2_ev (c := c) (by omega) h1
      exact ⟨trivial, _, g2, S2, rfl, .inl e2, ⟨a, p2, p3, p4, p5, by omega, q2, q3⟩, by omega, fun x hx => h3 x (List.mem_cons_of_mem _ hx)⟩) (fun g S _ => trivial) (ns.map D.int) [some (.scr ns), some (.ref 0), none, none, none, none] [.lst []]
    ⟨⟨[], _, _, _, _, by simp, rfl, rfl⟩, by simpa using h, fun d hd => by
      obtain ⟨c, _, rfl⟩ := List.mem_map.mp hd
      exact ⟨c, rfl⟩⟩
  obtain ⟨a, p2, p3, p4, p5, q1, rfl, rfl⟩ := h1
  refine ⟨a, ?_⟩
  unfold m_law_pool b_law_pool mTrim
  simp [sz_ok, e, atC, refsLt, refsLts_ints]
end Lw
namespace Lw
open PySem L2 Mi
/-! ### same: a thing and itself -/
mutual
noncomputable def sOk : D → Bool
  | .tup l => szOk l.length && sOks l
  | .lst l => szOk l.length && sOks l
  | .scr _ => false
  | .ref _ => false
  | .cls _ => false
  | _ => true
noncomputable def sOks : List D → Bool
  | [] => true
  | d :: ds => sOk d && sOks ds
end
mutual
def dep : D → Nat
  | .tup l => deps l + 1
  | .lst l => deps l + 1
  | _ => 0
def deps : List D → Nat
  | [] => 0
  | d :: ds => max (dep d) (deps ds)
end
theorem sOks_mem : ∀ {l : List D} {d : D}, sOks l = true → d ∈ l → sOk d = true
  | d :: l, x, h, m => by
    simp only [sOks, Bool.and_eq_true] at h
    rcases List.mem_cons.mp m with rfl | m
    · exact h.1
    · exact sOks_mem h.2 m
theorem deps_mem : ∀ {l : List D} {d : D}, d ∈ l → dep d ≤ deps l
  | d :: l, x, m => by
    simp only [deps]
    rcases List.mem_cons.mp m with rfl | m
    · omega
    · have := deps_mem m; omega
theorem eqB_bl (S : Store) (a b : Bool) : eqB S (.bl a) (.bl b) = some (decide (a = b)) := by
  show (if scal (.bl a) (.bl b) = true then some (decide (V.bl a = V.bl b)) else none) = _
  rw [if_pos (show scal (.bl a) (.bl b) = true from rfl)]; simp
theorem eqB_int (S : Store) (a b : Int) : eqB S (.int a) (.int b) = some (decide (a = b)) := by
  show (if scal (.int a) (.int b) = true then some (decide (V.int a = V.int b)) else none) = _
  rw [if_pos (show scal (.int a) (.int b) = true from rfl)]; simp
theorem eqB_str (S : Store) (a b : Str) : eqB S (.str a) (.str b) = some (decide (a = b)) := by
  show (if scal (.str a) (.str b) = true then some (decide (V.str a = V.str b)) else none) = _
  rw [if_pos (show scal (.str a) (.str b) = true from rfl)]; simp
@[simp] theorem v_eqI (S : Store) (a b : Int) : fEq S (.int a) (.int b) = some (.bl (decide (a = b))) := by simp [fEq, eqB_int]
@[simp] theorem v_neI (S : Store) (a b : Int) : fNe S (.int a) (.int b) = some (.bl (!decide (a = b))) := by simp [fNe, eqB_int]
@[simp] theorem v_eqB (S : Store) (a b : Bool) : fEq S (.bl a) (.bl b) = some (.bl (decide (a = b))) := by simp [fEq, eqB_bl]
@[simp] theorem v_neB (S : Store) (a b : Bool) : fNe S (.bl a) (.bl b) = some (.bl (!decide (a = b))) := by simp [fNe, eqB_bl]
@[simp] theorem v_eqS (S : Store) (a b : Str) : fEq S (.str a) (.str b) = some (.bl (decide (a = b))) := by simp [fEq, eqB_str]
@[simp] theorem v_neS (S : Store) (a b : Str) : fNe S (.str a) (.str b) = some (.bl (!decide (a = b))) := by simp [fNe, eqB_str]
theorem alls (S : Store) (m : Nat) : cAll S [.lst (List.replicate m (.bl true))] = some (.bl true) := by
  have := v_all S (List.replicate m true)
  rw [List.map_replicate] at this
  rw [this]; simp
theorem alls' (S : Store) {l : List D} (h : ∀ x ∈ l, x = .bl true) : cAll S [.lst l] = some (.bl true) := by
  have e : l = List.replicate l.length (.bl true) := List.eq_replicate_iff.mpr ⟨rfl, h⟩
  rw [e]; exact alls S _
theorem ne_bl (S : Store) (a : Bool) : fNe S (.bl a) (.bl a) = some (.bl false) := by simp [fNe, eqB_bl]
theorem ne_int (S : Store) (a : Int) : fNe S (.int a) (.int a) = some (.bl false) := by simp [fNe, eqB_int]
theorem as_len {S : Store} {d : D} {l : List D} (h : asL S d = some l) : cLen S [d] = some (.int l.length) := o_len_as h
section
variable {S : Store} {n : Nat}
theorem same_core {d e : D} {ld le : List D} {a b : Bool} (hd : asL S d = some ld) (he : asL S e = some le) (hl : ld.length = le.length) (hz : le.length ≤ 16777216) (t1 : fIsi .tup S d = some (.bl a)) (t2 : fIsi .tup S e = some (.bl a)) (t3 : fIsi .lst S d = some (.bl b)) (t4 : fIsi .lst S e = some (.bl b)) (hab : (a || b) = true)
    (h : ∀ (k : Nat) (x y : D), ld[k]? = some x → le[k]? = some y → m_law_same n [x, y] S = some (.ok (.bl true), S)) : m_law_same (n + 1) [d, e] S = some (.ok (.bl true), S) := by
  show mFn 3 2 (b_law_same (m_law_same n)) [d, e] S = _
  refine f_rt rfl ?_
  unfold b_law_same
  refine s_seq_rt (s_if_t (S1 := S) (by rw [← hab]; refine e_orT ?_ ?_ <;> (repeat first | exact e_P _ | (apply e_var; rfl) | exact e_nil | apply e_op2 | apply e_op1 | apply e_opA | apply e_cons | apply e_call | apply e_callC | apply e_T | apply e_notT | apply e_notV | apply e_str1 | apply e_part | apply e_sl | apply e_ch | apply e_orT | apply e_andT | apply e_orV | apply e_andV | exact v_add _ _ _ | exact v_sub _ _ _ | exact v_lt _ _ _ | exact v_le _ _ _ | exact v_gt _ _ _ | exact v_ge _ _ _ | exact v_cint _ _ | exact o_len_l | exact o_len_t | exact o_tup (by simp) | exact o_lst (by simp) | exact s_skip | exact s_retN | assumption)) ?_)
  refine s_seq (s_if_f (S1 := S) (e_orT (b := false) (c := false) ?_ ?_) s_skip) ?_
  · (repeat first | exact t1 | exact t2 | exact t3 | exact t4 | exact ne_bl _ _ | exact e_P _ | (apply e_var; rfl) | exact e_nil | apply e_op2 | apply e_op1 | apply e_opA | apply e_cons | apply e_call | apply e_callC | apply e_T | apply e_notT | apply e_notV | apply e_str1 | apply e_part | apply e_sl | apply e_ch | apply e_orT | apply e_andT | apply e_orV | apply e_andV | exact v_add _ _ _ | exact v_sub _ _ _ | exact v_lt _ _ _ | exact v_le _ _ _ | exact v_gt _ _ _ | exact v_ge _ _ _ | exact v_cint _ _ | exact o_len_l | exact o_len_t | exact o_tup (by simp) | exact o_lst (by simp) | exact s_skip | exact s_retN | assumption)
  · (repeat first | exact t1 | exact t2 | exact t3 | exact t4 | exact ne_bl _ _ | exact e_P _ | (apply e_var; rfl) | exact e_nil | apply e_op2 | apply e_op1 | apply e_opA | apply e_cons | apply e_call | apply e_callC | apply e_T | apply e_notT | apply e_notV | apply e_str1 | apply e_part | apply e_sl | apply e_ch | apply e_orT | apply e_andT | apply e_orV | apply e_andV | exact v_add _ _ _ | exact v_sub _ _ _ | exact v_lt _ _ _ | exact v_le _ _ _ | exact v_gt _ _ _ | exact v_ge _ _ _ | exact v_cint _ _ | exact o_len_l | exact o_len_t | exact o_tup (by simp) | exact o_lst (by simp) | exact s_skip | exact s_retN | assumption)
  refine s_seq (s_if_f (S1 := S) ?_ s_skip) ?_
  · (repeat first | exact as_len hd | exact as_len he | exact e_P _ | (apply e_var; rfl) | exact e_nil | apply e_op2 | apply e_op1 | apply e_opA | apply e_cons | apply e_call | apply e_callC | apply e_T | apply e_notT | apply e_notV | apply e_str1 | apply e_part | apply e_sl | apply e_ch | apply e_orT | apply e_andT | apply e_orV | apply e_andV | exact v_add _ _ _ | exact v_sub _ _ _ | exact v_lt _ _ _ | exact v_le _ _ _ | exact v_gt _ _ _ | exact v_ge _ _ _ | exact v_cint _ _ | exact o_len_l | exact o_len_t | exact o_tup (by simp) | exact o_lst (by simp) | exact s_skip | exact s_retN | assumption)
    rw [hl]; exact ne_int _ _
  refine s_ret (e_opA (e_cons (e_lc_all (src := (rngD 0 le.length, none)) (r := List.replicate le.length (.bl true)) ?_ trivial (by simp [rngD]) (by simp [rngD]; omega) ?_) e_nil) (alls' _ fun x hx => List.eq_of_mem_replicate hx))
  · refine e_rng1n ?_ (by omega)
    (repeat first | exact as_len hd | exact as_len he | exact e_P _ | (apply e_var; rfl) | exact e_nil | apply e_op2 | apply e_op1 | apply e_opA | apply e_cons | apply e_call | apply e_callC | apply e_T | apply e_notT | apply e_notV | apply e_str1 | apply e_part | apply e_sl | apply e_ch | apply e_orT | apply e_andT | apply e_orV | apply e_andV | exact v_add _ _ _ | exact v_sub _ _ _ | exact v_lt _ _ _ | exact v_le _ _ _ | exact v_gt _ _ _ | exact v_ge _ _ _ | exact v_cint _ _ | exact o_len_l | exact o_len_t | exact o_tup (by simp) | exact o_lst (by simp) | exact s_skip | exact s_retN | assumption)
  · intro k x z hx hz'
    simp only [rngD0, List.getElem?_map] at hx
    cases q : (List.range le.length)[k]? with
    | none => rw [q] at hx; cases hx
    | some j =>
      rw [q] at hx
      cases hx
      have hk := List.getElem?_eq_some_iff.mp q
      obtain ⟨hk1, hk2⟩ := hk
      simp only [List.length_range] at hk1
      simp only [List.getElem_range] at hk2
      subst hk2
      rw [List.getElem?_replicate, if_pos hk1] at hz'
      cases hz'
      have k1 : k < ld.length := by omega
      refine ⟨_, rfl, ?_⟩
      (repeat first | exact o_ix hd (at_nat (List.getElem?_eq_getElem k1)) | exact o_ix he (at_nat (List.getElem?_eq_getElem hk1)) | exact e_P _ | (apply e_var; rfl) | exact e_nil | apply e_op2 | apply e_op1 | apply e_opA | apply e_cons | apply e_call | apply e_callC | apply e_T | apply e_notT | apply e_notV | apply e_str1 | apply e_part | apply e_sl | apply e_ch | apply e_orT | apply e_andT | apply e_orV | apply e_andV | exact v_add _ _ _ | exact v_sub _ _ _ | exact v_lt _ _ _ | exact v_le _ _ _ | exact v_gt _ _ _ | exact v_ge _ _ _ | exact v_cint _ _ | exact o_len_l | exact o_len_t | exact o_tup (by simp) | exact o_lst (by simp) | exact s_skip | exact s_retN | assumption)
      exact h k _ _ (List.getElem?_eq_getElem k1) (List.getElem?_eq_getElem hk1)
end
theorem dr_zero (S : Store) (d : D) : dr S 0 d = d := rfl
mutual
theorem dr_pure {S : Store} : ∀ (n : Nat) {d : D}, sOk d = true → dr S n d = d
  | 0, _, _ => rfl
  | n + 1, .tup l, h => by simp only [sOk, Bool.and_eq_true] at h; simp only [dr, drs_pure n h.2]
  | n + 1, .lst l, h => by simp only [sOk, Bool.and_eq_true] at h; simp only [dr, drs_pure n h.2]
  | n + 1, .non, _ => rfl
  | n + 1, .bl _, _ => rfl
  | n + 1, .int _, _ => rfl
  | n + 1, .str _, _ => rfl
  | n + 1, .scr _, _ => rfl
  | n + 1, .cls _, _ => rfl
  | n + 1, .ref _, h => by simp [sOk] at h
theorem drs_pure {S : Store} : ∀ (n : Nat) {l : List D}, sOks l = true → l.map (dr S n) = l
  | _, [], _ => rfl
  | n, d :: l, h => by
    simp only [sOks, Bool.and_eq_true] at h
    rw [List.map_cons, dr_pure n h.1, drs_pure n h.2]
end
theorem dr_tup {S : Store} {n : Nat} {d : D} {l : List D} (h : dr S (n + 1) d = .tup l) : ∃ m, d = .tup m ∧ m.map (dr S n) = l := by
  cases d <;> simp only [dr] at h <;> try (cases h; done)
  · cases h; exact ⟨_, rfl, rfl⟩
  · split at h <;> cases h
theorem dr_lst {S : Store} {n : Nat} {d : D} {l : List D} (h : dr S (n + 1) d = .lst l) : ∃ m, asL S d = some m ∧ fIsi .tup S d = some (.bl false) ∧ fIsi .lst S d = some (.bl true) ∧ m.map (dr S n) = l := by
  cases d <;> simp only [dr] at h <;> try (cases h; done)
  · cases h; exact ⟨_, rfl, rfl, rfl, rfl⟩
  · split at h
    · rename_i i m hm
      cases h
      exact ⟨m, by simp only [asL, hm], by simp [fIsi, tyN, hm, isiB], by simp [fIsi, tyN, hm, isiB], rfl⟩
    · cases h
theorem dr_flat {S : Store} {n : Nat} (x : D) (z1 : ∀ l, dr S (n + 1) x ≠ .tup l) (z2 : ∀ l, dr S (n + 1) x ≠ .lst l) : dr S (n + 1) x = x := by
  cases x with
  | tup l => exact absurd rfl (z1 _)
  | lst l => exact absurd rfl (z2 _)
  | ref i =>
    cases h : S[i]? with
    | none => simp [dr, h]
    | some c =>
      cases c with
      | lst l => exact absurd (by simp [dr, h]) (z2 (l.map (dr S n)))
      | _ => simp [dr, h]
  | _ => rfl
/-- two data that read alike, however they stand -/
theorem same_dr {S : Store} : ∀ (n : Nat) (d e : D), dr S n d = dr S n e → sOk (dr S n e) = true → dep (dr S n e) ≤ n → m_law_same (n + 1) [d, e] S = some (.ok (.bl true), S) := by
  intro n
  induction n with
  | zero =>
    intro d e h hs hd
    simp only [dr_zero] at h hs hd
    subst h
    cases d with
    | tup l => simp [dep] at hd
    | lst l => simp [dep] at hd
    | non => simp [m_law_same, b_law_same, fIsi, isiB, tyN, fIsN, Mi.isNon]
    | bl b => simp [m_law_same, b_law_same, fIsi, isiB, tyN, fIsN, Mi.isNon]
    | int b => simp [m_law_same, b_law_same, fIsi, isiB, tyN, fIsN, Mi.isNon]
    | str b => simp [m_law_same, b_law_same, fIsi, isiB, tyN, fIsN, Mi.isNon]
    | scr b => simp [sOk] at hs
    | ref b => simp [sOk] at hs
    | cls b => simp [sOk] at hs
  | succ n ih =>
    intro d e h hs hd
    have seq : ∀ (md me l : List D), md.map (dr S n) = l → me.map (dr S n) = l → sOks l = true → deps l ≤ n → szOk l.length = true → asL S d = some md → asL S e = some me → (∃ a b : Bool, fIsi .tup S d = some (.bl a) ∧ fIsi .tup S e = some (.bl a) ∧ fIsi .lst S d = some (.bl b) ∧ fIsi .lst S e = some (.bl b) ∧ (a || b) = true) →
        m_law_same (n + 1 + 1) [d, e] S = some (.ok (.bl true), S) := fun md me l h1 h2 hs hd hz a1 a2 ⟨a, b, t1, t2, t3, t4, hab⟩ => by
      have l1 : md.length = l.length := by rw [← h1, List.length_map]
      have l2 : me.length = l.length := by rw [← h2, List.length_map]
      refine same_core a1 a2 (by omega) (by rw [l2]; exact sz_iff.mp hz) t1 t2 t3 t4 hab fun k x y hx hy => ih x y ?_ ?_ ?_
      · have e1 : l[k]? = some (dr S n x) := by rw [← h1, List.getElem?_map, hx]; rfl
        have e2 : l[k]? = some (dr S n y) := by rw [← h2, List.getElem?_map, hy]; rfl
        exact Option.some.inj (e1.symm.trans e2)
      · exact sOks_mem hs (List.mem_of_getElem? (by rw [← h2, List.getElem?_map, hy]; rfl))
      · exact Nat.le_trans (deps_mem (List.mem_of_getElem? (by rw [← h2, List.getElem?_map, hy]; rfl))) hd
    cases q : dr S (n + 1) e with
    | tup l =>
      rw [q] at h hs hd
      obtain ⟨md, rfl, h1⟩ := dr_tup h
      obtain ⟨me, rfl, h2⟩ := dr_tup q
      simp only [sOk, Bool.and_eq_true] at hs
      simp only [dep] at hd
      exact seq md me l h1 h2 hs.2 (by omega) hs.1 rfl rfl ⟨true, false, rfl, rfl, rfl, rfl, rfl⟩
    | lst l =>
      rw [q] at h hs hd
      obtain ⟨md, a1, t1, t3, h1⟩ := dr_lst h
      obtain ⟨me, a2, t2, t4, h2⟩ := dr_lst q
      simp only [sOk, Bool.and_eq_true] at hs
      simp only [dep] at hd
      exact seq md me l h1 h2 hs.2 (by omega) hs.1 a1 a2 ⟨false, true, t1, t2, t3, t4, rfl⟩
    | _ =>
      rw [q] at h hs
      first
        | (simp [sOk] at hs; done)
        | (have hd' := dr_flat (S := S) (n := n) d (by rw [h]; simp) (by rw [h]; simp)
           have he' := dr_flat (S := S) (n := n) e (by rw [q]; simp) (by rw [q]; simp)
           rw [hd'] at h; rw [he'] at q; subst h q
           simp [m_law_same, b_law_same, fIsi, isiB, tyN, fIsN, Mi.isNon])
theorem same_refl {S : Store} (n : Nat) (d : D) (h : dep d < n) (k : sOk d = true) : m_law_same n [d, d] S = some (.ok (.bl true), S) := by
  cases n with
  | zero => omega
  | succ n => exact same_dr n d d rfl (by rw [dr_pure n k]; exact k) (by rw [dr_pure n k]; omega)
end Lw
namespace Lw
open PySem L2 Mi
/-! ### rows -/
inductive Row where
  | load (c : Str) | mem (w : Bool) (c : Str) (v : Int) | memR (w : Bool) (c : Str) | fence | test (v : Int) (t : Nat) | jump (t : Nat)
def kw (w : Bool) : Str := if w = true then "swap" else "store"
def Row.kind : Row → Str
  | .load _ => "load"
  | .mem w _ _ => kw w
  | .memR w _ => kw w
  | .fence => "fence"
  | .test _ _ => "test"
  | .jump _ => "jump"
def enc : Row → D
  | .load c => .tup [.str "load", .str c]
  | .mem w c v => .tup [.str (kw w), .str c, .int v]
  | .memR w c => .tup [.str (kw w), .str c, .str "r"]
  | .fence => .tup [.str "fence"]
  | .test v t => .tup [.str "test", .int v, .int t]
  | .jump t => .tup [.str "jump", .int t]
def Row.loc : Row → Bool
  | .test _ _ => true
  | .jump _ => true
  | _ => false
/-- targets lead into the rows or behind them -/
def Row.tg (n : Nat) : Row → Bool
  | .test _ t => decide (t ≤ n)
  | .jump t => decide (t ≤ n)
  | _ => true
abbrev Rows := List Row
def en (R : Rows) : List D := R.map enc
theorem at_row {R : Rows} {k : Nat} (h : k < R.length) : atI (en R) (k : Int) = some (enc R[k]) := by
  rw [atI_natD (l := en R) (i := (k : Int)) (j := k) rfl (by simpa [en] using h)]
  simp [en]
theorem en_len (R : Rows) : (en R).length = R.length := by simp [en]
theorem kindS (r : Row) : ∃ l, enc r = .tup (.str r.kind :: l) := by cases r <;> exact ⟨_, rfl⟩
theorem ok_kinds : (["load", "store", "swap", "fence", "test", "jump"] : List Str).all PyData.strOk = true := by decide +kernel
theorem ok_kind (r : Row) : PyData.strOk r.kind = true := by
  have h := List.all_eq_true.mp ok_kinds
  have kwm : ∀ w : Bool, kw w ∈ (["load", "store", "swap", "fence", "test", "jump"] : List Str) := fun w => by cases w <;> simp [kw]
  cases r with
  | load c => exact h _ (by simp [Row.kind])
  | mem w c v => exact h _ (kwm w)
  | memR w c => exact h _ (kwm w)
  | fence => exact h _ (by simp [Row.kind])
  | test v t => exact h _ (by simp [Row.kind])
  | jump t => exact h _ (by simp [Row.kind])
theorem k_ne : ("load" : Str) ≠ "test" ∧ ("load" : Str) ≠ "jump" ∧ ("store" : Str) ≠ "test" ∧ ("store" : Str) ≠ "jump" ∧ ("swap" : Str) ≠ "test" ∧ ("swap" : Str) ≠ "jump" ∧ ("fence" : Str) ≠ "test" ∧ ("fence" : Str) ≠ "jump" ∧ ("test" : Str) ≠ "jump" := by decide +kernel
theorem loc_kind (r : Row) : decide (r.kind ∈ (["test", "jump"] : List Str)) = r.loc := by
  obtain ⟨a1, a2, a3, a4, a5, a6, a7, a8, a9⟩ := k_ne
  cases r with
  | load c => simp [Row.kind, Row.loc, a1, a2]
  | mem w c v => cases w <;> simp [Row.kind, kw, Row.loc, a3, a4, a5, a6]
  | memR w c => cases w <;> simp [Row.kind, kw, Row.loc, a3, a4, a5, a6]
  | fence => simp [Row.kind, Row.loc, a7, a8]
  | test v t => simp [Row.kind, Row.loc]
  | jump t => simp [Row.kind, Row.loc]
section
variable {S : Store} {R : Rows} {h : Int}
theorem ixR {r : Nat} (hr : r < R.length) : fIx S (.lst (en R)) (.int r) = some (enc R[r]) := by rw [v_ixL]; exact at_row hr
theorem ix0 (x : Row) : fIx S (enc x) (.int 0) = some (.str x.kind) := by cases x <;> rfl
theorem locT (x : Row) : fIn S (.str x.kind) (.tup [.str "test", .str "jump"]) = some (.bl x.loc) := by
  rw [← loc_kind]; exact in_of (inB_tup (l := ["test", "jump"]))
theorem locL (x : Row) : fNotIn S (.str x.kind) (.lst [.str "test", .str "jump"]) = some (.bl (!x.loc)) := by
  rw [← loc_kind]; exact notIn_of (inB_lst (l := ["test", "jump"]) (ok_kind x) (by decide +kernel))
end
theorem inB_intsR {S : Store} {i : Nat} {c : Int} {l : List Int} (hi : S[i]? = some (.lst (l.map .int))) : inB S (.int c) (.ref i) = some (decide (c ∈ l)) := by
  have e1 : toPS S (.int c) = some (.int c) := rfl
  have e2 : toPS S (.ref i) = some (.list (l.map PyData.int)) := by simp [toPS, atC, hi, toPs_ints]
  have e3 : SeqAt.shaped (.list (l.map PyData.int)) = true := by simp [SeqAt.shaped, PyData.canLay0, lay_ints, PyData.depth, dep_ints]
  have e4 : SeqAt.shaped (.int c) = true := rfl
  simp only [inB, e1, e2, e3, e4, and_self, if_true, Mi.any_ints]
/-! ### stores without references -/
def Good (c : Cell) : Prop := ∀ n, cellLt n c = true
def GoodS (S : Store) : Prop := ∀ c ∈ S, Good c
theorem refs_strs (n : Nat) : ∀ l : List Str, refsLts n (l.map D.str) = true
  | [] => rfl
  | x :: l => by simp [refsLts, refsLt, refs_strs n l]
theorem refs_row (n : Nat) (r : Row) : refsLt n (enc r) = true := by cases r <;> simp [enc, refsLt, refsLts]
theorem refs_en (n : Nat) : ∀ R : Rows, refsLts n (en R) = true
  | [] => rfl
  | x :: l => by
    have := refs_en n l
    simp only [en, List.map_cons, refsLts, refs_row, Bool.true_and] at this ⊢
    exact this
theorem good_ints {l : List Int} : Good (.lst (l.map .int)) := fun n => by simp [cellLt, refsLts_ints]
theorem good_en {R : Rows} : Good (.lst (en R)) := fun n => by simp [cellLt, refs_en]
theorem GoodS.app {S x : Store} (h : GoodS S) (hx : GoodS x) : GoodS (S ++ x) := fun c hc => (List.mem_append.mp hc).elim (h c) (hx c)
theorem GoodS.one {S : Store} {c : Cell} (h : GoodS S) (hc : Good c) : GoodS (S ++ [c]) := h.app fun x hx => by
  rw [List.mem_singleton.mp hx]; exact hc
theorem GoodS.set {S : Store} {c : Cell} (h : GoodS S) (i : Nat) (hc : Good c) : GoodS (S.set i c) := fun x hx => by
  rcases List.mem_or_eq_of_mem_set hx with h1 | rfl
  · exact h x h1
  · exact hc
theorem GoodS.all {S : Store} (h : GoodS S) : S.all (cellLt S.length) = true := List.all_eq_true.mpr fun c hc => h c hc _
theorem trim_ev {m : MF} {ds : List D} {S x : Store} {d : D} (h : m ds S = some (.ok d, S ++ x)) (hd : refsLt S.length d = true) (hS : GoodS S) : mTrim m ds S = some (.ok d, S) := by
  unfold mTrim
  simp only [h, List.take_left, hS.all, hd, and_self, if_true]
end Lw
namespace Lw
open PySem L2 Mi
@[simp] theorem ms_nil : matchSeqD [] [] = some (some []) := id rfl
@[simp] theorem ms_val (s x : Str) (ps : List PatE) (ds : List D) : matchSeqD (.val s :: ps) (.str x :: ds) = if x = s then matchSeqD ps ds else some none := by
  show (if scal (.str x) (.str s) = true then (if V.str x = V.str s then _ else _) else none) = _
  rw [if_pos (show scal (.str x) (.str s) = true from rfl)]
  by_cases h : x = s
  · subst h; rw [if_pos rfl, if_pos rfl]
  · rw [if_neg h, if_neg (fun e => h (V.str.inj e))]
@[simp] theorem ms_cap (i : Nat) (d : D) (ps : List PatE) (ds : List D) : matchSeqD (.cap i :: ps) (d :: ds) = match matchSeqD ps ds with
    | some (some bs) => some (some ((i, d) :: bs))
    | r => r := id rfl
@[simp] theorem bindAll_nil (g : Gm) : bindAll [] g = g := id rfl
@[simp] theorem bindAll_cons (i : Nat) (d : D) (bs : List (Nat × D)) (g : Gm) : bindAll ((i, d) :: bs) g = bindAll bs (g.set i (some d)) := id rfl
@[simp] theorem asL_lst (S : Store) (l : List D) : asL S (.lst l) = some l := id rfl
@[simp] theorem asL_tup (S : Store) (l : List D) : asL S (.tup l) = some l := id rfl
/-! ### a name -/
def isLet (c : Nat) : Bool := decide (97 ≤ c) && decide (c ≤ 122)
def nameB (z : Str) : Bool := decide (1 ≤ z.length) && decide (z.length ≤ 6) && z.cps.toList.all isLet
theorem abc_cps : ("abcdefghijklmnopqrstuvwxyz" : Str).cps.toList = (List.range 26).map (97 + ·) := by decide +kernel
theorem in_let {S : Store} {c : Nat} : fIn S (.str ⟨#[c]⟩) (.str "abcdefghijklmnopqrstuvwxyz") = some (.bl (isLet c)) := by
  have e : isLet c = decide (c ∈ ("abcdefghijklmnopqrstuvwxyz" : Str).cps.toList) := by
    rw [abc_cps, isLet, ← Bool.decide_and]
    refine decide_eq_decide.mpr ⟨fun h => List.mem_map.mpr ⟨c - 97, List.mem_range.mpr (by omega), by omega⟩, fun h => ?_⟩
    obtain ⟨i, hi, rfl⟩ := List.mem_map.mp h
    have := List.mem_range.mp hi; omega
  rw [e]; rfl
theorem is_name_ev {z : Str} {S : Store} (h : nameB z = true) : m_is_name [.str z] S = some (.ok (.bl true), S) := by
  simp only [nameB, Bool.and_eq_true, decide_eq_true_eq] at h
  obtain ⟨⟨h1, h2⟩, h3⟩ := h
  have hl : z.cps.toList.length = z.length := by simp [Str.length]
  have ch : chars z = z.cps.toList.map fun c => .str ⟨#[c]⟩ := rfl
  have lc : mLc [1] (mI (mVar 0)) (bN 1) (mP true) (mOp2 fIn (mVar 1) (mP k_LETTERS)) [some (.str z), none] S = some (.ok (.lst (List.replicate z.length (.bl true))), S) := by
    refine v_lc (S1 := S) (src := (chars z, none)) (by simp) ?_
    rw [lcGo_map (src := (chars z, none)) (fun _ => .bl true) True.intro]
    · rw [ch]
      simp [List.eq_replicate_iff, hl]
    · intro d hd
      rw [ch] at hd
      obtain ⟨c, hc, rfl⟩ := List.mem_map.mp hd
      have hlc : isLet c = true := List.all_eq_true.mp h3 c hc
      refine ⟨_, rfl, ?_⟩
      simp [wipeG, k_LETTERS, in_let, hlc]
    · rw [ch]; simp [hl]; omega
  have a := alls S z.length
  have le := v_lenS S z (by omega)
  have h1' : (1 : Int) ≤ z.length := by omega
  have h2' : (z.length : Int) ≤ 6 := by omega
  simp [m_is_name, b_is_name, le, lc, a, h1', h2']
/-! ### a row of a program -/
structure Cs (cs : List Str) : Prop where
  l1 : 1 ≤ cs.length
  l3 : cs.length ≤ 3
  nd : cs.Nodup
  nm : cs.all nameB = true
  ok : cs.all PyData.strOk = true
def Row.vd (cs : List Str) (n : Nat) : Row → Bool
  | .load c => decide (c ∈ cs)
  | .mem _ c v => decide (c ∈ cs) && decide (0 ≤ v) && decide (v ≤ 9)
  | .memR _ c => decide (c ∈ cs)
  | .fence => true
  | .test v t => decide (0 ≤ v) && decide (v ≤ 9) && decide (t ≤ n)
  | .jump t => decide (t ≤ n)
theorem vd_tg {cs : List Str} {n : Nat} {x : Row} (h : x.vd cs n = true) : x.tg n = true := by
  cases x <;> simp [Row.vd, Row.tg] at h ⊢ <;> omega
theorem num_ev {S : Store} {v m : Int} (h0 : 0 ≤ v) (h1 : v ≤ m) : m_is_number [.int v, .int m] S = some (.ok (.bl true), S) := by
  simp [m_is_number, b_is_number, fIsi, isiB, tyN, h0, h1]
theorem kne : ("load" : Str) ≠ "fence" ∧ ("jump" : Str) ≠ "fence" ∧ ("jump" : Str) ≠ "load" ∧ ("store" : Str) ≠ "test" ∧ ("swap" : Str) ≠ "test" := by decide +kernel
section
variable {S : Store} {i : Nat} {cs : List Str}
/-- the program at i knows its cells -/
def HasC (S : Store) (i : Nat) (cs : List Str) : Prop := fldOf of_cells_Program "cells" S (.ref i) = some (.tup (cs.map .str))
theorem row_ev (H : HasC S i cs) {n : Nat} {x : Row} (h : x.vd cs n = true) : m_Program_is_row [.ref i, enc x, .int n] S = some (.ok (.bl true), S) := by
  unfold HasC at H
  obtain ⟨a1, a2, a3, a4, a5⟩ := kne
  cases x with
  | fence => simp [m_Program_is_row, b_Program_is_row, enc]
  | load c =>
    simp only [Row.vd, decide_eq_true_eq] at h
    have e := in_of (S := S) (inB_tup (c := c) (l := cs))
    rw [show decide (c ∈ cs) = true by simp [h]] at e
    simp [m_Program_is_row, b_Program_is_row, enc, H, e]
  | jump t =>
    simp only [Row.vd, decide_eq_true_eq] at h
    have e := num_ev (S := S) (v := t) (m := n) (by omega) (by omega)
    simp [m_Program_is_row, b_Program_is_row, enc, e, a3]
  | test v t =>
    simp only [Row.vd, Bool.and_eq_true, decide_eq_true_eq] at h
    have e := num_ev (S := S) (v := t) (m := n) (by omega) (by omega)
    have e2 := num_ev (S := S) (v := v) (m := 9) (by omega) (by omega)
    simp [m_Program_is_row, b_Program_is_row, enc, e, e2]
  | mem w c v =>
    simp only [Row.vd, Bool.and_eq_true, decide_eq_true_eq] at h
    have e := in_of (S := S) (inB_tup (c := c) (l := cs))
    rw [show decide (c ∈ cs) = true by simp [h.1.1]] at e
    have e2 := num_ev (S := S) (v := v) (m := 9) (by omega) (by omega)
    have ek : fIn S (.str (kw w)) (.tup [.str "store", .str "swap"]) = some (.bl true) := by
      have := in_of (S := S) (inB_tup (c := kw w) (l := ["store", "swap"]))
      rw [show decide (kw w ∈ (["store", "swap"] : List Str)) = true by cases w <;> simp [kw]] at this
      exact this
    have nt : kw w ≠ "test" := by cases w <;> simp [kw, a4, a5]
    have es : fEq S (.int v) (.str "r") = some (.bl false) := by
      have : eqB S (.int v) (.str "r") = some false := by
        show (if scal (.int v) (.str "r") = true then some (decide (V.int v = V.str "r")) else none) = _
        rw [if_pos (show scal (.int v) (.str "r") = true from rfl)]; simp
      simp [fEq, this]
    simp [m_Program_is_row, b_Program_is_row, enc, H, e, e2, ek, nt, es, fTup, sz_ok]
  | memR w c =>
    simp only [Row.vd, decide_eq_true_eq] at h
    have e := in_of (S := S) (inB_tup (c := c) (l := cs))
    rw [show decide (c ∈ cs) = true by simp [h]] at e
    have ek : fIn S (.str (kw w)) (.tup [.str "store", .str "swap"]) = some (.bl true) := by
      have := in_of (S := S) (inB_tup (c := kw w) (l := ["store", "swap"]))
      rw [show decide (kw w ∈ (["store", "swap"] : List Str)) = true by cases w <;> simp [kw]] at this
      exact this
    have nt : kw w ≠ "test" := by cases w <;> simp [kw, a4, a5]
    simp [m_Program_is_row, b_Program_is_row, enc, H, e, ek, nt, fTup, sz_ok]
end
end Lw
namespace Lw
open PySem L2 Mi
theorem enumF_mem : ∀ (l : List D) (k : Int) (d : D), d ∈ enumF k l → ∃ j e, e ∈ l ∧ d = .tup [.int j, e]
  | [], _, _, h => nomatch h
  | x :: l, k, d, h => by
    rcases List.mem_cons.mp (show d ∈ (.tup [.int k, x] :: enumF (k + 1) l) from h) with rfl | h
    · exact ⟨k, x, List.mem_cons_self, rfl⟩
    · obtain ⟨j, e, h1, h2⟩ := enumF_mem l (k + 1) d h
      exact ⟨j, e, List.mem_cons_of_mem _ h1, h2⟩
theorem once_nd {l : List Str} (h : l.Nodup) : once l = l := by
  suffices hh : ∀ (l acc : List Str), (acc ++ l).Nodup → l.foldl (fun acc x => if x ∈ acc then acc else acc ++ [x]) acc = acc ++ l by simpa [once] using hh l [] (by simpa using h)
  intro l
  induction l with
  | nil => intro acc _; simp
  | cons x l ih =>
    intro acc nd
    have hx : x ∉ acc := fun m => (List.nodup_append.mp nd).2.2 x m x List.mem_cons_self rfl
    rw [List.foldl_cons, if_neg hx, ih (acc ++ [x]) (by simpa using nd)]
    simp
theorem strsOnly_map : ∀ l : List Str, strsOnly (l.map .str) = some l
  | [] => rfl
  | x :: l => by simp [strsOnly, strsOnly_map l]
/-! ### a program in the store -/
def tsD (TS : List Rows) : List D := TS.map fun R => .lst (en R)
def prC (cs : List Str) (TS : List Rows) : Cell := .ins cx_Program [("cells", .tup (cs.map .str)), ("_threads", .lst (tsD TS))]
theorem nc : ("cells" : Str) ≠ "_threads" := by decide
theorem nc2 : (("_threads" : Str) == "cells") = false := by decide
structure Pk (cs : List Str) (TS : List Rows) : Prop where
  c : Cs cs
  l1 : 1 ≤ TS.length
  l3 : TS.length ≤ 3
  sum : (TS.map List.length).sum ≤ 24
  vd : ∀ R ∈ TS, ∀ x ∈ R, x.vd cs R.length = true
theorem Pk.len {cs : List Str} {TS : List Rows} (K : Pk cs TS) : ∀ R ∈ TS, R.length ≤ 24 := fun R h => by
  have : R.length ≤ (TS.map List.length).sum := by
    have le : ∀ (l : List Rows), R ∈ l → R.length ≤ (l.map List.length).sum := fun l => by
      induction l with
      | nil => intro h; cases h
      | cons x l ih =>
        intro h
        rw [List.map_cons, List.sum_cons]
        rcases List.mem_cons.mp h with rfl | h
        · omega
        · have := ih h; omega
    exact le TS h
  have := K.sum
  omega
theorem refs_ts (n : Nat) : ∀ TS : List Rows, refsLts n (tsD TS) = true
  | [] => rfl
  | R :: TS => by
    have := refs_ts n TS
    simp only [tsD, List.map_cons, refsLts, refsLt, refs_en, Bool.true_and] at this ⊢
    exact this
theorem good_pr {cs : List Str} {TS : List Rows} : Good (prC cs TS) := fun n => by simp [prC, cellLt, refsLts, refsLt, refs_strs, refs_ts]
theorem asL_app {S x : Store} {d : D} {l : List D} (h : asL S d = some l) : asL (S ++ x) d = some l := by
  cases d <;> simp only [asL] at h ⊢ <;> first | exact h | (cases h; done) | skip
  split at h
  · rename_i hi; rw [app_old hi]; exact h
  · cases h
theorem asLL_app {S x : Store} {d : D} {l : List D} (h : asLL S d = some l) : asLL (S ++ x) d = some l := by
  cases d <;> simp only [asLL] at h ⊢ <;> first | exact h | (cases h; done) | skip
  split at h
  · rename_i hi; rw [app_old hi]; exact h
  · cases h
theorem asLL_asL {S : Store} {d : D} {l : List D} (h : asLL S d = some l) : asL S d = some l := by
  cases d <;> simp only [asLL] at h <;> first | (cases h; done) | (simp only [asL]; exact h)
theorem srcL_of {S : Store} {d : D} {l : List D} (h : asLL S d = some l) : ∃ o, srcL S d = some (l, o) ∧ ∀ l', srcOk S (l', o) := by
  cases d <;> simp only [asLL] at h <;> try (cases h; done)
  · cases h; exact ⟨none, rfl, fun _ => trivial⟩
  · split at h
    · rename_i hk; cases h; exact ⟨some (_, l), by simp only [srcL, hk], fun _ => hk⟩
    · cases h
theorem e_I_as {m : Mi.M D} {g : Gm} {S S1 : Store} {d : D} {l : List D} (h : m g S = some (.ok d, S1)) (k : asL S1 d = some l) : ∃ o, mI m g S = some (.ok (l, o), S1) ∧ ∀ l', srcOk S1 (l', o) := by
  cases d <;> simp only [asL] at k <;> try (cases k; done)
  · cases k; exact ⟨none, e_I_tup h, fun _ => trivial⟩
  · cases k; exact ⟨none, e_I_lst h, fun _ => trivial⟩
  · split at k
    · rename_i hk; cases k; exact ⟨some (_, l), e_I_ref h hk, fun _ => hk⟩
    · cases k
theorem lc_reps {vs : List Nat} {mi : Mi.M Src} {b : Bind} {me : Mi.M D} {g : Gm} {S S1 : Store} {l : List D} {o : Option (Nat × List D)} {f : D → D} (h1 : mi g S = some (.ok (l, o), S1)) (hok : ∀ l', srcOk S1 (l', o)) (hn : l.length ≤ 16777216)
    (h : ∀ d ∈ l, ∃ g1, b d (wipeG g vs) = some g1 ∧ me g1 S1 = some (.ok (f d), S1)) : mLc vs mi b (mP true) me g S = some (.ok (.lst (l.map f)), S1) :=
  e_lc_all (src := (l, o)) h1 (hok l) (by simp) hn fun k d z hd hz => by
    rw [List.getElem?_map, hd] at hz
    cases hz
    exact h d (List.mem_of_getElem? hd)
/-- what a program is made of, however it stands -/
structure Arg (S : Store) (cd td : D) (cs : List Str) (TS : List Rows) : Prop where
  c : asL S cd = some (cs.map .str)
  t : ∃ tds, asLL S td = some tds ∧ tds.length = TS.length ∧ ∀ (k : Nat) (d : D), tds[k]? = some d → ∃ R, TS[k]? = some R ∧ asLL S d = some (en R)
theorem Arg.app {S x : Store} {cd td : D} {cs : List Str} {TS : List Rows} (A : Arg S cd td cs TS) : Arg (S ++ x) cd td cs TS := by
  obtain ⟨c, tds, h1, h2, h3⟩ := A
  refine ⟨asL_app c, tds, asLL_app h1, h2, fun k d hd => ?_⟩
  obtain ⟨R, q1, q2⟩ := h3 k d hd
  exact ⟨R, q1, asLL_app q2⟩
theorem Arg.flat {S : Store} (cs : List Str) (TS : List Rows) : Arg S (.lst (cs.map .str)) (.lst (tsD TS)) cs TS := ⟨rfl, _, rfl, by simp [tsD], fun k d hd => by
  simp only [tsD, List.getElem?_map, Option.map_eq_some_iff] at hd
  obtain ⟨R, h1, rfl⟩ := hd
  exact ⟨R, h1, rfl⟩⟩
theorem Arg.flatT {S : Store} (cs : List Str) (TS : List Rows) : Arg S (.tup (cs.map .str)) (.lst (tsD TS)) cs TS := ⟨rfl, (Arg.flat (S := S) cs TS).t⟩
theorem Arg.maps {S : Store} {td : D} {tds : List D} {TS : List Rows} (h1 : asLL S td = some tds) (h2 : tds.length = TS.length) (h3 : ∀ (k : Nat) (d : D), tds[k]? = some d → ∃ R, TS[k]? = some R ∧ asLL S d = some (en R)) (f : Rows → D) (g : D → D) (hg : ∀ d R, asLL S d = some (en R) → g d = f R) : tds.map g = TS.map f := by
  refine List.ext_getElem (by simp [h2]) fun k q1 q2 => ?_
  have q3 : k < tds.length := by simpa using q1
  simp only [List.getElem_map]
  obtain ⟨R, e1, e2⟩ := h3 k tds[k] (List.getElem?_eq_getElem q3)
  rw [hg _ _ e2, ← (List.getElem?_eq_some_iff.mp e1).2]
section
variable {S : Store} {cs : List Str} {TS : List Rows} {cd td : D}
theorem con_of {oc : Nat → Option D} {f : Str} {n : Int} {fs : List (Str × D)} {i : Nat} {T : Store} (hi : T[i]? = some (.ins cx_Program fs)) (h : oc cx_Program = some (.int n)) (hf : fs.lookup f = none) : conOf oc f T (.ref i) = some (.int n) := o_con hi hf h
theorem sum_int : ∀ l : List Rows, (l.map fun R => (R.length : Int)).sum = ((l.map List.length).sum : Nat)
  | [] => rfl
  | x :: l => by simp only [List.map_cons, List.sum_cons, sum_int l]; omega
theorem last_set {c c' : Cell} : (S ++ [c]).set S.length c' = S ++ [c'] := by simp
theorem last_get {c : Cell} : (S ++ [c])[S.length]? = some c := by simp
/-- the frame of Program.__init__ -/
abbrev pg (n : Nat) (cd td : D) (a b c d : Option D) : Gm := [some (.ref n), some cd, some td, a, b, c, d, none]
theorem pinit_cells (C : Cs cs) (A : Arg S cd td cs TS) {T : Store} (hT : T = S ++ [.ins cx_Program []]) : mIfS (mOrT (mNotT (mT (mCh fLe fLe (mP (.int 1)) (mOpA cLen (mCons (mVar 1) (mNil))) (mOp1 (fun S d => conOf oc_MOST_CELLS_Program "MOST_CELLS" S d) (mVar 0))))) (mT (mOp2 fLt (mLenSet (mVar 1)) (mOpA cLen (mCons (mVar 1) (mNil)))))) (mRaise cx_InvalidCells []) (mSkip) (pg S.length cd td none none none none) T = some (.nx (pg S.length cd td none none none none), T) := by
  subst hT
  have c1 := C.l1
  have c3 := C.l3
  have A1 := A.app (x := [Cell.ins cx_Program []])
  have o := once_nd C.nd
  apply s_ifF
  · (repeat first | exact o_len_as A1.c | exact con_of last_get rfl rfl | exact e_lenSet (e_var rfl) A1.c (by omega) | exact e_P _ | (apply e_var; rfl) | exact e_nil | apply e_op2 | apply e_op1 | apply e_opA | apply e_cons | apply e_call | apply e_callC | apply e_T | apply e_notT | apply e_notV | apply e_str1 | apply e_part | apply e_sl | apply e_ch | apply e_orT | apply e_andT | apply e_orV | apply e_andV | exact v_add _ _ _ | exact v_sub _ _ _ | exact v_lt _ _ _ | exact v_le _ _ _ | exact v_gt _ _ _ | exact v_ge _ _ _ | exact v_cint _ _ | exact o_len_l | exact o_len_t | exact o_tup (by simp) | exact o_lst (by simp) | exact s_skip | exact s_retN | assumption)
  · simp [o]; omega
  · exact s_skip
theorem pinit_names (C : Cs cs) (A : Arg S cd td cs TS) {T : Store} (hT : T = S ++ [.ins cx_Program []]) : mIfS (mNotT (mT (mOpA cAll (mCons (mLc [7] (mI (mVar 1)) (bN 7) (mP true) (mCall (m_is_name) (mCons (mVar 7) (mNil)))) (mNil))))) (mRaise cx_InvalidCells []) (mSkip) (pg S.length cd td none none none none) T = some (.nx (pg S.length cd td none none none none), T) := by
  subst hT
  have c3 := C.l3
  have A1 := A.app (x := [Cell.ins cx_Program []])
  obtain ⟨o, h1, h2⟩ := e_I_as (m := mVar 1) (g := pg S.length cd td none none none none) (e_var rfl) A1.c
  have e := lc_reps (vs := [7]) (b := bN 7) (me := mCall (m_is_name) (mCons (mVar 7) (mNil))) (f := fun _ => .bl true) h1 h2 (by simp; omega) fun d hd => by
    obtain ⟨c, hc, rfl⟩ := List.mem_map.mp hd
    exact ⟨_, rfl, by (repeat first | exact is_name_ev (List.all_eq_true.mp C.nm c hc) | exact e_P _ | (apply e_var; rfl) | exact e_nil | apply e_op2 | apply e_op1 | apply e_opA | apply e_cons | apply e_call | apply e_callC | apply e_T | apply e_notT | apply e_notV | apply e_str1 | apply e_part | apply e_sl | apply e_ch | apply e_orT | apply e_andT | apply e_orV | apply e_andV | exact v_add _ _ _ | exact v_sub _ _ _ | exact v_lt _ _ _ | exact v_le _ _ _ | exact v_gt _ _ _ | exact v_ge _ _ _ | exact v_cint _ _ | exact o_len_l | exact o_len_t | exact o_tup (by simp) | exact o_lst (by simp) | exact s_skip | exact s_retN | assumption)⟩
  apply s_ifF
  · (repeat first | exact e | exact alls' _ (by simp) | exact e_P _ | (apply e_var; rfl) | exact e_nil | apply e_op2 | apply e_op1 | apply e_opA | apply e_cons | apply e_call | apply e_callC | apply e_T | apply e_notT | apply e_notV | apply e_str1 | apply e_part | apply e_sl | apply e_ch | apply e_orT | apply e_andT | apply e_orV | apply e_andV | exact v_add _ _ _ | exact v_sub _ _ _ | exact v_lt _ _ _ | exact v_le _ _ _ | exact v_gt _ _ _ | exact v_ge _ _ _ | exact v_cint _ _ | exact o_len_l | exact o_len_t | exact o_tup (by simp) | exact o_lst (by simp) | exact s_skip | exact s_retN | assumption)
  · rfl
  · exact s_skip
theorem pinit_shape (t1 : 1 ≤ TS.length) (t3 : TS.length ≤ 3) (A : Arg S cd td cs TS) {T : Store} (hT : T = S ++ [.ins cx_Program []]) {r : Option (Out × Store)}
    (ok : (TS.map List.length).sum ≤ 24 → r = some (.nx (pg S.length cd td none none none none), T)) (bad : ¬ (TS.map List.length).sum ≤ 24 → r = some (.ex (pg S.length cd td none none none none) cx_InvalidShape [], T)) :
    mIfS (mOrT (mNotT (mT (mCh fLe fLe (mP (.int 1)) (mOpA cLen (mCons (mVar 2) (mNil))) (mOp1 (fun S d => conOf oc_MOST_THREADS_Program "MOST_THREADS" S d) (mVar 0))))) (mT (mOp2 fGt (mOpA cSum (mCons (mLc [4] (mI (mVar 2)) (bN 4) (mP true) (mOpA cLen (mCons (mVar 4) (mNil)))) (mNil))) (mOp1 (fun S d => conOf oc_MOST_ROWS_Program "MOST_ROWS" S d) (mVar 0))))) (mRaise cx_InvalidShape []) (mSkip) (pg S.length cd td none none none none) T = r := by
  subst hT
  obtain ⟨c0, tds, h1, h2, h3⟩ := A.app (x := [Cell.ins cx_Program []])
  obtain ⟨o, q1, q2⟩ := e_I_as (m := mVar 2) (g := pg S.length cd td none none none none) (e_var rfl) (asLL_asL h1)
  have e := lc_reps (vs := [4]) (b := bN 4) (me := mOpA cLen (mCons (mVar 4) (mNil))) (f := fun d => match asLL (S ++ [.ins cx_Program []]) d with | some l => .int l.length | none => .non) q1 q2 (by omega) fun d hd => by
    obtain ⟨k, hk⟩ := List.mem_iff_getElem?.mp hd
    obtain ⟨R, e1, e2⟩ := h3 k d hk
    exact ⟨_, rfl, by rw [e2]; (repeat first | exact o_len_as (asLL_asL e2) | exact e_P _ | (apply e_var; rfl) | exact e_nil | apply e_op2 | apply e_op1 | apply e_opA | apply e_cons | apply e_call | apply e_callC | apply e_T | apply e_notT | apply e_notV | apply e_str1 | apply e_part | apply e_sl | apply e_ch | apply e_orT | apply e_andT | apply e_orV | apply e_andV | exact v_add _ _ _ | exact v_sub _ _ _ | exact v_lt _ _ _ | exact v_le _ _ _ | exact v_gt _ _ _ | exact v_ge _ _ _ | exact v_cint _ _ | exact o_len_l | exact o_len_t | exact o_tup (by simp) | exact o_lst (by simp) | exact s_skip | exact s_retN | assumption)⟩
  rw [Arg.maps h1 h2 h3 (fun R => .int (R.length : Int)) _ fun d R e2 => by rw [e2]; simp [en_len], show (TS.map fun R => D.int (R.length : Int)) = (TS.map fun R => (R.length : Int)).map .int from by simp] at e
  have sm := v_sum (S ++ [.ins cx_Program []]) (TS.map fun R => (R.length : Int))
  rw [sum_int] at sm
  by_cases hs : (TS.map List.length).sum ≤ 24
  · rw [ok hs]
    apply s_ifF
    · (repeat first | exact o_len_as (asLL_asL h1) | exact con_of last_get rfl rfl | exact e | exact sm | exact e_P _ | (apply e_var; rfl) | exact e_nil | apply e_op2 | apply e_op1 | apply e_opA | apply e_cons | apply e_call | apply e_callC | apply e_T | apply e_notT | apply e_notV | apply e_str1 | apply e_part | apply e_sl | apply e_ch | apply e_orT | apply e_andT | apply e_orV | apply e_andV | exact v_add _ _ _ | exact v_sub _ _ _ | exact v_lt _ _ _ | exact v_le _ _ _ | exact v_gt _ _ _ | exact v_ge _ _ _ | exact v_cint _ _ | exact o_len_l | exact o_len_t | exact o_tup (by simp) | exact o_lst (by simp) | exact s_skip | exact s_retN | assumption)
    · simp [h2]; omega
    · exact s_skip
  · rw [bad hs]
    apply s_ifT
    · (repeat first | exact o_len_as (asLL_asL h1) | exact con_of last_get rfl rfl | exact e | exact sm | exact e_P _ | (apply e_var; rfl) | exact e_nil | apply e_op2 | apply e_op1 | apply e_opA | apply e_cons | apply e_call | apply e_callC | apply e_T | apply e_notT | apply e_notV | apply e_str1 | apply e_part | apply e_sl | apply e_ch | apply e_orT | apply e_andT | apply e_orV | apply e_andV | exact v_add _ _ _ | exact v_sub _ _ _ | exact v_lt _ _ _ | exact v_le _ _ _ | exact v_gt _ _ _ | exact v_ge _ _ _ | exact v_cint _ _ | exact o_len_l | exact o_len_t | exact o_tup (by simp) | exact o_lst (by simp) | exact s_skip | exact s_retN | assumption)
    · simp [h2]; omega
    · exact s_raise
abbrev pb : Bind := bTup 2 (bCons (bN 5) (bCons (bN 6) (bNil)))
abbrev pb2 : Bind := bTup 2 (bCons (bN 3) (bCons (bN 4) (bNil)))
theorem isrow_no : ("_is_row" : Str) ≠ "cells" := by decide
/-- the check of one row -/
theorem prow_step {T : Store} {i : Nat} {dR : D} {lR : List D} (hR : asLL T dR = some lR) (hi : T[i]? = some (.ins cx_Program [("cells", .tup (cs.map .str))])) {j : Int} {x : D} {b : Bool} {o3 : Option D} (e : m_Program_is_row [.ref i, x, .int lR.length] T = some (.ok (.bl b), T)) {r : Option (Out × Store)}
    (ok : b = true → r = some (.nx (pg i cd td o3 (some dR) (some (.int j)) (some x)), T)) (bad : b = false → mRaiseF cx_InvalidRow ["thread", "row"] (mCons (mVar 3) (mCons (mVar 5) (mNil))) (pg i cd td o3 (some dR) (some (.int j)) (some x)) T = r) : bd_Program__init__0 (pg i cd td o3 (some dR) (some (.int j)) (some x)) T = r := by
  have q : List.lookup ("_is_row" : Str) [(("cells" : Str), D.tup (cs.map .str))] = none := by
    have h1 : (("_is_row" : Str) == "cells") = false := by decide
    simp [List.lookup, h1]
  unfold bd_Program__init__0
  cases b with
  | true =>
    rw [ok rfl]
    apply s_ifF
    · (repeat first | exact e_meth (e_var rfl) hi q rfl (e_cons (e_var rfl) (e_cons (e_opA (e_cons (e_var rfl) e_nil) (o_len_as (asLL_asL hR))) e_nil)) e | exact e_P _ | (apply e_var; rfl) | exact e_nil | apply e_op2 | apply e_op1 | apply e_opA | apply e_cons | apply e_call | apply e_callC | apply e_T | apply e_notT | apply e_notV | apply e_str1 | apply e_part | apply e_sl | apply e_ch | apply e_orT | apply e_andT | apply e_orV | apply e_andV | exact v_add _ _ _ | exact v_sub _ _ _ | exact v_lt _ _ _ | exact v_le _ _ _ | exact v_gt _ _ _ | exact v_ge _ _ _ | exact v_cint _ _ | exact o_len_l | exact o_len_t | exact o_tup (by simp) | exact o_lst (by simp) | exact s_skip | exact s_retN | assumption)
    · rfl
    · exact s_skip
  | false =>
    apply s_ifT
    · (repeat first | exact e_meth (e_var rfl) hi q rfl (e_cons (e_var rfl) (e_cons (e_opA (e_cons (e_var rfl) e_nil) (o_len_as (asLL_asL hR))) e_nil)) e | exact e_P _ | (apply e_var; rfl) | exact e_nil | apply e_op2 | apply e_op1 | apply e_opA | apply e_cons | apply e_call | apply e_callC | apply e_T | apply e_notT | apply e_notV | apply e_str1 | apply e_part | apply e_sl | apply e_ch | apply e_orT | apply e_andT | apply e_orV | apply e_andV | exact v_add _ _ _ | exact v_sub _ _ _ | exact v_lt _ _ _ | exact v_le _ _ _ | exact v_gt _ _ _ | exact v_ge _ _ _ | exact v_cint _ _ | exact o_len_l | exact o_len_t | exact o_tup (by simp) | exact o_lst (by simp) | exact s_skip | exact s_retN | assumption)
    · rfl
    · exact bad rfl
theorem hasC_of {T : Store} {i : Nat} (hi : T[i]? = some (.ins cx_Program [("cells", .tup (cs.map .str))])) : HasC T i cs := o_fld hi rfl rfl
/-- valid rows are passed -/
theorem prows_pass {T : Store} {i : Nat} {dR : D} {n : Nat} {lR : List D} (hR : asLL T dR = some lR) (hn : lR.length = n) (hi : T[i]? = some (.ins cx_Program [("cells", .tup (cs.map .str))])) {src : Src} (hs : srcOk T src) {o3 : Option D} : ∀ (R : Rows) (k : Nat) (o5 o6 : Option D), (∀ x ∈ R, x.vd cs n = true) →
    ∃ p5 p6, ∀ rest, forGo src pb bd_Program__init__0 (enumF (k : Int) (en R ++ rest)) (pg i cd td o3 (some dR) o5 o6) T = forGo src pb bd_Program__init__0 (enumF ((k + R.length : Nat) : Int) rest) (pg i cd td o3 (some dR) p5 p6) T
  | [], k, o5, o6, _ => ⟨o5, o6, fun rest => by simp [en]⟩
  | x :: R, k, o5, o6, h => by
    obtain ⟨p5, p6, e⟩ := prows_pass hR hn hi hs (o3 := o3) R (k + 1) (some (.int k)) (some (enc x)) fun y hy => h y (List.mem_cons_of_mem _ hy)
    refine ⟨p5, p6, fun rest => ?_⟩
    have er := row_ev (hasC_of hi) (h x List.mem_cons_self)
    rw [← hn] at er
    show forGo src pb bd_Program__init__0 (.tup [.int (k : Int), enc x] :: enumF ((k : Int) + 1) (en R ++ rest)) _ T = _
    refine for_cons hs rfl (prow_step hR hi (j := k) er (fun _ => rfl) fun z => by cases z) ?_
    have e1 : ((k : Int) + 1) = ((k + 1 : Nat) : Int) := by omega
    have e2 : k + (x :: R).length = k + 1 + R.length := by simp; omega
    rw [e1, e2]
    exact e rest
/-- a thread of valid rows is passed -/
theorem pthread_pass {T : Store} {i : Nat} {dR : D} {R : Rows} (hR : asLL T dR = some (en R)) (hi : T[i]? = some (.ins cx_Program [("cells", .tup (cs.map .str))])) {o3 o5 o6 : Option D} (h : ∀ x ∈ R, x.vd cs R.length = true) :
    ∃ p5 p6, bd_Program__init__1 (pg i cd td o3 (some dR) o5 o6) T = some (.nx (pg i cd td o3 (some dR) p5 p6), T) := by
  obtain ⟨o, q1, q2⟩ := srcL_of hR
  obtain ⟨p5, p6, e⟩ := prows_pass (cd := cd) (td := td) hR (en_len R) hi (src := (enumF 0 (en R), o)) (q2 _) (o3 := o3) R 0 o5 o6 h
  refine ⟨p5, p6, ?_⟩
  unfold bd_Program__init__1
  refine s_for (e_enum1 (e_cons (e_var rfl) e_nil) q1) ?_
  have := e []
  rw [List.append_nil] at this
  exact this.trans (for_nil (q2 _))
/-- valid threads are passed -/
theorem pthreads_pass {T : Store} {i : Nat} (hi : T[i]? = some (.ins cx_Program [("cells", .tup (cs.map .str))])) {src : Src} (hs : srcOk T src) : ∀ (tds : List D) (UR : List Rows) (k : Nat) (o3 o4 o5 o6 : Option D), tds.length = UR.length → (∀ (k : Nat) (d : D), tds[k]? = some d → ∃ R, UR[k]? = some R ∧ asLL T d = some (en R)) → (∀ R ∈ UR, ∀ x ∈ R, x.vd cs R.length = true) →
    ∃ p3 p4 p5 p6, ∀ rest, forGo src pb2 bd_Program__init__1 (enumF (k : Int) (tds ++ rest)) (pg i cd td o3 o4 o5 o6) T = forGo src pb2 bd_Program__init__1 (enumF ((k + UR.length : Nat) : Int) rest) (pg i cd td p3 p4 p5 p6) T
  | [], [], k, o3, o4, o5, o6, _, _, _ => ⟨o3, o4, o5, o6, fun rest => by simp⟩
  | [], _ :: _, _, _, _, _, _, hl, _, _ => by simp at hl
  | _ :: _, [], _, _, _, _, _, hl, _, _ => by simp at hl
  | d :: tds, R :: UR, k, o3, o4, o5, o6, hl, h, hv => by
    obtain ⟨R', h1, h2⟩ := h 0 d rfl
    cases h1
    obtain ⟨p5, p6, e⟩ := pthread_pass (cd := cd) (td := td) h2 hi (o3 := some (.int k)) (o5 := o5) (o6 := o6) (hv R List.mem_cons_self)
    obtain ⟨r3, r4, r5, r6, e2⟩ := pthreads_pass hi hs tds UR (k + 1) (some (.int k)) (some d) p5 p6 (by simpa using hl) (fun k x hx => h (k + 1) x (by simpa using hx)) fun Q hQ => hv Q (List.mem_cons_of_mem _ hQ)
    refine ⟨r3, r4, r5, r6, fun rest => ?_⟩
    show forGo src pb2 bd_Program__init__1 (.tup [.int (k : Int), d] :: enumF ((k : Int) + 1) (tds ++ rest)) _ T = _
    refine for_cons hs rfl e ?_
    have e3 : ((k : Int) + 1) = ((k + 1 : Nat) : Int) := by omega
    have e4 : k + (R :: UR).length = k + 1 + UR.length := by simp; omega
    rw [e3, e4]
    exact e2 rest
theorem pinit_ev (K : Pk cs TS) (A : Arg S cd td cs TS) : m_Program__init_ [.ref S.length, cd, td] (S ++ [.ins cx_Program []]) = some (.ok .non, S ++ [prC cs TS]) := by
  have t1 := K.l1
  have t3 := K.l3
  have A1 := A.app (x := [Cell.ins cx_Program [("cells", .tup (cs.map .str))]])
  obtain ⟨c0, tds, h1, h2, h3⟩ := A1
  have hi : (S ++ [.ins cx_Program [("cells", .tup (cs.map .str))]])[S.length]? = some (.ins cx_Program [("cells", .tup (cs.map .str))]) := last_get
  obtain ⟨o, q1, q2⟩ := srcL_of h1
  obtain ⟨p3, p4, p5, p6, e⟩ := pthreads_pass (cd := cd) (td := td) hi (src := (enumF 0 tds, o)) (q2 _) tds TS 0 none none none none h2 h3 K.vd
  unfold m_Program__init_
  refine fn_nx (g := pg S.length cd td p3 p4 p5 p6) rfl ?_
  unfold b_Program__init_
  refine s_seq (pinit_cells K.c A rfl) (s_seq (pinit_names K.c A rfl) (s_seq (pinit_shape t1 t3 A rfl (fun _ => rfl) fun z => absurd K.sum z) ?_))
  refine s_seq (s_setF (e_opA (e_cons (e_var rfl) e_nil) (z := .tup (cs.map .str)) ?_) (e_var rfl) last_get rfl (by decide)) ?_
  · have := A.app (x := [Cell.ins cx_Program []]) |>.c
    cases cd <;> simp only [asL] at this <;> first | (cases this; rfl) | (cases this; done) | skip
    simp only [cTuple, asLL, this, Option.map_some]
  show mSeq _ _ (pg S.length cd td none none none none) ((S ++ [Cell.ins cx_Program []]).set S.length (.ins cx_Program [("cells", .tup (cs.map .str))])) = _
  rw [last_set]
  refine s_seq (s_for (e_enum1 (e_cons (e_var rfl) e_nil) q1) (r := some (.nx (pg S.length cd td p3 p4 p5 p6), S ++ [Cell.ins cx_Program [("cells", .tup (cs.map .str))]])) ?_) ?_
  · have := e []
    rw [List.append_nil] at this
    exact this.trans (for_nil (q2 _))
  obtain ⟨o', r1, r2⟩ := e_I_as (m := mVar 2) (g := pg S.length cd td p3 p4 p5 p6) (e_var rfl) (asLL_asL h1)
  have el := lc_reps (vs := [4]) (b := bN 4) (me := mOpA cList (mCons (mVar 4) (mNil))) (f := fun d => match asLL (S ++ [.ins cx_Program [("cells", .tup (cs.map .str))]]) d with | some l => .lst l | none => .non) r1 r2 (by omega) fun d hd => by
    obtain ⟨k, hk⟩ := List.mem_iff_getElem?.mp hd
    obtain ⟨R, e1, e2⟩ := h3 k d hk
    exact ⟨_, rfl, by rw [e2]; (repeat first | exact o_list_as (asLL_asL e2) | exact e_P _ | (apply e_var; rfl) | exact e_nil | apply e_op2 | apply e_op1 | apply e_opA | apply e_cons | apply e_call | apply e_callC | apply e_T | apply e_notT | apply e_notV | apply e_str1 | apply e_part | apply e_sl | apply e_ch | apply e_orT | apply e_andT | apply e_orV | apply e_andV | exact v_add _ _ _ | exact v_sub _ _ _ | exact v_lt _ _ _ | exact v_le _ _ _ | exact v_gt _ _ _ | exact v_ge _ _ _ | exact v_cint _ _ | exact o_len_l | exact o_len_t | exact o_tup (by simp) | exact o_lst (by simp) | exact s_skip | exact s_retN | assumption)⟩
  rw [Arg.maps h1 h2 h3 (fun R => .lst (en R)) _ fun d R e2 => by rw [e2]] at el
  rw [s_setF el (e_var rfl) last_get rfl (by simp), last_set]
  simp [putD, nc, prC, tsD]
theorem pmake_ev (K : Pk cs TS) (A : Arg S cd td cs TS) {S0 : Store} {ma : Mi.M (List D)} {g : Gm} (h : ma g S0 = some (.ok [cd, td], S)) : mMake cx_Program m_Program__init_ ma g S0 = some (.ok (.ref S.length), S ++ [prC cs TS]) := e_make h (pinit_ev K A)
end
end Lw
namespace Lw.P
open PySem L2 Mi TL
/-! ### texts -/
def mkS (l : List Nat) : Str := ⟨l.toArray⟩
theorem tl_mkS (l : List Nat) : tl (mkS l) = l := rfl
theorem len_mkS (l : List Nat) : (mkS l).length = l.length := by simp [mkS, Str.length]
theorem joinL_one : ∀ l : List Nat, joinL [] (l.map fun c => [c]) = l
  | [] => rfl
  | [c] => rfl
  | c :: d :: l => by
    show [c] ++ ([] ++ joinL [] ((d :: l).map fun c => [c])) = _
    rw [joinL_one (d :: l)]; rfl
theorem join_chars (l : List Nat) : Txt.join "" (l.map fun c => mkS [c]) = mkS l := by
  refine ext_tl ?_
  rw [join_eq, tl_join, tl_mkS, List.map_map]
  have e : tl ("" : Str) = [] := by decide +kernel
  rw [e]
  exact joinL_one l
abbrev abc : Str := "abcdefghijklmnopqrstuvwxyz"
abbrev digs : Str := "0123456789"
theorem abc_cps : tl abc = (List.range 26).map (97 + ·) := by decide +kernel
theorem digs_cps : tl digs = (List.range 10).map (48 + ·) := by decide +kernel
theorem ix_abc {S : Store} {i : Int} (h0 : 0 ≤ i) (h1 : i < 26) : fIx S (.str abc) (.int i) = some (.str (mkS [97 + i.toNat])) := by
  have hz : szOk abc.length = true := sz_ok (by decide +kernel)
  show (if szOk abc.length = true then (atI abc.cps.toList i).map _ else none) = _
  rw [if_pos hz]
  have e : i = (i.toNat : Nat) := by omega
  have hj : i.toNat < 26 := by omega
  rw [e, atI_nat (v := 97 + i.toNat)]
  · rfl
  · show (tl abc)[i.toNat]? = _
    rw [abc_cps]; simp [hj]
/-- the word -/
def wordF (l : List Int) (at_ : Int) : List Nat := (List.range (1 + drawF l at_ 6).toNat).map fun (i : Nat) => 97 + (drawF l (at_ + 1 + (i : Int)) 26).toNat
theorem word_ev {l : List Int} {at_ : Int} {S : Store} (h : 0 ≤ at_) : m_law_word [.lst (l.map .int), .int at_] S = some (.ok (.str (mkS (wordF l at_))), S) := by
  have d0 := drawF_ge l at_ (many := 6) (by decide)
  have d1 := drawF_lt l at_ (many := 6) (by decide)
  have e := draw_ev (l := l) (k := at_) (many := 6) (S := S) h (by decide)
  have lc : mLc [4] (mRng (mCons (mVar 3) mNil)) (bN 4) (mP true) (mOp2 fIx (mVar 2) (mCall m_law_draw (mCons (mVar 0) (mCons (mOp2 fAdd (mOp2 fAdd (mVar 1) (mP (.int 1))) (mVar 4)) (mCons (mP (.int 26)) mNil)))))
      [some (.lst (l.map .int)), some (.int at_), some (.str abc), some (.int (1 + drawF l at_ 6)), none] S = some (.ok (.lst (((wordF l at_).map fun c => mkS [c]).map .str)), S) := by
    refine v_lc (S1 := S) (src := (rngD 0 (1 + drawF l at_ 6).toNat, none)) (by simp [big_ok (i := 1 + drawF l at_ 6) (by omega)]) ?_
    rw [lcGo_map (src := (rngD 0 (1 + drawF l at_ 6).toNat, none)) (fun d => match d with | .int i => .str (mkS [97 + (drawF l (at_ + 1 + i) 26).toNat]) | _ => .non) True.intro]
    · simp [rngD, wordF]
    · intro d hd
      simp only [rngD, List.mem_map, List.mem_range] at hd
      obtain ⟨i, hi, rfl⟩ := hd
      refine ⟨_, rfl, ?_⟩
      have e2 := draw_ev (l := l) (k := at_ + 1 + i) (many := 26) (S := S) (by omega) (by decide)
      have e3 := ix_abc (S := S) (drawF_ge l (at_ + 1 + i) (many := 26) (by decide)) (drawF_lt l (at_ + 1 + i) (many := 26) (by decide))
      simp [wipeG, e2, e3]
    · simp [rngD]; omega
  have j : fJoin S (.str "") (.lst (((wordF l at_).map fun c => mkS [c]).map .str)) = some (.str (mkS (wordF l at_))) := by
    show ((some _).bind strsOf).bind _ = _
    rw [Option.bind_some, strsOf_map, Option.bind_some, if_pos (sz_ok ?_), join_chars]
    have e0 : ("" : Str).length = 0 := by decide +kernel
    have e1 : ∀ w : List Nat, ((w.map fun c => mkS [c]).map (·.length)).sum = w.length := fun w => by
      induction w with
      | nil => rfl
      | cons c w ih => simp only [List.map_cons, List.sum_cons, ih, len_mkS, List.length_cons, List.length_nil]; omega
    rw [e0, e1]
    simp [wordF]; omega

  simp [-List.map_map, m_law_word, b_law_word, e, lc, j]
theorem wordF_len (l : List Int) (at_ : Int) : 1 ≤ (wordF l at_).length ∧ (wordF l at_).length ≤ 6 := by
  have d0 := drawF_ge l at_ (many := 6) (by decide)
  have d1 := drawF_lt l at_ (many := 6) (by decide)
  simp [wordF]; omega
theorem wordF_abc (l : List Int) (at_ : Int) : ∀ c ∈ wordF l at_, 97 ≤ c ∧ c ≤ 122 := fun c hc => by
  simp only [wordF, List.mem_map, List.mem_range] at hc
  obtain ⟨i, _, rfl⟩ := hc
  have d0 := drawF_ge l (at_ + 1 + i) (many := 26) (by decide)
  have d1 := drawF_lt l (at_ + 1 + i) (many := 26) (by decide)
  omega
end Lw.P
namespace Lw.P
open PySem L2 Mi TL
/-- a text's signs; kept closed -/
def cs (z : Str) : List Nat := z.cps.toList
theorem cs_tl (z : Str) : cs z = tl z := rfl
theorem cs_len (z : Str) : (cs z).length = z.length := by simp [cs, Str.length]
theorem cs_mkS (l : List Nat) : cs (mkS l) = l := rfl
theorem mkS_cs (z : Str) : mkS (cs z) = z := mk_tl z
theorem cs_inj {x y : Str} (h : cs x = cs y) : x = y := ext_tl h
def isLet (c : Nat) : Bool := decide (97 ≤ c) && decide (c ≤ 122)
def isDig (c : Nat) : Bool := decide (48 ≤ c) && decide (c ≤ 57)
def isDig1 (c : Nat) : Bool := decide (49 ≤ c) && decide (c ≤ 57)
theorem mem_let (c : Nat) : decide (c ∈ tl abc) = isLet c := by
  rw [abc_cps, isLet, ← Bool.decide_and]
  refine decide_eq_decide.mpr ⟨fun h => ?_, fun h => ?_⟩
  · obtain ⟨i, hi, rfl⟩ := List.mem_map.mp h
    have := List.mem_range.mp hi; omega
  · exact List.mem_map.mpr ⟨c - 97, List.mem_range.mpr (by omega), by omega⟩
theorem mem_dig (c : Nat) : decide (c ∈ tl digs) = isDig c := by
  rw [digs_cps, isDig, ← Bool.decide_and]
  refine decide_eq_decide.mpr ⟨fun h => ?_, fun h => ?_⟩
  · obtain ⟨i, hi, rfl⟩ := List.mem_map.mp h
    have := List.mem_range.mp hi; omega
  · exact List.mem_map.mpr ⟨c - 48, List.mem_range.mpr (by omega), by omega⟩
theorem mem_dig1 (c : Nat) : decide (c ∈ tl (cutS digs (some 1) none)) = isDig1 c := by
  have e1 : tl (cutS digs (some 1) none) = (List.range 9).map (49 + ·) := by decide +kernel
  rw [e1, isDig1, ← Bool.decide_and]
  refine decide_eq_decide.mpr ⟨fun h => ?_, fun h => ?_⟩
  · obtain ⟨i, hi, rfl⟩ := List.mem_map.mp h
    have := List.mem_range.mp hi; omega
  · exact List.mem_map.mpr ⟨c - 49, List.mem_range.mpr (by omega), by omega⟩
theorem in_let {S : Store} {c : Nat} : fIn S (.str (mkS [c])) (.str abc) = some (.bl (isLet c)) := by rw [← mem_let]; rfl
theorem in_dig {S : Store} {c : Nat} : fIn S (.str (mkS [c])) (.str digs) = some (.bl (isDig c)) := by rw [← mem_dig]; rfl
theorem in_dig1 {S : Store} {c : Nat} : fIn S (.str (mkS [c])) (.str (cutS digs (some 1) none)) = some (.bl (isDig1 c)) := by rw [← mem_dig1]; rfl
/-- the form of a name -/
def nameL (z : List Nat) : Bool := decide (1 ≤ z.length) && decide (z.length ≤ 6) && z.all isLet
theorem chars_eq (z : Str) : chars z = (cs z).map fun c => .str (mkS [c]) := rfl
def hd1 (x : Str) : Nat := (cs x).getD 0 0
theorem hd1_mk (c : Nat) : hd1 (mkS [c]) = c := rfl
theorem is_name_ev {z : Str} {S : Store} (h : z.length ≤ 16777216) : m_is_name [.str z] S = some (.ok (.bl (nameL (cs z))), S) := by
  have lc : mLc [1] (mI (mVar 0)) (bN 1) (mP true) (mOp2 fIn (mVar 1) (mP k_LETTERS)) [some (.str z), none] S = some (.ok (.lst (((cs z).map isLet).map .bl)), S) := by
    refine v_lc (S1 := S) (src := (chars z, none)) (by simp) ?_
    rw [lcGo_map (src := (chars z, none)) (fun d => match d with | .str x => .bl (isLet (hd1 x)) | _ => .non) True.intro]
    · simp [chars_eq, hd1_mk]
    · intro d hd
      rw [chars_eq] at hd
      obtain ⟨c, _, rfl⟩ := List.mem_map.mp hd
      refine ⟨_, rfl, ?_⟩
      simp [wipeG, k_LETTERS, in_let, hd1_mk]
    · simp [chars_eq, cs_len]; exact h
  have a := v_all S ((cs z).map isLet)
  have le := v_lenS S z h
  have e0 := cs_len z
  by_cases h1 : 1 ≤ z.length
  · by_cases h2 : z.length ≤ 6
    · have h1' : (1 : Int) ≤ z.length := by omega
      have h2' : (z.length : Int) ≤ 6 := by omega
      simp [-List.map_map, m_is_name, b_is_name, le, lc, a, h1', h2', nameL, e0, h1, h2, List.all_map]
    · have h1' : (1 : Int) ≤ z.length := by omega
      have h2' : ¬ (z.length : Int) ≤ 6 := by omega
      simp [m_is_name, b_is_name, le, h1', h2', nameL, e0, h2]
  · have h1' : ¬ (1 : Int) ≤ z.length := by omega
    simp [m_is_name, b_is_name, le, h1', nameL, e0, h1]
def valueL : List Nat → Bool
  | [c] => isDig c
  | _ => false
theorem is_value_ev {z : Str} {S : Store} (h : z.length ≤ 16777216) : m_is_value [.str z] S = some (.ok (.bl (valueL (cs z))), S) := by
  have le := v_lenS S z h
  have e0 := cs_len z
  by_cases h1 : z.length = 1
  · have h1' : (z.length : Int) = 1 := by omega
    obtain ⟨c, hc⟩ : ∃ c, cs z = [c] := List.length_eq_one_iff.mp (by rw [e0]; exact h1)
    have ez : z = mkS [c] := cs_inj hc
    have e : fIn S (.str z) (.str digs) = some (.bl (isDig c)) := by rw [ez]; exact in_dig
    simp [m_is_value, b_is_value, le, h1', k_DIGITS, e, hc, valueL]
  · have h1' : ¬ (z.length : Int) = 1 := by omega
    have hv : valueL (cs z) = false := by
      match hz : cs z with
      | [] => rfl
      | [c] => rw [hz] at e0; simp at e0; omega
      | _ :: _ :: _ => rfl
    simp [m_is_value, b_is_value, le, h1', hv]
def targetL : List Nat → Bool
  | [c, d] => isDig1 c && isDig d
  | z => valueL z
theorem ixS_ev {z : Str} {i c : Nat} {S : Store} (h : z.length ≤ 16777216) (hi : (cs z)[i]? = some c) : fIx S (.str z) (.int (i : Int)) = some (.str (mkS [c])) := by
  show (if szOk z.length = true then (atI (cs z) (i : Int)).map _ else none) = _
  rw [if_pos (sz_ok h), atI_nat hi]
  rfl
theorem is_target_ev {z : Str} {S : Store} (h : z.length ≤ 16777216) : m_is_target [.str z] S = some (.ok (.bl (targetL (cs z))), S) := by
  have le := v_lenS S z h
  have e0 := cs_len z
  have v := is_value_ev (S := S) h
  by_cases h1 : z.length = 2
  · have h1' : (z.length : Int) = 2 := by omega
    obtain ⟨c, d, hc⟩ : ∃ c d, cs z = [c, d] := by
      match hz : cs z with
      | [] => rw [hz] at e0; simp at e0; omega
      | [c] => rw [hz] at e0; simp at e0; omega
      | [c, d] => exact ⟨c, d, rfl⟩
      | _ :: _ :: _ :: _ => rw [hz] at e0; simp at e0; omega
    have x0 := ixS_ev (S := S) (i := 0) (c := c) h (by rw [hc]; rfl)
    have x1 := ixS_ev (S := S) (i := 1) (c := d) h (by rw [hc]; rfl)
    have sl : fSl S (.str digs) (some 1) none = some (.str (cutS digs (some 1) none)) := by
      show (if szOk digs.length = true then _ else none) = _
      rw [if_pos (sz_ok (by decide +kernel))]
    simp only [Int.ofNat_zero, Int.natCast_one] at x0 x1
    have n0 := in_dig1 (S := S) (c := c)
    have n1 := in_dig (S := S) (c := d)
    cases q : isDig1 c <;> rw [q] at n0 <;> simp [m_is_target, b_is_target, le, h1', k_DIGITS, x0, x1, sl, n0, n1, targetL, hc, q]
  · have h1' : ¬ (z.length : Int) = 2 := by omega
    have hv : targetL (cs z) = valueL (cs z) := by
      match hz : cs z with
      | [] => rfl
      | [c] => rfl
      | [c, d] => rw [hz] at e0; simp at e0; omega
      | _ :: _ :: _ :: _ => rfl
    simp [m_is_target, b_is_target, le, h1', v, hv]
end Lw.P
namespace Lw.P
open PySem L2 Mi TL
@[simp] theorem ms_nil : matchSeqD [] [] = some (some []) := id rfl
@[simp] theorem ms_val (s x : Str) (ps : List PatE) (ds : List D) : matchSeqD (.val s :: ps) (.str x :: ds) = if x = s then matchSeqD ps ds else some none := by
  show (if scal (.str x) (.str s) = true then (if V.str x = V.str s then _ else _) else none) = _
  rw [if_pos (show scal (.str x) (.str s) = true from rfl)]
  by_cases h : x = s
  · subst h; rw [if_pos rfl, if_pos rfl]
  · rw [if_neg h, if_neg (fun e => h (V.str.inj e))]
@[simp] theorem ms_cap (i : Nat) (d : D) (ps : List PatE) (ds : List D) : matchSeqD (.cap i :: ps) (d :: ds) = match matchSeqD ps ds with
    | some (some bs) => some (some ((i, d) :: bs))
    | r => r := id rfl
@[simp] theorem bindAll_nil (g : Gm) : bindAll [] g = g := id rfl
@[simp] theorem bindAll_cons (i : Nat) (d : D) (bs : List (Nat × D)) (g : Gm) : bindAll ((i, d) :: bs) g = bindAll bs (g.set i (some d)) := id rfl
@[simp] theorem asL_lst (S : Store) (l : List D) : asL S (.lst l) = some l := id rfl
@[simp] theorem asL_tup (S : Store) (l : List D) : asL S (.tup l) = some l := id rfl
theorem in_kind {S : Store} {a : Str} : fIn S (.str a) (.tup [.str "store", .str "swap"]) = some (.bl (decide (a = "store") || decide (a = "swap"))) := by
  show some (D.bl (inV (.str a) [.str "store", .str "swap"])) = _
  have e : ∀ x : Str, eqV (.str x) (.str a) = decide (a = x) := fun x => by
    show (x == a) = _
    rw [Bool.beq_eq_decide_eq]; exact decide_eq_decide.mpr ⟨Eq.symm, Eq.symm⟩
  simp [inV, e]
/-- one or two digits' number -/
def tgtN : List Nat → Int
  | [c] => (c : Int) - 48
  | [c, d] => ((c : Int) - 48) * 10 + ((d : Int) - 48)
  | _ => 0
theorem int_dig {S : Store} {z : Str} (h : (cs z).all isDig = true) (hn : cs z ≠ []) (hl : (cs z).length ≤ 2) : cInt S [.str z] = some (.int (tgtN (cs z))) := by
  have ad : NumText.AllDigits z.cps.toList := fun c hc => by
    have := List.all_eq_true.mp h c hc
    simp [isDig] at this
    omega
  have e := intText_digits (x := z) ad hn (by rw [← cs_len]; omega)
  show (if cdec (z.length ≤ 640) = true then (PySem.intText? z).map D.int else none) = _
  rw [if_pos (cdec_iff.mpr (by rw [← cs_len]; omega)), e]
  have : (NumText.digitsVal z.cps.toList : Int) = tgtN (cs z) := by
    show (NumText.digitsVal (cs z) : Int) = _
    match hz : cs z with
    | [] => exact absurd hz hn
    | [c] =>
      rw [hz] at h; simp [isDig] at h
      simp [NumText.digitsVal, tgtN]; omega
    | [c, d] =>
      rw [hz] at h; simp [isDig] at h
      simp [NumText.digitsVal, tgtN]; omega
    | _ :: _ :: _ :: _ => rw [hz] at hl; simp at hl
  simp [this]
theorem value_dig {z : List Nat} (h : valueL z = true) : z.all isDig = true ∧ z ≠ [] ∧ z.length ≤ 2 := by
  match z, h with
  | [c], h => simpa [valueL] using h
theorem target_dig {z : List Nat} (h : targetL z = true) : z.all isDig = true ∧ z ≠ [] ∧ z.length ≤ 2 := by
  match z, h with
  | [c], h => simpa [targetL, valueL] using h
  | [c, d], h =>
    simp [targetL, isDig1, isDig] at h ⊢
    omega
def parseW : List Str → Option D
  | [a] => if a = "fence" then some (.tup [.str "fence"]) else none
  | [a, b] => if a = "load" then (if nameL (cs b) = true then some (.tup [.str "load", .str b]) else none)
      else if a = "jump" then (if targetL (cs b) = true then some (.tup [.str "jump", .int (tgtN (cs b))]) else none) else none
  | [a, b, c] => if a = "test" then (if valueL (cs b) = true ∧ targetL (cs c) = true then some (.tup [.str "test", .int (tgtN (cs b)), .int (tgtN (cs c))]) else none)
      else if (a = "store" ∨ a = "swap") ∧ nameL (cs b) = true then (if c = "r" then some (.tup [.str a, .str b, .str "r"]) else if valueL (cs c) = true then some (.tup [.str a, .str b, .int (tgtN (cs c))]) else none) else none
  | _ => none
theorem sz3 {n : Nat} (h : n ≤ 100 := by decide) : szOk n = true := sz_ok (by omega)
@[simp] theorem v_tup0 (S : Store) (l : List D) (h : szOk l.length = true) : fTup S l = some (.tup l) := if_pos h
theorem parse_pos {line : Str} {S : Store} {ws : List Str} {d : D} (hs : fSplit S (.str line) (.str " ") = some (.lst (ws.map .str))) (hl : ∀ w ∈ ws, w.length ≤ 16777216) (e : parseW ws = some d) : m_parse_row [.str line] S = some (.ok d, S) := by
  match ws, e with
  | [a], e =>
    simp only [parseW] at e
    split at e
    · rename_i h
      subst h; cases e
      simp [m_parse_row, b_parse_row, hs, v_tup0, sz3]
    · cases e
  | [a, b], e =>
    simp only [parseW] at e
    have hb : b.length ≤ 16777216 := hl b (by simp)
    have n1 : ¬ (("load" : Str) = "fence") := by decide +kernel
    have n2 : ¬ (("jump" : Str) = "load") := by decide +kernel
    split at e
    · rename_i h
      subst h
      split at e
      · rename_i hn
        cases e
        have := is_name_ev (S := S) hb
        simp [m_parse_row, b_parse_row, hs, v_tup0, sz3, this, hn]
      · cases e
    · rename_i h0
      split at e
      · rename_i h
        subst h
        split at e
        · rename_i hn
          cases e
          have := is_target_ev (S := S) hb
          obtain ⟨q1, q2, q3⟩ := target_dig hn
          have i := int_dig (S := S) q1 q2 q3
          simp [m_parse_row, b_parse_row, hs, v_tup0, sz3, this, hn, i, n2]
        · cases e
      · cases e
  | [a, b, c], e =>
    simp only [parseW] at e
    have hb : b.length ≤ 16777216 := hl b (by simp)
    have hc : c.length ≤ 16777216 := hl c (by simp)
    split at e
    · rename_i h
      subst h
      split at e
      · rename_i hn
        cases e
        have t1 := is_value_ev (S := S) hb
        have t2 := is_target_ev (S := S) hc
        obtain ⟨q1, q2, q3⟩ := value_dig hn.1
        obtain ⟨q4, q5, q6⟩ := target_dig hn.2
        have i := int_dig (S := S) q1 q2 q3
        have j := int_dig (S := S) q4 q5 q6
        simp [m_parse_row, b_parse_row, hs, v_tup0, sz3, t1, t2, hn.1, hn.2, i, j]
      · cases e
    · rename_i h0
      split at e
      · rename_i hn
        have t1 := is_name_ev (S := S) hb
        have t2 := is_value_ev (S := S) hc
        have k := in_kind (S := S) (a := a)
        have k' : (decide (a = "store") || decide (a = "swap")) = true := by simpa using hn.1
        rw [k'] at k
        split at e
        · rename_i hr
          subst hr
          cases e
          simp [m_parse_row, b_parse_row, hs, v_tup0, sz3, t1, hn.2, k, h0]
        · rename_i hr
          split at e
          · rename_i hv
            cases e
            obtain ⟨q1, q2, q3⟩ := value_dig hv
            have i := int_dig (S := S) q1 q2 q3
            simp [m_parse_row, b_parse_row, hs, v_tup0, sz3, t1, t2, hn.2, k, h0, hr, hv, i]
          · cases e
      · cases e
end Lw.P
namespace Lw.P
open PySem L2 Mi TL
/-! ### format_row -/
/-- what str gives of a text or a small number -/
def strF : D → Str
  | .str x => x
  | .int i => Str.ofString (toString i)
  | _ => ""
def strOkD : D → Bool
  | .str _ => true
  | .int i => decide (0 ≤ i) && decide (i ≤ 99)
  | _ => false
theorem cstr_ev {S : Store} {d : D} (h : strOkD d = true) : cStr S [d] = some (.str (strF d)) := by
  cases d with
  | str x => rfl
  | int i =>
    simp [strOkD] at h
    show (if cdec (i.natAbs.log2 < 1920) = true then _ else none) = _
    rw [if_pos (cdec_iff.mpr ?_)]
    · rfl
    · have h1 : i.natAbs ≤ 99 := by omega
      have h2 : i.natAbs.log2 ≤ i.natAbs := Nat.log2_le_self _
      omega
  | _ => cases h
theorem join_ev {S : Store} {sep : Str} {ss : List Str} (h : (ss.map (·.length)).sum + ss.length * sep.length ≤ 16777216) : fJoin S (.str sep) (.lst (ss.map .str)) = some (.str (Txt.join sep ss)) := by
  show ((some _).bind strsOf).bind _ = _
  rw [Option.bind_some, strsOf_map, Option.bind_some, if_pos (sz_ok h)]
theorem format_ev {S : Store} {l : List D} (h : l.all strOkD = true) (hn : l.length ≤ 16777216) (hz : ((l.map strF).map (·.length)).sum + l.length * 1 ≤ 16777216) : m_format_row [.tup l] S = some (.ok (.str (Txt.join " " (l.map strF))), S) := by
  have lc : mLc [1] (mI (mVar 0)) (bN 1) (mP true) (mOpA cStr (mCons (mVar 1) mNil)) [some (.tup l), none] S = some (.ok (.lst ((l.map strF).map .str)), S) := by
    refine v_lc (S1 := S) (src := (l, none)) (by simp) ?_
    rw [lcGo_map (src := (l, none)) (fun d => .str (strF d)) True.intro]
    · simp
    · intro d hd
      refine ⟨_, rfl, ?_⟩
      have e := cstr_ev (S := S) (List.all_eq_true.mp h d hd)
      simp [wipeG, e]
    · simpa using hn
  have e1 : (" " : Str).length = 1 := by decide +kernel
  have j := join_ev (S := S) (sep := " ") (ss := l.map strF) (by rw [e1]; simpa using hz)
  simp [-List.map_map, m_format_row, b_format_row, lc, j]
/-! ### the law -/
theorem j3 (a b c : Str) (A : Str) (h : A = a ++ " ") : A ++ b ++ " " ++ c = Txt.join " " [a, b, c] := by
  subst h
  refine ext_tl ?_
  rw [join_eq, tl_join]
  simp only [tl_append, List.map_cons, List.map_nil, joinL, List.append_assoc]
theorem j2 (a b : Str) (A : Str) (h : A = a ++ " ") : A ++ b = Txt.join " " [a, b] := by
  subst h
  refine ext_tl ?_
  rw [join_eq, tl_join]
  simp only [tl_append, List.map_cons, List.map_nil, joinL, List.append_assoc]
theorem j1 (a : Str) : a = Txt.join " " [a] := by
  refine ext_tl ?_
  rw [join_eq, tl_join]
  rfl
theorem split_ev {S : Store} {ws : List Str} (hne : ws ≠ []) (hp : ∀ p ∈ ws, 32 ∉ cs p) (hz : (Txt.join " " ws).length + 2 ≤ 16777216) : fSplit S (.str (Txt.join " " ws)) (.str " ") = some (.lst (ws.map .str)) := by
  have e : Txt.split (Txt.join " " ws) " " = ws := split_join (y := " ") (s := 32) (S := []) (by decide +kernel) (by decide +kernel) hne hp
  show (if _ ∧ _ then _ else none) = _
  rw [if_pos ⟨by decide +kernel, sz_ok hz⟩, e]
/-- the text of a number below 100 -/
theorem num_ok : ∀ n : Fin 100, targetL (cs (Str.ofString (toString ((n : Nat) : Int)))) = true ∧ tgtN (cs (Str.ofString (toString ((n : Nat) : Int)))) = ((n : Nat) : Int) ∧ 32 ∉ cs (Str.ofString (toString ((n : Nat) : Int))) ∧ (Str.ofString (toString ((n : Nat) : Int))).length ≤ 2 := by decide +kernel
theorem val_ok : ∀ n : Fin 10, valueL (cs (Str.ofString (toString ((n : Nat) : Int)))) = true ∧ ¬ (Str.ofString (toString ((n : Nat) : Int)) = "r") := by decide +kernel
theorem num_at {i : Int} (h0 : 0 ≤ i) (h1 : i < 100) : targetL (cs (strF (.int i))) = true ∧ tgtN (cs (strF (.int i))) = i ∧ 32 ∉ cs (strF (.int i)) ∧ (strF (.int i)).length ≤ 2 := by
  have h := num_ok ⟨i.toNat, by omega⟩
  have e : ((i.toNat : Nat) : Int) = i := by omega
  simp only [e] at h
  exact h
theorem val_at {i : Int} (h0 : 0 ≤ i) (h1 : i < 10) : valueL (cs (strF (.int i))) = true ∧ ¬ (strF (.int i) = "r") := by
  have h := val_ok ⟨i.toNat, by omega⟩
  have e : ((i.toNat : Nat) : Int) = i := by omega
  simp only [e] at h
  exact h
theorem name_at (l : List Int) (at_ : Int) : nameL (cs (mkS (wordF l at_))) = true ∧ 32 ∉ cs (mkS (wordF l at_)) ∧ (mkS (wordF l at_)).length ≤ 6 := by
  obtain ⟨h1, h2⟩ := wordF_len l at_
  have h3 := wordF_abc l at_
  rw [cs_mkS, len_mkS]
  refine ⟨?_, fun h => by have := h3 _ h; omega, h2⟩
  simp only [nameL, Bool.and_eq_true, decide_eq_true_eq, List.all_eq_true, isLet]
  exact ⟨⟨h1, h2⟩, fun c hc => h3 c hc⟩
/-- one kind: the row, its words; its line is what format_row gives, and parse_row gives it back -/
structure RowLine (l : List D) (line : Str) : Prop where
  f : ∀ S, m_format_row [.tup l] S = some (.ok (.str line), S)
  p : ∀ S, m_parse_row [.str line] S = some (.ok (.tup l), S)
  ok : sOk (.tup l) = true ∧ dep (.tup l) < 8
theorem sOks_of : ∀ {l : List D}, (∀ d ∈ l, sOk d = true) → sOks l = true
  | [], _ => rfl
  | d :: l, h => by
    simp only [sOks, Bool.and_eq_true]
    exact ⟨h d List.mem_cons_self, sOks_of fun x hx => h x (List.mem_cons_of_mem _ hx)⟩
theorem deps_of : ∀ {l : List D}, (∀ d ∈ l, dep d = 0) → deps l = 0
  | [], _ => rfl
  | d :: l, h => by
    simp only [deps]
    rw [h d List.mem_cons_self, deps_of fun x hx => h x (List.mem_cons_of_mem _ hx)]; rfl
theorem sum_le : ∀ {ss : List Str} {k : Nat}, (∀ p ∈ ss, p.length ≤ k) → (ss.map (·.length)).sum ≤ ss.length * k
  | [], _, _ => by simp
  | a :: ss, k, h => by
    have h1 := h a List.mem_cons_self
    have h2 := sum_le (ss := ss) fun x hx => h x (List.mem_cons_of_mem _ hx)
    simp only [List.map_cons, List.sum_cons, List.length_cons, Nat.add_mul]
    omega
theorem joinL_le (S : List Nat) : ∀ ps : List (List Nat), (joinL S ps).length ≤ (ps.map (·.length)).sum + ps.length * S.length
  | [] => by simp [joinL]
  | [p] => by simp [joinL]
  | p :: q :: r => by
    have h := joinL_le S (q :: r)
    show (p ++ (S ++ joinL S (q :: r))).length ≤ _
    simp only [List.length_append, List.map_cons, List.sum_cons, List.length_cons, Nat.add_mul] at h ⊢
    omega
theorem join_le {ss : List Str} {k : Nat} (h : ∀ p ∈ ss, p.length ≤ k) : (Txt.join " " ss).length ≤ ss.length * (k + 1) := by
  rw [len_tl, join_eq, tl_join]
  have e2 : tl (" " : Str) = [32] := by decide +kernel
  rw [e2]
  have h1 := joinL_le [32] (ss.map tl)
  have h2 := sum_le h
  have e : (ss.map tl).map (·.length) = ss.map (·.length) := by
    rw [List.map_map]; exact List.map_congr_left fun x _ => (len_tl x).symm
  rw [e] at h1
  simp only [List.length_map, List.length_cons, List.length_nil] at h1
  rw [Nat.mul_add]; omega
theorem row_line {l : List D} (h : l.all strOkD = true) (hne : l ≠ []) (hl : l.length ≤ 3) (hw : ∀ p ∈ l, 32 ∉ cs (strF p) ∧ (strF p).length ≤ 100) (e : parseW (l.map strF) = some (.tup l)) : RowLine l (Txt.join " " (l.map strF)) := by
  have hw2 : ∀ p ∈ l.map strF, p.length ≤ 100 := fun p hp => by
    obtain ⟨d, hd, rfl⟩ := List.mem_map.mp hp
    exact (hw d hd).2
  have hs := sum_le hw2
  have jl := join_le hw2
  rw [List.length_map] at hs jl
  have flat : ∀ d ∈ l, sOk d = true ∧ dep d = 0 := fun d hd => by
    have := List.all_eq_true.mp h d hd
    cases d <;> simp [strOkD] at this <;> simp [sOk, dep]
  refine ⟨fun S => format_ev h (by omega) (by omega), fun S => parse_pos (split_ev (by simpa using hne) (fun p hp => ?_) (by omega)) (fun p hp => by have := hw2 p hp; omega) e, ?_, ?_⟩
  · obtain ⟨d, hd, rfl⟩ := List.mem_map.mp hp
    exact (hw d hd).1
  · simp only [sOk, Bool.and_eq_true]
    exact ⟨sz_ok (by omega), sOks_of fun d hd => (flat d hd).1⟩
  · simp only [dep]
    rw [deps_of fun d hd => (flat d hd).2]; decide
end Lw.P
namespace Lw
open PySem L2 Mi
def csB (cs : List Str) : Bool := decide (1 ≤ cs.length) && decide (cs.length ≤ 3) && decide cs.Nodup && cs.all nameB && cs.all PyData.strOk
theorem cs_of {cs : List Str} (h : csB cs = true) : Cs cs := by
  simp only [csB, Bool.and_eq_true, decide_eq_true_eq] at h
  obtain ⟨⟨⟨⟨h1, h2⟩, h3⟩, h4⟩, h5⟩ := h
  exact ⟨h1, h2, h3, h4, h5⟩
theorem addL {S : Store} (x y : List D) (h : x.length + y.length ≤ 10000) : fAdd S (.lst x) (.lst y) = some (.lst (x ++ y)) := by
  show (if szOk (x.length + y.length) = true then some (D.lst (x ++ y)) else none) = _
  rw [if_pos (sz_ok (by omega))]
theorem value_ev {S : Store} {n : Int} (h : 0 ≤ n) : ∃ v : Int, 0 ≤ v ∧ v ≤ 9 ∧ m_law_value [.int n] S = some (.ok (.int v), S) := by
  obtain ⟨a, ea, ha⟩ := nat_of (Int.emod_nonneg n (b := 14) (by decide)) (Int.emod_lt_of_pos n (b := 14) (by decide))
  have md := v_mod S n 14 (by decide)
  rw [ea] at md
  have e : ∃ v : Int, 0 ≤ v ∧ v ≤ 9 ∧ atI [.int 1, .int 2, .int 1, .int 0, .int 1, .int 2, .int 3, .int 4, .int 5, .int 6, .int 7, .int 8, .int 9, .int 2] (a : Int) = some (D.int v) := by
    have : a = 0 ∨ a = 1 ∨ a = 2 ∨ a = 3 ∨ a = 4 ∨ a = 5 ∨ a = 6 ∨ a = 7 ∨ a = 8 ∨ a = 9 ∨ a = 10 ∨ a = 11 ∨ a = 12 ∨ a = 13 := by omega
    rcases this with rfl | rfl | rfl | rfl | rfl | rfl | rfl | rfl | rfl | rfl | rfl | rfl | rfl | rfl <;> exact ⟨_, by decide, by decide, rfl⟩
  obtain ⟨v, h0, h9, e⟩ := e
  exact ⟨v, h0, h9, by simp [m_law_value, b_law_value, fLst, sz_ok, md, e]⟩
theorem ks : ("load" : Str) ≠ "store" ∧ ("store" : Str) ≠ "load" ∧ ("store" : Str) ≠ "fence" ∧ ("store" : Str) ≠ "test" ∧ ("store" : Str) ≠ "jump" ∧ ("swap" : Str) ≠ "load" ∧ ("swap" : Str) ≠ "fence" ∧ ("swap" : Str) ≠ "test" ∧ ("swap" : Str) ≠ "jump" ∧ ("fence" : Str) ≠ "load" ∧ ("test" : Str) ≠ "load" ∧ ("test" : Str) ≠ "fence" ∧ ("jump" : Str) ≠ "load" ∧ ("jump" : Str) ≠ "fence" ∧ ("jump" : Str) ≠ "test" := by decide +kernel
theorem lrow_ev {p : List Int} {S : Store} {cs : List Str} (C : Cs cs) {at_ : Int} (h : 0 ≤ at_) (n : Nat) (hn : n ≤ 1000) : ∃ x : Row, x.vd cs n = true ∧ m_law_row [.lst (p.map .int), .int at_, .lst (cs.map .str), .int n] S = some (.ok (enc x), S) := by
  have c1 := C.l1
  have d1 := draw_ev (l := p) (k := at_) (many := 8) (S := S) h (by decide)
  have d2 := draw_ev (l := p) (k := at_ + 1) (many := (cs.length : Int)) (S := S) (by omega) (by omega)
  have d3 := draw_ev (l := p) (k := at_ + 2) (many := 840) (S := S) (by omega) (by decide)
  obtain ⟨a, ea, ha⟩ := nat_of (drawF_ge p at_ (many := 8) (by decide)) (drawF_lt p at_ (many := 8) (by decide))
  obtain ⟨w, ew, hw⟩ := nat_of (drawF_ge p (at_ + 1) (many := (cs.length : Int)) (by omega)) (drawF_lt p (at_ + 1) (many := (cs.length : Int)) (by omega))
  have y0 := drawF_ge p (at_ + 2) (many := 840) (by decide)
  have y1 := drawF_lt p (at_ + 2) (many := 840) (by decide)
  rw [ea] at d1
  rw [ew] at d2
  generalize drawF p (at_ + 2) 840 = num at d3 y0 y1
  have ec := at_str (cs := cs) (k := w) (by omega)
  have cm : cs[w] ∈ cs := List.getElem_mem _
  generalize cs[w] = c at ec cm
  obtain ⟨a1, a2, a3, a4, a5, a6, a7, a8, a9, a10, a11, a12, a13, a14, a15⟩ := ks
  have m14 : fDiv S (.int num) (.int 14) = some (.int (num / 14)) := v_div S _ _ (by decide)
  have m4 : fDiv S (.int num) (.int 4) = some (.int (num / 4)) := v_div S _ _ (by decide)
  have r4 := v_mod S num 4 (by decide)
  have rt : fMod S (.int (num / 14)) (.int ((n : Int) + 1)) = some (.int (num / 14 % ((n : Int) + 1))) := v_mod S _ _ (by omega)
  have rj : fMod S (.int num) (.int ((n : Int) + 1)) = some (.int (num % ((n : Int) + 1))) := v_mod S _ _ (by omega)
  obtain ⟨t1, et1, ht1⟩ := nat_of (Int.emod_nonneg (num / 14) (b := (n : Int) + 1) (by omega)) (Int.emod_lt_of_pos (num / 14) (b := (n : Int) + 1) (by omega))
  obtain ⟨t2, et2, ht2⟩ := nat_of (Int.emod_nonneg num (b := (n : Int) + 1) (by omega)) (Int.emod_lt_of_pos num (b := (n : Int) + 1) (by omega))
  rw [et1] at rt
  rw [et2] at rj
  obtain ⟨v1, v10, v19, ev1⟩ := value_ev (S := S) (n := num) y0
  obtain ⟨v2, v20, v29, ev2⟩ := value_ev (S := S) (n := num / 4) (by omega)
  have start : ∀ (k : Str) (hk : atI [.str "load", .str "store", .str "load", .str "store", .str "swap", .str "fence", .str "test", .str "jump"] (a : Int) = some (D.str k)) (x : Row) (hx : x.vd cs n = true)
      (e : mSeq (mIfS (mT (mOp2 fEq (mVar 4) (mP (.str "load")))) (mRet (mOpA fTup (mCons (mP (.str "load")) (mCons (mVar 5) (mNil))))) (mSkip)) (mSeq (mIfS (mT (mOp2 fEq (mVar 4) (mP (.str "fence")))) (mRet (mOpA fTup (mCons (mP (.str "fence")) (mNil)))) (mSkip)) (mSeq (mIfS (mT (mOp2 fEq (mVar 4) (mP (.str "test")))) (mRet (mOpA fTup (mCons (mP (.str "test")) (mCons (mCall (m_law_value) (mCons (mVar 6) (mNil))) (mCons (mOp2 fMod (mOpA cInt (mCons (mOp2 fDiv (mVar 6) (mP (.int 14))) (mNil))) (mOp2 fAdd (mVar 3) (mP (.int 1)))) (mNil)))))) (mSkip)) (mSeq (mIfS (mT (mOp2 fEq (mVar 4) (mP (.str "jump")))) (mRet (mOpA fTup (mCons (mP (.str "jump")) (mCons (mOp2 fMod (mOpA cInt (mCons (mVar 6) (mNil))) (mOp2 fAdd (mVar 3) (mP (.int 1)))) (mNil))))) (mSkip)) (mSeq (mIfS (mT (mOp2 fEq (mOp2 fMod (mOpA cInt (mCons (mVar 6) (mNil))) (mP (.int 4))) (mP (.int 3)))) (mRet (mOpA fTup (mCons (mVar 4) (mCons (mVar 5) (mCons (mP (.str "r")) (mNil)))))) (mSkip)) (mRet (mOpA fTup (mCons (mVar 4) (mCons (mVar 5) (mCons (mCall (m_law_value) (mCons (mOp2 fDiv (mVar 6) (mP (.int 4))) (mNil))) (mNil))))))))))
        [some (.lst (p.map .int)), some (.int at_), some (.lst (cs.map .str)), some (.int n), some (.str k), some (.str c), some (.int num)] S = some (.rt (enc x), S)),
      ∃ x : Row, x.vd cs n = true ∧ m_law_row [.lst (p.map .int), .int at_, .lst (cs.map .str), .int n] S = some (.ok (enc x), S) := fun k hk x hx e => by
    refine ⟨x, hx, fn_rt rfl ?_⟩
    unfold b_law_row
    show mSeq _ _ [some (.lst (p.map .int)), some (.int at_), some (.lst (cs.map .str)), some (.int n), none, none, none] S = _
    rw [seq_go (g1 := [some (.lst (p.map .int)), some (.int at_), some (.lst (cs.map .str)), some (.int n), some (.str k), none, none]) (S1 := S) (by simp [fLst, sz_ok, d1, hk]),
      seq_go (g1 := [some (.lst (p.map .int)), some (.int at_), some (.lst (cs.map .str)), some (.int n), some (.str k), some (.str c), none]) (S1 := S) (by simp [d2, ec]),
      seq_go (g1 := [some (.lst (p.map .int)), some (.int at_), some (.lst (cs.map .str)), some (.int n), some (.str k), some (.str c), some (.int num)]) (S1 := S) (by simp [d3])]
    exact e
  have wr : ∀ w : Bool, ∃ x : Row, x.vd cs n = true ∧ mSeq (mIfS (mT (mOp2 fEq (mVar 4) (mP (.str "load")))) (mRet (mOpA fTup (mCons (mP (.str "load")) (mCons (mVar 5) (mNil))))) (mSkip)) (mSeq (mIfS (mT (mOp2 fEq (mVar 4) (mP (.str "fence")))) (mRet (mOpA fTup (mCons (mP (.str "fence")) (mNil)))) (mSkip)) (mSeq (mIfS (mT (mOp2 fEq (mVar 4) (mP (.str "test")))) (mRet (mOpA fTup (mCons (mP (.str "test")) (mCons (mCall (m_law_value) (mCons (mVar 6) (mNil))) (mCons (mOp2 fMod (mOpA cInt (mCons (mOp2 fDiv (mVar 6) (mP (.int 14))) (mNil))) (mOp2 fAdd (mVar 3) (mP (.int 1)))) (mNil)))))) (mSkip)) (mSeq (mIfS (mT (mOp2 fEq (mVar 4) (mP (.str "jump")))) (mRet (mOpA fTup (mCons (mP (.str "jump")) (mCons (mOp2 fMod (mOpA cInt (mCons (mVar 6) (mNil))) (mOp2 fAdd (mVar 3) (mP (.int 1)))) (mNil))))) (mSkip)) (mSeq (mIfS (mT (mOp2 fEq (mOp2 fMod (mOpA cInt (mCons (mVar 6) (mNil))) (mP (.int 4))) (mP (.int 3)))) (mRet (mOpA fTup (mCons (mVar 4) (mCons (mVar 5) (mCons (mP (.str "r")) (mNil)))))) (mSkip)) (mRet (mOpA fTup (mCons (mVar 4) (mCons (mVar 5) (mCons (mCall (m_law_value) (mCons (mOp2 fDiv (mVar 6) (mP (.int 4))) (mNil))) (mNil))))))))))
        [some (.lst (p.map .int)), some (.int at_), some (.lst (cs.map .str)), some (.int n), some (.str (kw w)), some (.str c), some (.int num)] S = some (.rt (enc x), S) := fun w => by
    have q1 : kw w ≠ "load" := by cases w <;> simp [kw, a2, a6]
    have q2 : kw w ≠ "fence" := by cases w <;> simp [kw, a3, a7]
    have q3 : kw w ≠ "test" := by cases w <;> simp [kw, a4, a8]
    have q4 : kw w ≠ "jump" := by cases w <;> simp [kw, a5, a9]
    by_cases q : num % 4 = 3
    · exact ⟨.memR w c, by simp [Row.vd, cm], by simp [q1, q2, q3, q4, r4, q, fTup, sz_ok, enc]⟩
    · exact ⟨.mem w c v2, by simp [Row.vd, cm, v20, v29], by simp [q1, q2, q3, q4, r4, q, fTup, sz_ok, enc, m4, ev2]⟩
  have : a = 0 ∨ a = 1 ∨ a = 2 ∨ a = 3 ∨ a = 4 ∨ a = 5 ∨ a = 6 ∨ a = 7 := by omega
  rcases this with rfl | rfl | rfl | rfl | rfl | rfl | rfl | rfl
  · exact start "load" rfl (.load c) (by simp [Row.vd, cm]) (by simp [fTup, sz_ok, enc])
  · obtain ⟨x, hx, e⟩ := wr false; exact start "store" rfl x hx e
  · exact start "load" rfl (.load c) (by simp [Row.vd, cm]) (by simp [fTup, sz_ok, enc])
  · obtain ⟨x, hx, e⟩ := wr false; exact start "store" rfl x hx e
  · obtain ⟨x, hx, e⟩ := wr true; exact start "swap" rfl x hx e
  · exact start "fence" rfl .fence rfl (by simp [a10, fTup, sz_ok, enc])
  · exact start "test" rfl (.test v1 t1) (by simp [Row.vd, v10, v19]; omega) (by simp [a11, a12, ev1, m14, rt, fTup, sz_ok, enc])
  · exact start "jump" rfl (.jump t2) (by simp [Row.vd]; omega) (by simp [a13, a14, a15, rj, fTup, sz_ok, enc])
end Lw
namespace Lw
open PySem L2 Mi
abbrev tg (p : List Int) (a : Int) (cs : List Str) (sz : List Nat) (st : Int) (o5 : Option D) (pl : Int) (o7 o8 o9 o10 o11 : Option D) : Gm :=
  [some (.lst (p.map .int)), some (.int a), some (.lst (cs.map .str)), some (.lst (sz.map fun (n : Nat) => D.int n)), some (.int st), o5, some (.int pl), o7, o8, o9, o10, o11]
theorem and3 {m1 m2 m3 : Mi.M Bool} {g : Gm} {S : Store} {b1 b2 b3 : Bool} (t1 : m1 g S = some (.ok b1, S)) (t2 : m2 g S = some (.ok b2, S)) (t3 : m3 g S = some (.ok b3, S)) : mAndT m1 (mAndT m2 m3) g S = some (.ok (b1 && (b2 && b3)), S) := by
  cases b1 <;> cases b2 <;> simp [t1, t2, t3]
section
variable {p : List Int} {a : Int} {cs : List Str} {sz : List Nat} {st : Int}
/-- one row -/
theorem tin_ev (C : Cs cs) {S : Store} {w k n j : Nat} {pl : Int} (hp : 0 ≤ pl) (hw : sz[w]? = some n) (hn : n ≤ 100) (R : Rows) (hj : S[j]? = some (.lst (en R))) (hR : R.length ≤ 1000) {o5 o10 o11 : Option D} :
    ∃ (x : Row) (p10 p11 : Option D), x.vd cs n = true ∧ bd_law_threads_0 (tg p a cs sz st o5 pl (some (.int w)) (some (.ref j)) (some (.int k)) o10 o11) S = some (.nx (tg p a cs sz st o5 (pl + 3) (some (.int w)) (some (.ref j)) (some (.int k)) p10 p11), S.set j (.lst (en (R ++ [x])))) := by
  have c1 := C.l1
  have ez : fIx S (.lst (sz.map fun (n : Nat) => D.int n)) (.int w) = some (.int n) := by
    rw [v_ixL, atI_nat (v := .int n)]
    simp [hw]
  let G : Option D → Option D → Gm := fun x y => tg p a cs sz st o5 pl (some (.int w)) (some (.ref j)) (some (.int k)) x y
  obtain ⟨x0, v0, e0⟩ := lrow_ev (p := p) (S := S) C hp n (by omega)
  have s1 : mSet 10 (mCall (m_law_row) (mCons (mVar 0) (mCons (mVar 6) (mCons (mVar 2) (mCons (mOp2 fIx (mVar 3) (mVar 7)) (mNil)))))) (G o10 o11) S = some (.nx (G (some (enc x0)) o11), S) := by
    simp [-v_ixL, G, ez, e0]
  -- the first row
  have s2 : ∃ (x : Row) (y : Option D), x.vd cs n = true ∧ mIfS (mAndT (mT (mOp2 fGt (mVar 4) (mP (.int 0)))) (mT (mOp2 fEq (mVar 9) (mP (.int 0))))) (mSeq (mSet 11 (mCall (m_law_value) (mCons (mCall (m_law_draw) (mCons (mVar 0) (mCons (mOp2 fAdd (mVar 6) (mP (.int 2))) (mCons (mP (.int 840)) (mNil))))) (mNil)))) (mSet 10 (mOpA fTup (mCons (mOp2 fIx (mOpA fLst (mCons (mP (.str "store")) (mCons (mP (.str "store")) (mCons (mP (.str "swap")) (mNil))))) (mCall (m_law_draw) (mCons (mVar 0) (mCons (mVar 6) (mCons (mP (.int 3)) (mNil)))))) (mCons (mOp2 fIx (mVar 2) (mOp2 fMod (mOpA cInt (mCons (mVar 7) (mNil))) (mOpA cLen (mCons (mVar 2) (mNil))))) (mCons (mVar 11) (mNil))))))) (mSkip) (G (some (enc x0)) o11) S = some (.nx (G (some (enc x)) y), S) := by
    by_cases q1 : 0 < st
    · by_cases q2 : k = 0
      · have q2' : (k : Int) = 0 := by omega
        have d1 := draw_ev (l := p) (k := pl + 2) (many := 840) (S := S) (by omega) (by decide)
        have d2 := draw_ev (l := p) (k := pl) (many := 3) (S := S) hp (by decide)
        have y0 := drawF_ge p (pl + 2) (many := 840) (by decide)
        obtain ⟨v, v0', v9, ev⟩ := value_ev (S := S) y0
        obtain ⟨b, eb, hb⟩ := nat_of (drawF_ge p pl (many := 3) (by decide)) (drawF_lt p pl (many := 3) (by decide))
        rw [eb] at d2
        have ek : ∃ u : Bool, atI [D.str "store", .str "store", .str "swap"] (b : Int) = some (.str (kw u)) := by
          have : b = 0 ∨ b = 1 ∨ b = 2 := by omega
          rcases this with rfl | rfl | rfl
          · exact ⟨false, rfl⟩
          · exact ⟨false, rfl⟩
          · exact ⟨true, rfl⟩
        obtain ⟨u, ek⟩ := ek
        obtain ⟨c, ec0, hc⟩ := nat_of (Int.emod_nonneg (w : Int) (b := (cs.length : Int)) (by omega)) (Int.emod_lt_of_pos (w : Int) (b := (cs.length : Int)) (by omega))
        have md := v_mod S (w : Int) (cs.length : Int) (by omega)
        rw [ec0] at md
        have ec := at_str (cs := cs) (k := c) (by omega)
        refine ⟨.mem u cs[c] v, some (.int v), by simp [Row.vd, v0', v9], ?_⟩
        simp [G, q1, q2', d1, ev, fLst, sz_ok, d2, ek, md, ec, fTup, enc]
      · have q2' : ¬ (k : Int) = 0 := by omega
        exact ⟨x0, o11, v0, by simp [G, q1, q2']; omega⟩
    · exact ⟨x0, o11, v0, by simp [G, q1]⟩
  obtain ⟨x1, y1, v1, s2⟩ := s2
  have s3 : ∃ (x : Row), x.vd cs n = true ∧ mIfS (mAndT (mT (mOp2 fGt (mVar 4) (mP (.int 0)))) (mAndT (mT (mOp2 fGt (mVar 9) (mP (.int 0)))) (mT (mOp2 fEq (mVar 9) (mOp2 fSub (mOp2 fIx (mVar 3) (mVar 7)) (mP (.int 1))))))) (mSet 10 (mOpA fTup (mCons (mP (.str "load")) (mCons (mOp2 fIx (mVar 2) (mOp2 fMod (mOpA cInt (mCons (mOp2 fAdd (mVar 7) (mP (.int 1))) (mNil))) (mOpA cLen (mCons (mVar 2) (mNil))))) (mNil))))) (mSkip) (G (some (enc x1)) y1) S = some (.nx (G (some (enc x)) y1), S) := by
    have t1 : mT (mOp2 fGt (mVar 4) (mP (.int 0))) (G (some (enc x1)) y1) S = some (.ok (decide (0 < st)), S) := by simp [G]
    have t2 : mT (mOp2 fGt (mVar 9) (mP (.int 0))) (G (some (enc x1)) y1) S = some (.ok (decide ((0 : Int) < k)), S) := by simp [G]
    have t3 : mT (mOp2 fEq (mVar 9) (mOp2 fSub (mOp2 fIx (mVar 3) (mVar 7)) (mP (.int 1)))) (G (some (enc x1)) y1) S = some (.ok (decide ((k : Int) = (n : Int) - 1)), S) := by simp [-v_ixL, G, ez]
    have t := and3 t1 t2 t3
    generalize (decide (0 < st) && (decide ((0 : Int) < k) && decide ((k : Int) = (n : Int) - 1))) = bb at t
    cases bb with
    | true =>
      obtain ⟨c, ec0, hc⟩ := nat_of (Int.emod_nonneg ((w : Int) + 1) (b := (cs.length : Int)) (by omega)) (Int.emod_lt_of_pos ((w : Int) + 1) (b := (cs.length : Int)) (by omega))
      have md := v_mod S ((w : Int) + 1) (cs.length : Int) (by omega)
      rw [ec0] at md
      have ec := at_str (cs := cs) (k := c) (by omega)
      exact ⟨.load cs[c], by simp [Row.vd], by rw [v_ifS, t]; simp [G, md, ec, fTup, sz_ok, enc]⟩
    | false => exact ⟨x1, v1, by rw [v_ifS, t]; simp⟩
  obtain ⟨x2, v2, s3⟩ := s3
  have s4 : ∃ (x : Row), x.vd cs n = true ∧ mIfS (mAndT (mT (mOp2 fEq (mVar 4) (mP (.int 2)))) (mAndT (mT (mOp2 fLt (mP (.int 0)) (mVar 9))) (mT (mOp2 fLt (mVar 9) (mOp2 fSub (mOp2 fIx (mVar 3) (mVar 7)) (mP (.int 1))))))) (mSet 10 (mOpA fTup (mCons (mP (.str "fence")) (mNil)))) (mSkip) (G (some (enc x2)) y1) S = some (.nx (G (some (enc x)) y1), S) := by
    have t : ∃ bb : Bool, mAndT (mT (mOp2 fEq (mVar 4) (mP (.int 2)))) (mAndT (mT (mOp2 fLt (mP (.int 0)) (mVar 9))) (mT (mOp2 fLt (mVar 9) (mOp2 fSub (mOp2 fIx (mVar 3) (mVar 7)) (mP (.int 1)))))) (G (some (enc x2)) y1) S = some (.ok bb, S) := by
      have t1 : mT (mOp2 fEq (mVar 4) (mP (.int 2))) (G (some (enc x2)) y1) S = some (.ok (decide (st = 2)), S) := by simp [G]
      have t2 : mT (mOp2 fLt (mP (.int 0)) (mVar 9)) (G (some (enc x2)) y1) S = some (.ok (decide ((0 : Int) < k)), S) := by simp [G]
      have t3 : mT (mOp2 fLt (mVar 9) (mOp2 fSub (mOp2 fIx (mVar 3) (mVar 7)) (mP (.int 1)))) (G (some (enc x2)) y1) S = some (.ok (decide ((k : Int) < (n : Int) - 1)), S) := by simp [-v_ixL, G, ez]
      exact ⟨_, and3 t1 t2 t3⟩
    obtain ⟨bb, t⟩ := t
    cases bb with
    | true => exact ⟨.fence, rfl, by rw [v_ifS, t]; simp [G, fTup, sz_ok, enc]⟩
    | false => exact ⟨x2, v2, by rw [v_ifS, t]; simp⟩
  obtain ⟨x3, v3, s4⟩ := s4
  have hz : szOk (R.length + 1) = true := sz_ok (by omega)
  have s5 : mEx (mApp (mVar 8) (mVar 10)) (G (some (enc x3)) y1) S = some (.nx (G (some (enc x3)) y1), S.set j (.lst (en (R ++ [x3])))) := by
    simp [G, atC, hj, en_len, hz, en]
  refine ⟨x3, some (enc x3), y1, v3, ?_⟩
  unfold bd_law_threads_0
  rw [seq_go s1, seq_go s2, seq_go s3, seq_go s4, seq_go s5]
  simp [G]
/-- one thread -/
theorem tone_ev (C : Cs cs) {S : Store} {w n j : Nat} {pl : Int} (hp : 0 ≤ pl) (hw : sz[w]? = some n) (hn : n ≤ 100) {ts : List D} (hj : S[j]? = some (.lst ts)) (ht : ts.length ≤ 1000) {o8 o9 o10 o11 : Option D} :
    ∃ (R : Rows) (pl' : Int) (p8 p9 p10 p11 : Option D), 0 ≤ pl' ∧ R.length = n ∧ (∀ x ∈ R, x.vd cs n = true) ∧
      bd_law_threads_1 (tg p a cs sz st (some (.ref j)) pl (some (.int w)) o8 o9 o10 o11) S = some (.nx (tg p a cs sz st (some (.ref j)) pl' (some (.int w)) p8 p9 p10 p11), S.set j (.lst (ts ++ [.lst (en R)])) ++ [.dead]) := by
  have jl := (List.getElem?_eq_some_iff.mp hj).1
  have s1 : mSet 8 (mNewL (mNil)) (tg p a cs sz st (some (.ref j)) pl (some (.int w)) o8 o9 o10 o11) S = some (.nx (tg p a cs sz st (some (.ref j)) pl (some (.int w)) (some (.ref S.length)) o9 o10 o11), S ++ [.lst (en [])]) := by
    simp [sz_ok, en]
  have ez : ∀ T, fIx T (.lst (sz.map fun (n : Nat) => D.int n)) (.int w) = some (.int n) := fun T => by
    rw [v_ixL, atI_nat (v := .int n)]
    simp [hw]
  have hb : big62 ((n : Nat) : Int) = true := big_ok (by omega)
  obtain ⟨g', S', e, R, pl', p9, p10, p11, hpl, hl, hv, hg, hS⟩ := forGo_rng (b := bN 9) (body := bd_law_threads_0) (n := n)
    (fun k g T => ∃ (R : Rows) (pl' : Int) (p9 p10 p11 : Option D), 0 ≤ pl' ∧ R.length = k ∧ (∀ x ∈ R, x.vd cs n = true) ∧ g = tg p a cs sz st (some (.ref j)) pl' (some (.int w)) (some (.ref S.length)) p9 p10 p11 ∧ T = S ++ [.lst (en R)])
    (fun k g T hk ⟨R, pl', p9, p10, p11, hpl, hl, hv, hg, hT⟩ => by
      subst hg hT
      obtain ⟨x, q10, q11, vx, e⟩ := tin_ev (p := p) (a := a) (st := st) C (S := S ++ [.lst (en R)]) (w := w) (k := k) (j := S.length) (pl := pl') hpl hw hn R (by simp) (by omega) (o5 := some (.ref j)) (o10 := p10) (o11 := p11)
      refine ⟨_, _, _, rfl, .inl e, R ++ [x], pl' + 3, some (.int k), q10, q11, by omega, by simp [hl], fun z hz => ?_, rfl, by simp⟩
      rcases List.mem_append.mp hz with hz | hz
      · exact hv z hz
      · rw [List.mem_singleton.mp hz]; exact vx) (g := tg p a cs sz st (some (.ref j)) pl (some (.int w)) (some (.ref S.length)) o9 o10 o11) (S := S ++ [.lst (en [])]) ⟨[], pl, o9, o10, o11, hp, rfl, fun x h => (by simp at h), rfl, rfl⟩
  subst hg hS
  have s2 : mFor (mRng (mCons (mOp2 fIx (mVar 3) (mVar 7)) (mNil))) (bN 9) (bd_law_threads_0) (tg p a cs sz st (some (.ref j)) pl (some (.int w)) (some (.ref S.length)) o9 o10 o11) (S ++ [.lst (en [])]) = some (.nx (tg p a cs sz st (some (.ref j)) pl' (some (.int w)) (some (.ref S.length)) p9 p10 p11), S ++ [.lst (en R)]) := by
    simp [-v_ixL, ez, hb, e]
  refine ⟨R, pl', some (.ref S.length), p9, p10, p11, hpl, hl, hv, ?_⟩
  have hj2 : (S ++ [Cell.lst (en R)])[j]? = some (.lst ts) := by rw [List.getElem?_append_left jl]; exact hj
  have hj3 : ((S ++ [Cell.lst (en R)]).set S.length .dead)[j]? = some (.lst ts) := by rw [List.getElem?_set_ne (by omega)]; exact hj2
  have hz : szOk (ts.length + 1) = true := sz_ok (by omega)
  have ed : (S ++ [Cell.lst (en R)]).set S.length .dead = S ++ [.dead] := by simp
  rw [ed] at hj3
  have s3 : mEx (mApp (mVar 5) (mVarF 8)) (tg p a cs sz st (some (.ref j)) pl' (some (.int w)) (some (.ref S.length)) p9 p10 p11) (S ++ [.lst (en R)]) = some (.nx (tg p a cs sz st (some (.ref j)) pl' (some (.int w)) (some (.ref S.length)) p9 p10 p11), S.set j (.lst (ts ++ [.lst (en R)])) ++ [.dead]) := by
    have es : (S ++ [Cell.dead]).set j (.lst (ts ++ [.lst (en R)])) = S.set j (.lst (ts ++ [.lst (en R)])) ++ [.dead] := by
      rw [List.set_append_left _ _ jl]
    simp [atC, hj2, ed, hj3, hz, es]
  unfold bd_law_threads_1
  rw [seq_go s1, seq_go s2]
  exact s3
theorem threads_ev (C : Cs cs) {S : Store} (hG : GoodS S) (ha : 0 ≤ a) (hz : ∀ n ∈ sz, n ≤ 100) (hl : sz.length ≤ 10) : ∃ TS : List Rows, TS.map List.length = sz ∧ (∀ R ∈ TS, ∀ x ∈ R, x.vd cs R.length = true) ∧
    m_law_threads [.lst (p.map .int), .int a, .lst (cs.map .str), .lst (sz.map fun (n : Nat) => D.int n)] S = some (.ok (.lst (tsD TS)), S) := by
  have d1 := draw_ev (l := p) (k := a) (many := 4) (S := S) ha (by decide)
  generalize drawF p a 4 = st at d1
  let g0 : Gm := [some (.lst (p.map .int)), some (.int a), some (.lst (cs.map .str)), some (.lst (sz.map fun (n : Nat) => D.int n)), none, none, none, none, none, none, none, none]
  have s1 : mSet 4 (mCall (m_law_draw) (mCons (mVar 0) (mCons (mVar 1) (mCons (mP (.int 4)) (mNil))))) g0 S = some (.nx [some (.lst (p.map .int)), some (.int a), some (.lst (cs.map .str)), some (.lst (sz.map fun (n : Nat) => D.int n)), some (.int st), none, none, none, none, none, none, none], S) := by
    simp [g0, d1]
  have s2 : mSet 5 (mNewL (mNil)) [some (.lst (p.map .int)), some (.int a), some (.lst (cs.map .str)), some (.lst (sz.map fun (n : Nat) => D.int n)), some (.int st), none, none, none, none, none, none, none] S = some (.nx [some (.lst (p.map .int)), some (.int a), some (.lst (cs.map .str)), some (.lst (sz.map fun (n : Nat) => D.int n)), some (.int st), some (.ref S.length), none, none, none, none, none, none], S ++ [.lst (tsD [])]) := by
    simp [sz_ok, tsD]
  have s3 : mSet 6 (mOp2 fAdd (mVar 1) (mP (.int 1))) [some (.lst (p.map .int)), some (.int a), some (.lst (cs.map .str)), some (.lst (sz.map fun (n : Nat) => D.int n)), some (.int st), some (.ref S.length), none, none, none, none, none, none] (S ++ [.lst (tsD [])]) = some (.nx (tg p a cs sz st (some (.ref S.length)) (a + 1) none none none none none), S ++ [.lst (tsD [])]) := by
    simp
  have hb : big62 ((sz.length : Nat) : Int) = true := big_ok (by omega)
  obtain ⟨g', S', e, TS, pl', X, p7, p8, p9, p10, p11, hpl, hlen, hv, hg, hS⟩ := forGo_rng (b := bN 7) (body := bd_law_threads_1) (n := sz.length)
    (fun k g T => ∃ (TS : List Rows) (pl' : Int) (X : Store) (p7 p8 p9 p10 p11 : Option D), 0 ≤ pl' ∧ TS.map List.length = sz.take k ∧ (∀ R ∈ TS, ∀ x ∈ R, x.vd cs R.length = true) ∧ g = tg p a cs sz st (some (.ref S.length)) pl' p7 p8 p9 p10 p11 ∧ T = S ++ [.lst (tsD TS)] ++ X)
    (fun k g T hk ⟨TS, pl', X, p7, p8, p9, p10, p11, hpl, hlen, hv, hg, hT⟩ => by
      subst hg hT
      have hwk : sz[k]? = some sz[k] := List.getElem?_eq_getElem hk
      have lts : (tsD TS).length ≤ 1000 := by
        have := congrArg List.length hlen
        simp at this
        simp [tsD]; omega
      obtain ⟨R, pl2, q8, q9, q10, q11, h1, h2, h3, e⟩ := tone_ev (p := p) (a := a) (st := st) C (S := S ++ [.lst (tsD TS)] ++ X) (w := k) (n := sz[k]) (j := S.length) (pl := pl') hpl hwk (hz _ (List.getElem_mem hk)) (ts := tsD TS) (by simp) lts (o8 := p8) (o9 := p9) (o10 := p10) (o11 := p11)
      refine ⟨_, _, _, rfl, .inl e, TS ++ [R], pl2, X ++ [.dead], some (.int k), q8, q9, q10, q11, h1, ?_, fun R' hR' => ?_, rfl, ?_⟩
      · rw [List.map_append, hlen, List.take_add_one, hwk]; simp [h2]
      · rcases List.mem_append.mp hR' with h | h
        · exact hv R' h
        · rw [List.mem_singleton.mp h]; rw [h2]; exact h3
      · simp [tsD]) (g := tg p a cs sz st (some (.ref S.length)) (a + 1) none none none none none) (S := S ++ [.lst (tsD [])]) ⟨[], a + 1, [], none, none, none, none, none, by omega, by simp, fun R h => (by simp at h), rfl, by simp⟩
  subst hg hS
  have s4 : mFor (mRng (mCons (mOpA cLen (mCons (mVar 3) (mNil))) (mNil))) (bN 7) (bd_law_threads_1) (tg p a cs sz st (some (.ref S.length)) (a + 1) none none none none none) (S ++ [.lst (tsD [])]) = some (.nx (tg p a cs sz st (some (.ref S.length)) pl' p7 p8 p9 p10 p11), S ++ [.lst (tsD TS)] ++ X) := by
    have hlz : (sz.map fun (n : Nat) => D.int n).length = sz.length := by simp
    simp only [v_for, v_rng, v_Beq, v_cons, v_opA, v_var, List.getElem?_cons_succ, List.getElem?_cons_zero, v_nil, v_P, v_L, v_lenL, hlz, Option.map_some, hb, if_true, Int.toNat_natCast]
    exact e
  rw [List.take_length] at hlen
  refine ⟨TS, hlen, hv, trim_ev (x := .dead :: X) (fn_rt rfl ?_) (by simp [refsLt, refs_ts]) hG⟩
  unfold b_law_threads
  show mSeq _ _ g0 S = _
  rw [seq_go s1, seq_go s2, seq_go s3, seq_go s4]
  have at_ : (S ++ [Cell.lst (tsD TS)] ++ X)[S.length]? = some (.lst (tsD TS)) := by simp
  have st' : (S ++ [Cell.lst (tsD TS)] ++ X).set S.length .dead = S ++ .dead :: X := by simp
  simp [atC]
end
end Lw
namespace Lw
open PySem L2 Mi
/-! ### sizes -/
theorem sizes_gen {p : List Int} {S : Store} {a : Int} {m1 m2 m3 B : Nat} (q1 : 1 ≤ m1 ∧ m1 ≤ B) (q2 : 1 ≤ m2 ∧ 2 * m2 ≤ B) (q3 : 1 ≤ m3 ∧ 3 * m3 ≤ B) (ha : 0 ≤ a) : ∃ (szs : List Nat) (t : Nat), 1 ≤ szs.length ∧ szs.length ≤ 3 ∧ szs.length * t ≤ B ∧ (∀ n ∈ szs, n ≤ t) ∧ m_law_sizes [.lst (p.map .int), .int a, .lst [.int m1, .int m2, .int m3]] S = some (.ok (.lst (szs.map fun (n : Nat) => D.int n)), S) := by
  have d1 := draw_ev (l := p) (k := a) (many := 8) (S := S) ha (by decide)
  obtain ⟨b, eb, hb⟩ := nat_of (drawF_ge p a (many := 8) (by decide)) (drawF_lt p a (many := 8) (by decide))
  rw [eb] at d1
  obtain ⟨c, c1, c3, ec⟩ : ∃ c : Nat, 1 ≤ c ∧ c ≤ 3 ∧ atI [.int 2, .int 3, .int 2, .int 2, .int 2, .int 3, .int 1, .int 2] (b : Int) = some (D.int (c : Nat)) := by
    have : b = 0 ∨ b = 1 ∨ b = 2 ∨ b = 3 ∨ b = 4 ∨ b = 5 ∨ b = 6 ∨ b = 7 := by omega
    rcases this with rfl | rfl | rfl | rfl | rfl | rfl | rfl | rfl <;> first | exact ⟨2, by decide, by decide, rfl⟩ | exact ⟨3, by decide, by decide, rfl⟩ | exact ⟨1, by decide, by decide, rfl⟩
  obtain ⟨t, t1, t12, et⟩ : ∃ t : Nat, 1 ≤ t ∧ c * t ≤ B ∧ atI [.int m1, .int m2, .int m3] ((c : Int) - 1) = some (D.int (t : Nat)) := by
    have : c = 1 ∨ c = 2 ∨ c = 3 := by omega
    rcases this with rfl | rfl | rfl
    · exact ⟨m1, by omega, by omega, rfl⟩
    · exact ⟨m2, by omega, by omega, rfl⟩
    · exact ⟨m3, by omega, by omega, rfl⟩
  have dv : fDiv S (.int (t : Nat)) (.int 2) = some (.int ((t : Int) / 2)) := v_div S _ _ (by decide)
  let G : Option D → Gm := fun x => [some (.lst (p.map .int)), some (.int a), some (.lst [.int m1, .int m2, .int m3]), some (.int c), some (.int t), x, none]
  let V : List D := [.int t, .int t, .int ((t : Int) - 1), .int t, .int ((t : Int) / 2), .int t, .int 0, .int t]
  have s1 : mSet 3 (mOp2 fIx (mOpA fLst (mCons (mP (.int 2)) (mCons (mP (.int 3)) (mCons (mP (.int 2)) (mCons (mP (.int 2)) (mCons (mP (.int 2)) (mCons (mP (.int 3)) (mCons (mP (.int 1)) (mCons (mP (.int 2)) (mNil)))))))))) (mCall (m_law_draw) (mCons (mVar 0) (mCons (mVar 1) (mCons (mP (.int 8)) (mNil)))))) [some (.lst (p.map .int)), some (.int a), some (.lst [.int m1, .int m2, .int m3]), none, none, none, none] S = some (.nx [some (.lst (p.map .int)), some (.int a), some (.lst [.int m1, .int m2, .int m3]), some (.int c), none, none, none], S) := by
    simp [fLst, sz_ok, d1, ec]
  have s2 : mSet 4 (mOp2 fIx (mVar 2) (mOp2 fSub (mVar 3) (mP (.int 1)))) [some (.lst (p.map .int)), some (.int a), some (.lst [.int m1, .int m2, .int m3]), some (.int c), none, none, none] S = some (.nx (G none), S) := by
    simp [et, G]
  have s3 : mSet 5 (mOpA fLst (mCons (mVar 4) (mCons (mVar 4) (mCons (mOp2 fSub (mVar 4) (mP (.int 1))) (mCons (mVar 4) (mCons (mOp2 fDiv (mVar 4) (mP (.int 2))) (mCons (mVar 4) (mCons (mP (.int 0)) (mCons (mVar 4) (mNil)))))))))) (G none) S = some (.nx (G (some (.lst V))), S) := by
    simp [G, V, fLst, sz_ok, dv]
  have pick : ∀ k : Nat, ∃ n : Nat, n ≤ t ∧ mOp2 fIx (mVar 5) (mCall (m_law_draw) (mCons (mVar 0) (mCons (mOp2 fAdd (mOp2 fAdd (mVar 1) (mP (.int 1))) (mVar 6)) (mCons (mP (.int 8)) (mNil))))) [some (.lst (p.map .int)), some (.int a), some (.lst [.int m1, .int m2, .int m3]), some (.int c), some (.int t), some (.lst V), some (.int k)] S = some (.ok (.int n), S) := fun k => by
    have d := draw_ev (l := p) (k := a + 1 + (k : Int)) (many := 8) (S := S) (by omega) (by decide)
    obtain ⟨j, ej, hj⟩ := nat_of (drawF_ge p (a + 1 + (k : Int)) (many := 8) (by decide)) (drawF_lt p (a + 1 + (k : Int)) (many := 8) (by decide))
    rw [ej] at d
    have ev : ∃ n : Nat, n ≤ t ∧ atI V (j : Int) = some (.int (n : Nat)) := by
      have e1 : (t : Int) - 1 = ((t - 1 : Nat) : Int) := by omega
      have e2 : (t : Int) / 2 = ((t / 2 : Nat) : Int) := by omega
      simp only [V, e1, e2]
      have : j = 0 ∨ j = 1 ∨ j = 2 ∨ j = 3 ∨ j = 4 ∨ j = 5 ∨ j = 6 ∨ j = 7 := by omega
      rcases this with rfl | rfl | rfl | rfl | rfl | rfl | rfl | rfl
      · exact ⟨t, Nat.le_refl t, rfl⟩
      · exact ⟨t, Nat.le_refl t, rfl⟩
      · exact ⟨t - 1, by omega, rfl⟩
      · exact ⟨t, Nat.le_refl t, rfl⟩
      · exact ⟨t / 2, by omega, rfl⟩
      · exact ⟨t, Nat.le_refl t, rfl⟩
      · exact ⟨0, by omega, rfl⟩
      · exact ⟨t, Nat.le_refl t, rfl⟩
    obtain ⟨n, hn, ev⟩ := ev
    exact ⟨n, hn, by simp [d, ev]⟩
  obtain ⟨f, hf⟩ : ∃ f : Nat → Nat, ∀ k, f k ≤ t ∧ mOp2 fIx (mVar 5) (mCall (m_law_draw) (mCons (mVar 0) (mCons (mOp2 fAdd (mOp2 fAdd (mVar 1) (mP (.int 1))) (mVar 6)) (mCons (mP (.int 8)) (mNil))))) [some (.lst (p.map .int)), some (.int a), some (.lst [.int m1, .int m2, .int m3]), some (.int c), some (.int t), some (.lst V), some (.int k)] S = some (.ok (.int (f k)), S) := ⟨fun k => (pick k).choose, fun k => (pick k).choose_spec⟩
  have bc : big62 ((c : Nat) : Int) = true := big_ok (by omega)
  have e := lc_rng (vs := [6]) (mi := mRng (mCons (mVar 3) (mNil))) (b := bN 6) (me := mOp2 fIx (mVar 5) (mCall (m_law_draw) (mCons (mVar 0) (mCons (mOp2 fAdd (mOp2 fAdd (mVar 1) (mP (.int 1))) (mVar 6)) (mCons (mP (.int 8)) (mNil)))))) (g := G (some (.lst V))) (S := S) (n := c) (fun k => D.int (f k)) (by simp [G, bc]) (by omega) fun k hk => ⟨_, rfl, (hf k).2⟩
  refine ⟨(List.range c).map f, t, by simpa using c1, by simpa using c3, by simpa using t12, fun n hn => ?_, fn_rt rfl ?_⟩
  · obtain ⟨k, _, rfl⟩ := List.mem_map.mp hn
    exact (hf k).1
  · unfold b_law_sizes
    show mSeq _ _ [some (.lst (p.map .int)), some (.int a), some (.lst [.int m1, .int m2, .int m3]), none, none, none, none] S = _
    rw [seq_go s1, seq_go s2, seq_go s3, v_ret, e]
    simp
end Lw
namespace Lw
open PySem L2 Mi TL
/-! ### the lines of a program -/
/-- the words of a row -/
def Row.ws (x : Row) : List Str := match enc x with
  | .tup l => l.map P.strF
  | _ => []
def lineR (x : Row) : Str := Txt.join " " x.ws
theorem kw_ok (w : Bool) : 32 ∉ P.cs (kw w) ∧ (kw w).length ≤ 5 ∧ 10 ∉ P.cs (kw w) := by cases w <;> decide +kernel
/-- a name: its letters -/
theorem nameL_B {z : Str} (h : nameB z = true) : P.nameL (P.cs z) = true ∧ 32 ∉ P.cs z ∧ 10 ∉ P.cs z ∧ 1 ≤ z.length ∧ z.length ≤ 6 := by
  simp only [nameB, Bool.and_eq_true, decide_eq_true_eq] at h
  obtain ⟨⟨h1, h2⟩, h3⟩ := h
  have hl : (P.cs z).length = z.length := P.cs_len z
  have h3' : (P.cs z).all isLet = true := h3
  have lt : ∀ c ∈ P.cs z, 97 ≤ c ∧ c ≤ 122 := fun c hc => by
    have := List.all_eq_true.mp h3' c hc
    simpa [isLet] using this
  refine ⟨?_, fun q => by have := lt _ q; omega, fun q => by have := lt _ q; omega, h1, h2⟩
  simp only [P.nameL, Bool.and_eq_true, decide_eq_true_eq]
  exact ⟨⟨by omega, by omega⟩, h3'⟩
theorem num10 : ∀ n : Fin 100, 10 ∉ P.cs (Str.ofString (toString ((n : Nat) : Int))) := by decide +kernel
theorem num10_at {i : Int} (h0 : 0 ≤ i) (h1 : i < 100) : 10 ∉ P.cs (P.strF (.int i)) := by
  have h := num10 ⟨i.toNat, by omega⟩
  have e : ((i.toNat : Nat) : Int) = i := by omega
  simp only [e] at h
  exact h
theorem lit_ok : ∀ w ∈ (["load", "fence", "test", "jump", "r", "cells", "thread"] : List Str), 32 ∉ P.cs w ∧ w.length ≤ 6 ∧ 10 ∉ P.cs w := by decide +kernel
/-- a valid row, its words, its line -/
theorem row_ws {cs : List Str} (C : cs.all nameB = true) {n : Nat} (hn : n ≤ 99) {x : Row} (h : x.vd cs n = true) : ∃ l, enc x = .tup l ∧ l ≠ [] ∧ l.length ≤ 3 ∧ l.all P.strOkD = true ∧ (∀ p ∈ l, 32 ∉ P.cs (P.strF p) ∧ 10 ∉ P.cs (P.strF p) ∧ (P.strF p).length ≤ 6) ∧ P.parseW (l.map P.strF) = some (.tup l) := by
  have nm : ∀ c, c ∈ cs → _ := fun c hc => nameL_B (List.all_eq_true.mp C c hc)
  have lw := lit_ok
  cases x with
  | load c =>
    simp only [Row.vd, decide_eq_true_eq] at h
    obtain ⟨n1, n2, n3, n4, n5⟩ := nm c h
    obtain ⟨a1, a2, a3⟩ := lw "load" (by simp)
    refine ⟨_, rfl, by simp, by simp, by simp [P.strOkD], fun p hp => ?_, by simp [P.parseW, P.strF, n1]⟩
    simp only [List.mem_cons, List.not_mem_nil, or_false] at hp
    rcases hp with rfl | rfl
    · exact ⟨a1, a3, a2⟩
    · exact ⟨n2, n3, n5⟩
  | mem w c v =>
    simp only [Row.vd, Bool.and_eq_true, decide_eq_true_eq] at h
    obtain ⟨⟨hc, v0⟩, v9⟩ := h
    obtain ⟨n1, n2, n3, n4, n5⟩ := nm c hc
    obtain ⟨a1, a2, a3⟩ := kw_ok w
    obtain ⟨q1, q2, q3, q4⟩ := P.num_at (i := v) (by omega) (by omega)
    obtain ⟨r1, r2⟩ := P.val_at (i := v) (by omega) (by omega)
    have q5 := num10_at (i := v) (by omega) (by omega)
    refine ⟨_, rfl, by simp, by simp, by simp [P.strOkD]; omega, fun p hp => ?_, ?_⟩
    · simp only [List.mem_cons, List.not_mem_nil, or_false] at hp
      rcases hp with rfl | rfl | rfl
      · exact ⟨a1, a3, by show (kw w).length ≤ 6; omega⟩
      · exact ⟨n2, n3, n5⟩
      · exact ⟨q3, q5, by omega⟩
    · have nt : kw w ≠ "test" := by cases w <;> decide +kernel
      have ks : kw w = "store" ∨ kw w = "swap" := by cases w <;> simp [kw]
      simp only [List.map_cons, List.map_nil, P.parseW]
      have e1 : P.strF (.str (kw w)) = kw w := rfl
      have e2 : P.strF (.str c) = c := rfl
      rw [e1, e2, if_neg nt, if_pos ⟨ks, n1⟩, if_neg r2, if_pos r1, q2]
  | memR w c =>
    simp only [Row.vd, decide_eq_true_eq] at h
    obtain ⟨n1, n2, n3, n4, n5⟩ := nm c h
    obtain ⟨a1, a2, a3⟩ := kw_ok w
    obtain ⟨b1, b2, b3⟩ := lw "r" (by simp)
    refine ⟨_, rfl, by simp, by simp, by simp [P.strOkD], fun p hp => ?_, ?_⟩
    · simp only [List.mem_cons, List.not_mem_nil, or_false] at hp
      rcases hp with rfl | rfl | rfl
      · exact ⟨a1, a3, by show (kw w).length ≤ 6; omega⟩
      · exact ⟨n2, n3, n5⟩
      · exact ⟨b1, b3, b2⟩
    · have nt : kw w ≠ "test" := by cases w <;> decide +kernel
      have ks : kw w = "store" ∨ kw w = "swap" := by cases w <;> simp [kw]
      have e1 : P.strF (.str (kw w)) = kw w := rfl
      have e2 : P.strF (.str c) = c := rfl
      simp only [List.map_cons, List.map_nil, P.parseW]
      have e3 : P.strF (.str "r") = "r" := rfl
      rw [e1, e2, e3, if_neg nt, if_pos ⟨ks, n1⟩, if_pos rfl]
  | fence =>
    obtain ⟨a1, a2, a3⟩ := lw "fence" (by simp)
    refine ⟨_, rfl, by simp, by simp, by simp [P.strOkD], fun p hp => ?_, by simp [P.parseW, P.strF]⟩
    simp only [List.mem_cons, List.not_mem_nil, or_false] at hp
    subst hp
    exact ⟨a1, a3, a2⟩
  | test v t =>
    simp only [Row.vd, Bool.and_eq_true, decide_eq_true_eq] at h
    obtain ⟨⟨v0, v9⟩, ht⟩ := h
    obtain ⟨a1, a2, a3⟩ := lw "test" (by simp)
    obtain ⟨q1, q2, q3, q4⟩ := P.num_at (i := v) (by omega) (by omega)
    obtain ⟨s1, s2, s3, s4⟩ := P.num_at (i := (t : Int)) (by omega) (by omega)
    obtain ⟨r1, r2⟩ := P.val_at (i := v) (by omega) (by omega)
    have q5 := num10_at (i := v) (by omega) (by omega)
    have s5 := num10_at (i := (t : Int)) (by omega) (by omega)
    refine ⟨_, rfl, by simp, by simp, by simp [P.strOkD]; omega, fun p hp => ?_, ?_⟩
    · simp only [List.mem_cons, List.not_mem_nil, or_false] at hp
      rcases hp with rfl | rfl | rfl
      · exact ⟨a1, a3, a2⟩
      · exact ⟨q3, q5, by omega⟩
      · exact ⟨s3, s5, by omega⟩
    · have e1 : P.strF (.str "test") = "test" := rfl
      simp only [List.map_cons, List.map_nil, P.parseW]
      rw [e1, if_pos rfl, if_pos ⟨r1, s1⟩, q2, s2]
  | jump t =>
    simp only [Row.vd, decide_eq_true_eq] at h
    obtain ⟨a1, a2, a3⟩ := lw "jump" (by simp)
    obtain ⟨s1, s2, s3, s4⟩ := P.num_at (i := (t : Int)) (by omega) (by omega)
    have s5 := num10_at (i := (t : Int)) (by omega) (by omega)
    refine ⟨_, rfl, by simp, by simp, by simp [P.strOkD]; omega, fun p hp => ?_, ?_⟩
    · simp only [List.mem_cons, List.not_mem_nil, or_false] at hp
      rcases hp with rfl | rfl
      · exact ⟨a1, a3, a2⟩
      · exact ⟨s3, s5, by omega⟩
    · have e1 : P.strF (.str "jump") = "jump" := rfl
      have e2 : ("jump" : Str) ≠ "load" := by decide +kernel
      simp only [List.map_cons, List.map_nil, P.parseW]
      rw [e1, if_neg e2, if_pos rfl, if_pos s1, s2]
/-- what is known of the line of a row -/
structure LineOk (x : Row) : Prop where
  f : ∀ S, m_format_row [enc x] S = some (.ok (.str (lineR x)), S)
  p : ∀ S, m_parse_row [.str (lineR x)] S = some (.ok (enc x), S)
  l : (lineR x).length ≤ 30
  n : 10 ∉ P.cs (lineR x)
  t : lineR x ≠ "thread"
theorem join_mem {a : Nat} {ss : List Str} (h0 : a ≠ 32) (h : ∀ w ∈ ss, a ∉ P.cs w) : a ∉ P.cs (Txt.join " " ss) := by
  have e2 : tl (" " : Str) = [32] := by decide +kernel
  have hh : ∀ ps : List (List Nat), (∀ w ∈ ps, a ∉ w) → a ∉ joinL [32] ps := fun ps => by
    induction ps with
    | nil => intro _; simp [joinL]
    | cons p ps ih =>
      intro hp
      cases ps with
      | nil => simpa [joinL] using hp p List.mem_cons_self
      | cons q r =>
        show a ∉ p ++ ([32] ++ joinL [32] (q :: r))
        simp only [List.mem_append, not_or, List.mem_singleton]
        exact ⟨hp p List.mem_cons_self, h0, ih fun w hw => hp w (List.mem_cons_of_mem _ hw)⟩
  show a ∉ tl (Txt.join " " ss)
  rw [join_eq, tl_join, e2]
  exact hh _ fun w hw => by
    obtain ⟨z, hz, rfl⟩ := List.mem_map.mp hw
    exact h z hz
theorem line_ok {cs : List Str} (C : cs.all nameB = true) {n : Nat} (hn : n ≤ 99) {x : Row} (h : x.vd cs n = true) : LineOk x := by
  obtain ⟨l, e, h1, h2, h3, h4, h5⟩ := row_ws C hn h
  have ew : x.ws = l.map P.strF := by simp only [Row.ws, e]
  have R := P.row_line h3 h1 h2 (fun p hp => ⟨(h4 p hp).1, by have := (h4 p hp).2.2; omega⟩) h5
  have hw : ∀ p ∈ x.ws, p.length ≤ 6 := fun p hp => by
    rw [ew] at hp
    obtain ⟨d, hd, rfl⟩ := List.mem_map.mp hp
    exact (h4 d hd).2.2
  have el : lineR x = Txt.join " " (l.map P.strF) := by simp only [lineR, ew]
  refine ⟨fun S => by rw [e, el]; exact R.f S, fun S => by rw [e, el]; exact R.p S, ?_, ?_, fun z => ?_⟩
  · have := P.join_le hw
    have l3 : x.ws.length ≤ 3 := by rw [ew, List.length_map]; exact h2
    have : x.ws.length * 7 ≤ 3 * 7 := Nat.mul_le_mul_right _ l3
    show (Txt.join " " x.ws).length ≤ 30
    omega
  · refine join_mem (by decide) fun w hw => ?_
    rw [ew] at hw
    obtain ⟨d, hd, rfl⟩ := List.mem_map.mp hw
    exact (h4 d hd).2.1
  · have s1 : Txt.split (lineR x) " " = x.ws := split_join (y := " ") (s := 32) (S := []) (by decide +kernel) (by decide +kernel) (by rw [ew]; simpa using h1) fun p hp => by
      rw [ew] at hp
      obtain ⟨d, hd, rfl⟩ := List.mem_map.mp hp
      exact (h4 d hd).1
    have s2 : Txt.split ("thread" : Str) " " = [("thread" : Str)] := by
      have := split_join (y := " ") (s := 32) (S := []) (parts := ([("thread" : Str)] : List Str)) (by decide +kernel) (by decide +kernel) (by simp) (fun p hp => by rw [List.mem_singleton.mp hp]; exact (lit_ok "thread" (by simp)).1)
      rwa [← P.j1 "thread"] at this
    rw [z, s2, ew] at s1
    rw [← s1] at h5
    simp [P.parseW] at h5
    exact absurd h5.1 (by decide +kernel)
end Lw
namespace Lw
open PySem L2 Mi TL
def linesT (TS : List Rows) : List Str := TS.flatMap fun R => "thread" :: R.map lineR
def linesP (cs : List Str) (TS : List Rows) : List Str := Txt.join " " ("cells" :: cs) :: linesT TS
def textP (cs : List Str) (TS : List Rows) : Str := Txt.join "\n" (linesP cs TS)
theorem linesT_len (TS : List Rows) : (linesT TS).length = TS.length + (TS.map List.length).sum := by
  induction TS with
  | nil => rfl
  | cons R TS ih =>
    simp only [linesT, List.flatMap_cons, List.length_append, List.length_cons, List.length_map, List.map_cons, List.sum_cons] at ih ⊢
    omega
theorem join_cons {cs : List Str} (h : cs ≠ []) : ("cells " : Str) ++ Txt.join " " cs = Txt.join " " ("cells" :: cs) := by
  obtain ⟨c, r, rfl⟩ := List.exists_cons_of_ne_nil h
  refine ext_tl ?_
  rw [tl_append, join_eq, join_eq, tl_join, tl_join]
  have e1 : tl ("cells " : Str) = tl ("cells" : Str) ++ tl (" " : Str) := by decide +kernel
  rw [e1]
  simp only [List.map_cons, joinL, List.append_assoc]
theorem cells_line {cs : List Str} (C : Cs cs) : (Txt.join " " ("cells" :: cs)).length ≤ 30 ∧ 10 ∉ P.cs (Txt.join " " ("cells" :: cs)) := by
  have nm : ∀ c, c ∈ cs → _ := fun c hc => nameL_B (List.all_eq_true.mp C.nm c hc)
  obtain ⟨a1, a2, a3⟩ := lit_ok "cells" (by simp)
  have hw : ∀ p ∈ (("cells" : Str) :: cs), p.length ≤ 6 := fun p hp => by
    rcases List.mem_cons.mp hp with rfl | hp
    · exact a2
    · exact (nm p hp).2.2.2.2
  have := P.join_le hw
  have c3 := C.l3
  refine ⟨?_, join_mem (by decide) fun w hw => ?_⟩
  · simp only [List.length_cons] at this
    omega
  · rcases List.mem_cons.mp hw with rfl | hp
    · exact a3
    · exact (nm w hp).2.2.1
/-- the lines of a valid program -/
theorem lines_ok {cs : List Str} {TS : List Rows} (K : Pk cs TS) : ∀ w ∈ linesP cs TS, w.length ≤ 30 ∧ 10 ∉ P.cs w := fun w hw => by
  rcases List.mem_cons.mp hw with rfl | hw
  · exact cells_line K.c
  · obtain ⟨R, hR, hw⟩ := List.mem_flatMap.mp hw
    rcases List.mem_cons.mp hw with rfl | hw
    · obtain ⟨a1, a2, a3⟩ := lit_ok "thread" (by simp)
      exact ⟨by omega, a3⟩
    · obtain ⟨x, hx, rfl⟩ := List.mem_map.mp hw
      have L := line_ok K.c.nm (by have := K.len R hR; omega) (K.vd R hR x hx)
      exact ⟨L.l, L.n⟩
theorem linesP_len {cs : List Str} {TS : List Rows} (K : Pk cs TS) : (linesP cs TS).length ≤ 28 := by
  have h := linesT_len TS
  have h1 := K.l3
  have h2 := K.sum
  simp only [linesP, List.length_cons]
  omega
theorem sum_len {ss : List Str} {k : Nat} (h : ∀ p ∈ ss, p.length ≤ k) : (ss.map (·.length)).sum ≤ ss.length * k := P.sum_le h
theorem nl1 : ("\n" : Str).length = 1 := by decide +kernel
theorem sp1 : (" " : Str).length = 1 := by decide +kernel
theorem join_lines {S : Store} {ls : List Str} (h : ∀ w ∈ ls, w.length ≤ 30) (hl : ls.length ≤ 1000) : fJoin S (.str "\n") (.lst (ls.map .str)) = some (.str (Txt.join "\n" ls)) := by
  refine P.join_ev ?_
  rw [nl1]
  have := sum_len h
  have : ls.length * 30 ≤ 1000 * 30 := Nat.mul_le_mul_right _ hl
  omega
theorem row_words {S : Store} {x : Row} {cs : List Str} (C : cs.all nameB = true) {n : Nat} (hn : n ≤ 99) (h : x.vd cs n = true) {vs : List Nat} {b : Bind} {mi me : Mi.M D} {g : Gm} (h1 : mi g S = some (.ok (enc x), S)) (hb : ∀ d, ∃ g1, b d (wipeG g vs) = some g1 ∧ me g1 S = some (.ok d, S)) :
    mStr1 fJoin (mP (.str " ")) (mLc vs (mI mi) b (mP true) (mOpA cStr (mCons me (mNil)))) g S = some (.ok (.str (lineR x)), S) := by
  obtain ⟨l, e, q1, q2, q3, q4, q5⟩ := row_ws C hn h
  have ew : x.ws = l.map P.strF := by simp only [Row.ws, e]
  rw [e] at h1
  have el := lc_reps (vs := vs) (b := b) (me := mOpA cStr (mCons me (mNil))) (f := fun d => .str (P.strF d)) (e_I_tup h1) (fun _ => trivial) (by omega) fun d hd => by
    obtain ⟨g1, h2, h3⟩ := hb d
    exact ⟨g1, h2, e_opA (e_cons h3 e_nil) (P.cstr_ev (List.all_eq_true.mp q3 d hd))⟩
  refine e_str1 (e_P _) el ?_
  have e2 : l.map (fun d => D.str (P.strF d)) = x.ws.map .str := by rw [ew, List.map_map]; rfl
  rw [e2]
  refine P.join_ev ?_
  rw [sp1]
  have hw : ∀ p ∈ x.ws, p.length ≤ 6 := fun p hp => by
    rw [ew] at hp
    obtain ⟨d, hd, rfl⟩ := List.mem_map.mp hp
    exact (q4 d hd).2.2
  have := sum_len hw
  have l3 : x.ws.length ≤ 3 := by rw [ew, List.length_map]; exact q2
  have : x.ws.length * 6 ≤ 3 * 6 := Nat.mul_le_mul_right _ l3
  omega
/-! ### Program.text -/
section
variable {S : Store} {cs : List Str} {TS : List Rows} {i : Nat}
theorem f_ts' (hi : S[i]? = some (prC cs TS)) : fldOf of_threads_Program "_threads" S (.ref i) = some (.lst (tsD TS)) := o_fld hi rfl rfl
theorem f_cs' (hi : S[i]? = some (prC cs TS)) : fldOf of_cells_Program "cells" S (.ref i) = some (.tup (cs.map .str)) := o_fld hi rfl rfl
theorem text_row (K : Pk cs TS) {R : Rows} (hR : R ∈ TS) {acc : List Str} (ha : acc.length ≤ 100) {o3 : Option D} : bd_Program_text_0 [some (.ref i), some (.ref S.length), some (.lst (en R)), o3] (S ++ [.lst (acc.map .str)]) = some (.nx [some (.ref i), some (.ref S.length), some (.lst (en R)), o3], S ++ [.lst ((acc ++ (("thread" : Str) :: R.map lineR)).map .str)]) := by
  have hl := K.len R hR
  have el := lc_reps (vs := [3]) (b := bN 3) (g := [some (.ref i), some (.ref S.length), some (.lst (en R)), o3]) (S := S ++ [.lst (acc.map .str)]) (mi := mI (mVar 2)) (me := mCall (m_format_row) (mCons (mVar 3) (mNil))) (f := fun d => .str (Txt.join " " (match d with | .tup l => l.map P.strF | _ => []))) (e_I_lst (e_var rfl)) (fun _ => trivial) (by rw [en_len]; omega) fun d hd => by
    obtain ⟨x, hx, rfl⟩ := List.mem_map.mp hd
    have L := line_ok K.c.nm (by omega) (K.vd R hR x hx)
    exact ⟨_, rfl, e_call (e_cons (e_var rfl) e_nil) (L.f _)⟩
  have e2 : (en R).map (fun d => D.str (Txt.join " " (match d with | .tup l => l.map P.strF | _ => []))) = (R.map lineR).map .str := by
    rw [en, List.map_map, List.map_map]; rfl
  rw [e2] at el
  unfold bd_Program_text_0
  rw [s_augL rfl (e_opA (e_cons (e_P _) (e_star el rfl e_nil)) (o_lst (by simp; omega))) last_get rfl (by simp; omega), last_set]
  simp
theorem text_ev (K : Pk cs TS) (hi : S[i]? = some (prC cs TS)) : m_Program_text [.ref i] S = some (.ok (.str (textP cs TS)), S ++ [.dead]) := by
  have c1 := K.c.l1
  have c3 := K.c.l3
  have hj : fJoin S (.str " ") (.lst ((("cells" : Str) :: cs).map .str)) = some (.str (Txt.join " " ("cells" :: cs))) := by
    refine P.join_ev ?_
    rw [sp1]
    have nm : ∀ c, c ∈ cs → _ := fun c hc => nameL_B (List.all_eq_true.mp K.c.nm c hc)
    have hw : ∀ p ∈ (("cells" : Str) :: cs), p.length ≤ 6 := fun p hp => by
      rcases List.mem_cons.mp hp with rfl | hp
      · exact (lit_ok "cells" (by simp)).2.1
      · exact (nm p hp).2.2.2.2
    have := sum_len hw
    simp only [List.length_cons] at this ⊢
    omega
  have loop : ∀ (US DS : List Rows) (o2 : Option D), DS ++ US = TS → ∃ p2, forGo (tsD TS, none) (bN 2) bd_Program_text_0 (tsD US) [some (.ref i), some (.ref S.length), o2, none] (S ++ [.lst ((Txt.join " " ("cells" :: cs) :: linesT DS).map .str)]) = some (.nx [some (.ref i), some (.ref S.length), p2, none], S ++ [.lst ((linesP cs TS).map .str)]) := fun US => by
    induction US with
    | nil =>
      intro DS o2 h
      rw [List.append_nil] at h
      subst h
      exact ⟨o2, for_nil trivial⟩
    | cons R US ih =>
      intro DS o2 h
      obtain ⟨p2, e⟩ := ih (DS ++ [R]) (some (.lst (en R))) (by simpa using h)
      have hR : R ∈ TS := by rw [← h]; simp
      refine ⟨p2, for_cons trivial rfl (text_row K hR ?_) ?_⟩
      · have h1 := linesT_len DS
        have h2 := K.sum
        have h3 := K.l3
        rw [← h] at h2 h3
        simp only [List.map_append, List.sum_append, List.length_append, List.length_cons] at h1 h2 h3 ⊢
        omega
      · have e3 : Txt.join " " ("cells" :: cs) :: linesT DS ++ (("thread" : Str) :: R.map lineR) = Txt.join " " ("cells" :: cs) :: linesT (DS ++ [R]) := by
          simp [linesT]
        rw [e3]
        exact e
  obtain ⟨p2, e⟩ := loop TS [] none rfl
  unfold m_Program_text
  refine f_rt rfl ?_
  unfold b_Program_text
  refine s_seq (s_set (e_newL (S1 := S) (l := [.str (Txt.join " " ("cells" :: cs))]) (e_cons (e_str1 (e_P _) (e_opA (l := (("cells" : Str) :: cs).map .str) ?_ (o_lst (by simp; omega))) hj) e_nil) (by simp))) ?_
  · have : (("cells" : Str) :: cs).map D.str = .str "cells" :: (cs.map .str ++ []) := by simp
    rw [this]
    exact e_cons (e_P _) (e_star (e_op1 (e_var rfl) (f_cs' hi)) rfl e_nil)
  refine s_seq (s_for (e_I_lst (e_op1 (e_var rfl) (f_ts' (app_old hi)))) (r := some (.nx [some (.ref i), some (.ref S.length), p2, none], S ++ [.lst ((linesP cs TS).map .str)])) ?_) ?_
  · exact e
  refine s_ret (e_str1 (S2 := S ++ [.dead]) (e_P _) ?_ (join_lines (fun w hw => (lines_ok K w hw).1) (by have := linesP_len K; omega)))
  have := e_varF (g := [some (.ref i), some (.ref S.length), p2, none]) (i := 1) (S := S ++ [.lst ((linesP cs TS).map .str)]) rfl last_get
  rw [last_set] at this
  exact this
end
end Lw
namespace Lw
open PySem L2 Mi TL
/-! ### Program.read -/
section
variable {S : Store} {cs : List Str} {TS : List Rows}
/-- the threads read so far: a list of lists -/
def refsL (n m : Nat) : List D := (List.range m).map fun (k : Nat) => D.ref (n + 1 + k)
def rowC (U : List Rows) : Store := U.map fun R => Cell.lst (en R)
def stR (S : Store) (U : List Rows) : Store := S ++ (.lst (refsL S.length U.length) :: rowC U)
theorem refsL_succ (n m : Nat) : refsL n (m + 1) = refsL n m ++ [.ref (n + 1 + m)] := by simp [refsL, List.range_succ]
theorem stR_len (U : List Rows) : (stR S U).length = S.length + 1 + U.length := by simp [stR, rowC]; omega
theorem stR_at (U : List Rows) : (stR S U)[S.length]? = some (.lst (refsL S.length U.length)) := by simp [stR]
theorem stR_row {U : List Rows} {k : Nat} (h : k < U.length) : (stR S U)[S.length + 1 + k]? = some (.lst (en U[k])) := by
  unfold stR
  rw [List.getElem?_append_right (by omega)]
  have e : S.length + 1 + k - S.length = k + 1 := by omega
  rw [e, List.getElem?_cons_succ]
  simp [rowC, h]
theorem stR_set_row {U : List Rows} {R R' : Rows} : (stR S (U ++ [R])).set (S.length + 1 + U.length) (.lst (en R')) = stR S (U ++ [R']) := by
  unfold stR
  rw [List.set_append_right _ _ (by omega)]
  have e : S.length + 1 + U.length - S.length = U.length + 1 := by omega
  rw [e, List.set_cons_succ]
  simp [rowC]
/-- a new thread -/
theorem read_thread {U : List Rows} (hU : U.length ≤ 100) : ((stR S U) ++ [Cell.lst (en [])]).set S.length (Cell.lst (refsL S.length U.length ++ [D.ref (stR S U).length])) = stR S (U ++ [[]]) := by
  rw [stR_len]
  unfold stR
  rw [List.append_assoc, List.set_append_right _ _ (by omega)]
  simp [rowC, refsL_succ]
/-- the frame of Program.read -/
abbrev rg (t : Str) (n : Nat) (cd : D) (a b c d : Option D) : Gm := [some (.cls "Program"), some (.str t), some cd, some (.ref n), a, b, c, d]
theorem eq_int (a b : Int) : fEq S (.int a) (.int b) = some (.bl (decide (a = b))) := by simp [fEq, eqB_int]
theorem eq_str (a b : Str) : fEq S (.str a) (.str b) = some (.bl (decide (a = b))) := by simp [fEq, eqB_str]
theorem ne_str (a b : Str) : fNe S (.str a) (.str b) = some (.bl (!decide (a = b))) := by simp [fNe, eqB_str]
theorem split_sp {ws : List Str} (hne : ws ≠ []) (hp : ∀ p ∈ ws, 32 ∉ P.cs p) (hz : (Txt.join " " ws).length ≤ 1000) : fSplit S (.str (Txt.join " " ws)) (.str " ") = some (.lst (ws.map .str)) := P.split_ev hne hp (by omega)
theorem split_any {z : Str} (h : z.length ≤ 1000) : ∃ l, fSplit S (.str z) (.str " ") = some (.lst l) := ⟨(Txt.split z " ").map .str, by
  show (if _ ∧ _ then _ else none) = _
  rw [if_pos ⟨by decide +kernel, sz_ok (by omega)⟩]⟩
/-- a line of a row -/
theorem read_row {t : Str} {cd : D} {U : List Rows} {R : Rows} {x : Row} (L : LineOk x) (hR : R.length ≤ 1000) (hU : U.length ≤ 100) {k : Nat} (hk : 3 ≤ k) {o6 o7 : Option D} : ∃ p6, bd_Program_read_0 (rg t S.length cd (some (.int k)) (some (.str (lineR x))) o6 o7) (stR S (U ++ [R])) = some (.nx (rg t S.length cd (some (.int k)) (some (.str (lineR x))) p6 o7), stR S (U ++ [R ++ [x]])) := by
  obtain ⟨l, hl⟩ := split_any (S := stR S (U ++ [R])) (z := lineR x) (by have := L.l; omega)
  refine ⟨some (.lst l), ?_⟩
  unfold bd_Program_read_0
  refine s_seq (s_set (e_str1 (e_var rfl) (e_P _) hl)) ?_
  apply s_ifF
  · (repeat first | exact eq_int _ _ | exact e_P _ | (apply e_var; rfl) | exact e_nil | apply e_op2 | apply e_op1 | apply e_opA | apply e_cons | apply e_call | apply e_callC | apply e_T | apply e_notT | apply e_notV | apply e_str1 | apply e_part | apply e_sl | apply e_ch | apply e_orT | apply e_andT | apply e_orV | apply e_andV | exact v_add _ _ _ | exact v_sub _ _ _ | exact v_lt _ _ _ | exact v_le _ _ _ | exact v_gt _ _ _ | exact v_ge _ _ _ | exact v_cint _ _ | exact o_len_l | exact o_len_t | exact o_tup (by simp) | exact o_lst (by simp) | exact s_skip | exact s_retN | assumption)
  · simp; omega
  apply s_ifF
  · (repeat first | exact eq_str _ _ | exact e_P _ | (apply e_var; rfl) | exact e_nil | apply e_op2 | apply e_op1 | apply e_opA | apply e_cons | apply e_call | apply e_callC | apply e_T | apply e_notT | apply e_notV | apply e_str1 | apply e_part | apply e_sl | apply e_ch | apply e_orT | apply e_andT | apply e_orV | apply e_andV | exact v_add _ _ _ | exact v_sub _ _ _ | exact v_lt _ _ _ | exact v_le _ _ _ | exact v_gt _ _ _ | exact v_ge _ _ _ | exact v_cint _ _ | exact o_len_l | exact o_len_t | exact o_tup (by simp) | exact o_lst (by simp) | exact s_skip | exact s_retN | assumption)
  · simp [L.t]
  apply s_ifF
  · (repeat first | exact eq_int _ _ | exact e_P _ | (apply e_var; rfl) | exact e_nil | apply e_op2 | apply e_op1 | apply e_opA | apply e_cons | apply e_call | apply e_callC | apply e_T | apply e_notT | apply e_notV | apply e_str1 | apply e_part | apply e_sl | apply e_ch | apply e_orT | apply e_andT | apply e_orV | apply e_andV | exact v_add _ _ _ | exact v_sub _ _ _ | exact v_lt _ _ _ | exact v_le _ _ _ | exact v_gt _ _ _ | exact v_ge _ _ _ | exact v_cint _ _ | exact o_len_l | exact o_len_t | exact o_tup (by simp) | exact o_lst (by simp) | exact s_skip | exact s_retN | assumption)
  · simp; omega
  have er : (stR S (U ++ [R]))[S.length + 1 + U.length]? = some (.lst (en R)) := by
    rw [stR_row (by simp)]; simp
  refine s_tryO (s_ex (d := .non) ?_)
  have := e_app (mo := mOp2 fIx (mVar 3) (mOp1 fNeg (mP (.int 1)))) (me := mCall (m_parse_row) (mCons (mVar 5) (mNil))) (g := rg t S.length cd (some (.int k)) (some (.str (lineR x))) (some (.lst l)) o7) (S := stR S (U ++ [R])) (S1 := stR S (U ++ [R])) (S2 := stR S (U ++ [R])) (i := S.length + 1 + U.length) (l := en R) (l2 := en R) (d := enc x)
    (e_op2 (e_var rfl) (e_op1 (e_P _) rfl) (o_ix (l := refsL S.length (U ++ [R]).length) (by simp only [asL, stR_at]) (at_neg1 (by rw [List.length_append, List.length_singleton, refsL_succ]; simp)))) er (e_call (e_cons (e_var rfl) e_nil) (L.p _)) er (by rw [en_len]; omega)
  have e2 : en R ++ [enc x] = en (R ++ [x]) := by simp [en]
  rw [e2, stR_set_row] at this
  exact this
/-- the line of a thread -/
theorem read_thr {t : Str} {cd : D} {U : List Rows} (hU : U.length ≤ 100) {k : Nat} (hk : 2 ≤ k) {o6 o7 : Option D} : ∃ p6, bd_Program_read_0 (rg t S.length cd (some (.int k)) (some (.str "thread")) o6 o7) (stR S U) = some (.nx (rg t S.length cd (some (.int k)) (some (.str "thread")) p6 o7), stR S (U ++ [[]])) := by
  obtain ⟨l, hl⟩ := split_any (S := stR S U) (z := "thread") (by decide +kernel)
  refine ⟨some (.lst l), ?_⟩
  unfold bd_Program_read_0
  refine s_seq (s_set (e_str1 (e_var rfl) (e_P _) hl)) ?_
  apply s_ifF
  · (repeat first | exact eq_int _ _ | exact e_P _ | (apply e_var; rfl) | exact e_nil | apply e_op2 | apply e_op1 | apply e_opA | apply e_cons | apply e_call | apply e_callC | apply e_T | apply e_notT | apply e_notV | apply e_str1 | apply e_part | apply e_sl | apply e_ch | apply e_orT | apply e_andT | apply e_orV | apply e_andV | exact v_add _ _ _ | exact v_sub _ _ _ | exact v_lt _ _ _ | exact v_le _ _ _ | exact v_gt _ _ _ | exact v_ge _ _ _ | exact v_cint _ _ | exact o_len_l | exact o_len_t | exact o_tup (by simp) | exact o_lst (by simp) | exact s_skip | exact s_retN | assumption)
  · simp; omega
  apply s_ifT
  · (repeat first | exact eq_str _ _ | exact e_P _ | (apply e_var; rfl) | exact e_nil | apply e_op2 | apply e_op1 | apply e_opA | apply e_cons | apply e_call | apply e_callC | apply e_T | apply e_notT | apply e_notV | apply e_str1 | apply e_part | apply e_sl | apply e_ch | apply e_orT | apply e_andT | apply e_orV | apply e_andV | exact v_add _ _ _ | exact v_sub _ _ _ | exact v_lt _ _ _ | exact v_le _ _ _ | exact v_gt _ _ _ | exact v_ge _ _ _ | exact v_cint _ _ | exact o_len_l | exact o_len_t | exact o_tup (by simp) | exact o_lst (by simp) | exact s_skip | exact s_retN | assumption)
  · simp
  refine s_ex (d := .non) ?_
  have := e_app (mo := mVar 3) (me := mNewL (mNil)) (g := rg t S.length cd (some (.int k)) (some (.str "thread")) (some (.lst l)) o7) (S := stR S U) (S1 := stR S U) (e_var rfl) (stR_at U) (e_newL e_nil (by simp)) (app_old (stR_at U)) (by simp [refsL]; omega)
  exact this.trans (congrArg (fun T => some (R.ok D.non, T)) (read_thread hU))
/-- the first line -/
theorem read_cells (C : Cs cs) {t : Str} {cd : D} : ∃ p6, bd_Program_read_0 (rg t S.length cd (some (.int 1)) (some (.str (Txt.join " " ("cells" :: cs)))) none none) (stR S []) = some (.nx (rg t S.length (.lst (cs.map .str)) (some (.int 1)) (some (.str (Txt.join " " ("cells" :: cs)))) p6 none), stR S []) := by
  have c1 := C.l1
  have c3 := C.l3
  have nm : ∀ c, c ∈ cs → _ := fun c hc => nameL_B (List.all_eq_true.mp C.nm c hc)
  have hl := split_sp (S := stR S []) (ws := "cells" :: cs) (by simp) (fun p hp => by
    rcases List.mem_cons.mp hp with rfl | hp
    · exact (lit_ok "cells" (by simp)).1
    · exact (nm p hp).2.1) (by have := (cells_line C).1; omega)
  refine ⟨some (.lst ((("cells" : Str) :: cs).map .str)), ?_⟩
  unfold bd_Program_read_0
  refine s_seq (s_set (e_str1 (e_var rfl) (e_P _) hl)) ?_
  apply s_ifT
  · (repeat first | exact eq_int _ _ | exact e_P _ | (apply e_var; rfl) | exact e_nil | apply e_op2 | apply e_op1 | apply e_opA | apply e_cons | apply e_call | apply e_callC | apply e_T | apply e_notT | apply e_notV | apply e_str1 | apply e_part | apply e_sl | apply e_ch | apply e_orT | apply e_andT | apply e_orV | apply e_andV | exact v_add _ _ _ | exact v_sub _ _ _ | exact v_lt _ _ _ | exact v_le _ _ _ | exact v_gt _ _ _ | exact v_ge _ _ _ | exact v_cint _ _ | exact o_len_l | exact o_len_t | exact o_tup (by simp) | exact o_lst (by simp) | exact s_skip | exact s_retN | assumption)
  · simp
  have hc : fSl (stR S []) (.lst ((("cells" : Str) :: cs).map .str)) (some 1) none = some (.lst (cs.map .str)) := by
    rw [v_slL]
    have : cutD ((("cells" : Str) :: cs).map D.str) (some 1) none = _ := cut_from ((("cells" : Str) :: cs).map D.str) 1
    rw [this]; rfl
  refine s_seq (s_set (e_sl (e_var rfl) (e_part (e_P _)) (e_P _) hc)) ?_
  show mIfS _ _ _ (rg t S.length (.lst (cs.map .str)) (some (.int 1)) (some (.str (Txt.join " " ("cells" :: cs)))) (some (.lst ((("cells" : Str) :: cs).map .str))) none) (stR S []) = _
  have el := lc_reps (vs := [7]) (b := bN 7) (g := rg t S.length (.lst (cs.map .str)) (some (.int 1)) (some (.str (Txt.join " " ("cells" :: cs)))) (some (.lst ((("cells" : Str) :: cs).map .str))) none) (S := stR S []) (mi := mI (mVar 2)) (me := mCall (m_is_name) (mCons (mVar 7) (mNil))) (f := fun _ => .bl true) (e_I_lst (e_var rfl)) (fun _ => trivial) (by simp; omega) fun d hd => by
    obtain ⟨c, hc, rfl⟩ := List.mem_map.mp hd
    exact ⟨_, rfl, by (repeat first | exact is_name_ev (List.all_eq_true.mp C.nm c hc) | exact e_P _ | (apply e_var; rfl) | exact e_nil | apply e_op2 | apply e_op1 | apply e_opA | apply e_cons | apply e_call | apply e_callC | apply e_T | apply e_notT | apply e_notV | apply e_str1 | apply e_part | apply e_sl | apply e_ch | apply e_orT | apply e_andT | apply e_orV | apply e_andV | exact v_add _ _ _ | exact v_sub _ _ _ | exact v_lt _ _ _ | exact v_le _ _ _ | exact v_gt _ _ _ | exact v_ge _ _ _ | exact v_cint _ _ | exact o_len_l | exact o_len_t | exact o_tup (by simp) | exact o_lst (by simp) | exact s_skip | exact s_retN | assumption)⟩
  have hne : fEq (stR S []) (.lst (cs.map .str)) (.lst []) = some (.bl false) := by
    have h := eqB_strs (S := stR S []) (d := .lst (cs.map .str)) (e := .lst (([] : List Str).map .str)) (l := cs) (m := []) rfl toPS_lst toPS_lst C.ok rfl
    have hn : ¬ cs = [] := fun z => by rw [z] at c1; simp at c1
    simp only [fEq, List.map_nil] at h ⊢
    rw [h]
    simp [hn]
  apply s_ifF
  · (repeat first | exact ne_str _ _ | exact o_ix rfl (at_zero rfl) | exact hne | exact el | exact alls' _ (by simp) | exact e_P _ | (apply e_var; rfl) | exact e_nil | apply e_op2 | apply e_op1 | apply e_opA | apply e_cons | apply e_call | apply e_callC | apply e_T | apply e_notT | apply e_notV | apply e_str1 | apply e_part | apply e_sl | apply e_ch | apply e_orT | apply e_andT | apply e_orV | apply e_andV | exact v_add _ _ _ | exact v_sub _ _ _ | exact v_lt _ _ _ | exact v_le _ _ _ | exact v_gt _ _ _ | exact v_ge _ _ _ | exact v_cint _ _ | exact o_len_l | exact o_len_t | exact o_tup (by simp) | exact o_lst (by simp) | exact s_skip | exact s_retN | assumption)
  · simp
  · exact s_skip
abbrev pb2r : Bind := bTup 2 (bCons (bN 4) (bCons (bN 5) (bNil)))
theorem read_rows {cd : D} {t : Str} {src : Src} (hs : ∀ T, srcOk T src) {U : List Rows} (hU : U.length ≤ 100) : ∀ (R' R : Rows) (k : Nat) (o4 o5 o6 : Option D), (∀ x ∈ R', LineOk x) → R.length + R'.length ≤ 1000 → 3 ≤ k → ∃ p4 p5 p6, ∀ rest,
    forGo src pb2r bd_Program_read_0 (enumF (k : Int) ((R'.map lineR).map D.str ++ rest)) (rg t S.length cd o4 o5 o6 none) (stR S (U ++ [R])) = forGo src pb2r bd_Program_read_0 (enumF ((k + R'.length : Nat) : Int) rest) (rg t S.length cd p4 p5 p6 none) (stR S (U ++ [R ++ R']))
  | [], R, k, o4, o5, o6, _, _, _ => ⟨o4, o5, o6, fun rest => by simp⟩
  | x :: R', R, k, o4, o5, o6, h, hl, hk => by
    simp only [List.length_cons] at hl
    obtain ⟨q6, e1⟩ := read_row (S := S) (t := t) (cd := cd) (U := U) (R := R) (h x List.mem_cons_self) (by omega) hU hk (o6 := o6) (o7 := none)
    obtain ⟨p4, p5, p6, e2⟩ := read_rows hs hU R' (R ++ [x]) (k + 1) (some (.int k)) (some (.str (lineR x))) q6 (fun y hy => h y (List.mem_cons_of_mem _ hy)) (by simp; omega) (by omega)
    refine ⟨p4, p5, p6, fun rest => ?_⟩
    show forGo src pb2r bd_Program_read_0 (.tup [.int (k : Int), .str (lineR x)] :: enumF ((k : Int) + 1) ((R'.map lineR).map D.str ++ rest)) _ _ = _
    refine for_cons (hs _) rfl e1 ?_
    have e3 : ((k : Int) + 1) = ((k + 1 : Nat) : Int) := by omega
    have e4 : k + (x :: R').length = k + 1 + R'.length := by simp; omega
    have e5 : R ++ x :: R' = R ++ [x] ++ R' := by simp
    rw [e3, e4, e5]
    exact e2 rest
theorem read_threads {cd : D} {t : Str} {src : Src} (hs : ∀ T, srcOk T src) : ∀ (V U : List Rows) (k : Nat) (o4 o5 o6 : Option D), (∀ R ∈ V, ∀ x ∈ R, LineOk x) → (∀ R ∈ V, R.length ≤ 1000) → U.length + V.length ≤ 100 → 2 ≤ k → ∃ p4 p5 p6,
    forGo src pb2r bd_Program_read_0 (enumF (k : Int) ((linesT V).map D.str)) (rg t S.length cd o4 o5 o6 none) (stR S U) = some (.nx (rg t S.length cd p4 p5 p6 none), stR S (U ++ V))
  | [], U, k, o4, o5, o6, _, _, _, _ => ⟨o4, o5, o6, by rw [List.append_nil]; exact for_nil (hs _)⟩
  | R :: V, U, k, o4, o5, o6, h, hz, hl, hk => by
    simp only [List.length_cons] at hl
    obtain ⟨q6, e1⟩ := read_thr (S := S) (t := t) (cd := cd) (U := U) (by omega) hk (o6 := o6) (o7 := none)
    obtain ⟨r4, r5, r6, e2⟩ := read_rows (S := S) (cd := cd) (t := t) hs (U := U) (by omega) R [] (k + 1) (some (.int k)) (some (.str "thread")) q6 (h R List.mem_cons_self) (by have := hz R List.mem_cons_self; simpa using this) (by omega)
    obtain ⟨p4, p5, p6, e3⟩ := read_threads hs V (U ++ [R]) (k + 1 + R.length) r4 r5 r6 (fun Q hQ => h Q (List.mem_cons_of_mem _ hQ)) (fun Q hQ => hz Q (List.mem_cons_of_mem _ hQ)) (by simp; omega) (by omega)
    refine ⟨p4, p5, p6, ?_⟩
    have e0 : (linesT (R :: V)).map D.str = .str "thread" :: ((R.map lineR).map D.str ++ (linesT V).map D.str) := by simp [linesT]
    rw [e0]
    show forGo src pb2r bd_Program_read_0 (.tup [.int (k : Int), .str "thread"] :: enumF ((k : Int) + 1) _) _ _ = _
    refine for_cons (hs _) rfl e1 ?_
    have e4 : ((k : Int) + 1) = ((k + 1 : Nat) : Int) := by omega
    rw [e4, e2]
    have e5 : U ++ R :: V = U ++ [R] ++ V := by simp
    rw [e5]
    simpa using e3
/-- behind the reading: the list of the threads is fixed -/
def stD (S : Store) (U : List Rows) : Store := S ++ (.dead :: rowC U)
theorem stD_len (U : List Rows) : (stD S U).length = S.length + 1 + U.length := by simp [stD, rowC]; omega
theorem stD_of (U : List Rows) : (stR S U).set S.length .dead = stD S U := by
  unfold stR stD
  rw [List.set_append_right _ _ (by omega)]
  simp
theorem stD_row {U : List Rows} {k : Nat} (h : k < U.length) : (stD S U)[S.length + 1 + k]? = some (.lst (en U[k])) := by
  unfold stD
  rw [List.getElem?_append_right (by omega)]
  have e : S.length + 1 + k - S.length = k + 1 := by omega
  rw [e, List.getElem?_cons_succ]
  simp [rowC, h]
theorem read_ev (K : Pk cs TS) : m_Program_read [.cls "Program", .str (textP cs TS)] S = some (.ok (.ref (S.length + 1 + TS.length)), stD S TS ++ [prC cs TS]) := by
  have hl := linesP_len K
  have ho := lines_ok K
  have hs : fSplit S (.str (textP cs TS)) (.str "\n") = some (.lst ((linesP cs TS).map .str)) := by
    have e : Txt.split (textP cs TS) "\n" = linesP cs TS := split_join (y := "\n") (s := 10) (S := []) (by decide +kernel) (by decide +kernel) (by simp [linesP]) fun p hp => (ho p hp).2
    have hz : (textP cs TS).length + 2 ≤ 16777216 := by
      rw [textP, len_tl, join_eq, tl_join]
      have e2 : tl ("\n" : Str) = [10] := by decide +kernel
      rw [e2]
      have h1 := P.joinL_le [10] ((linesP cs TS).map tl)
      have h2 := sum_len fun w hw => (ho w hw).1
      have e : ((linesP cs TS).map tl).map (·.length) = (linesP cs TS).map (·.length) := by
        rw [List.map_map]; exact List.map_congr_left fun x _ => (len_tl x).symm
      rw [e] at h1
      simp only [List.length_map, List.length_cons, List.length_nil] at h1
      have : (linesP cs TS).length * 30 ≤ 28 * 30 := Nat.mul_le_mul_right _ hl
      omega
    show (if _ ∧ _ then _ else none) = _
    rw [if_pos ⟨by decide +kernel, sz_ok hz⟩, e]
  have LK : ∀ R ∈ TS, ∀ x ∈ R, LineOk x := fun R hR x hx => line_ok K.c.nm (by have := K.len R hR; omega) (K.vd R hR x hx)
  obtain ⟨q6, e1⟩ := read_cells (S := S) K.c (t := textP cs TS) (cd := .lst [])
  obtain ⟨p4, p5, p6, e2⟩ := read_threads (S := S) (cd := .lst (cs.map .str)) (t := textP cs TS) (src := (enumF 1 ((linesP cs TS).map .str), none)) (fun _ => trivial) TS [] 2 (some (.int 1)) (some (.str (Txt.join " " ("cells" :: cs)))) q6 LK (fun R hR => by have := K.len R hR; omega) (by have := K.l3; simp; omega) (by omega)
  have lS : (stR S []).length = S.length + 1 := by rw [stR_len]; rfl
  unfold m_Program_read
  refine f_rt rfl ?_
  unfold b_Program_read
  refine s_seq (s_set (e_opA e_nil (o_lst (by simp)))) (s_seq (s_set (e_newL e_nil (by simp))) ?_)
  refine s_seq (s_for (e_enum2 (e_cons (e_str1 (e_var rfl) (e_P _) (show fSplit (stR S []) _ _ = _ from hs)) (e_cons (e_P _) e_nil)) (show srcL (stR S []) _ = _ from rfl) (by decide)) (r := some (.nx (rg (textP cs TS) S.length (.lst (cs.map .str)) p4 p5 p6 none), stR S TS)) ?_) ?_
  · show forGo _ _ _ (.tup [.int 1, .str (Txt.join " " ("cells" :: cs))] :: enumF (1 + 1) ((linesT TS).map D.str)) (rg (textP cs TS) S.length (.lst []) none none none none) (stR S []) = _
    refine for_cons trivial rfl e1 ?_
    exact e2
  have A : Arg (stD S TS) (.lst (cs.map .str)) (.lst (refsL S.length TS.length)) cs TS := ⟨rfl, refsL S.length TS.length, rfl, by simp [refsL], fun k d hd => by
    simp only [refsL, List.getElem?_map, Option.map_eq_some_iff] at hd
    obtain ⟨j, hj, rfl⟩ := hd
    obtain ⟨hk1, hk2⟩ := List.getElem?_eq_some_iff.mp hj
    simp only [List.length_range] at hk1
    simp only [List.getElem_range] at hk2
    subst hk2
    exact ⟨TS[k], List.getElem?_eq_getElem hk1, by simp only [asLL, stD_row hk1]⟩⟩
  refine s_ret (e_makeV (e_var rfl) (c := cx_Program) (mf := m_Program__init_) (by simp [ct_Program]) ?_)
  have hv := e_varF (g := rg (textP cs TS) S.length (.lst (cs.map .str)) p4 p5 p6 none) (i := 3) (S := stR S TS) rfl (stR_at TS)
  rw [stD_of] at hv
  rw [pmake_ev K A (e_cons (e_var rfl) (e_cons hv e_nil)), stD_len]
end
end Lw
namespace Lw
open PySem L2 Mi TL
/-! ### the law's own text of a program -/
section
variable {S : Store} {cs : List Str} {TS : List Rows}
abbrev lg (cs : List Str) (TS : List Rows) (n : Nat) (a b c : Option D) : Gm := [some (.lst (cs.map .str)), some (.lst (tsD TS)), some (.ref n), a, b, c]
theorem ltext_rows (C : cs.all nameB = true) {o3 : Option D} : ∀ (R : Rows) (acc : List Str) (o4 : Option D), (∀ x ∈ R, ∃ n, n ≤ 99 ∧ x.vd cs n = true) → acc.length + R.length ≤ 1000 → ∀ src : Src, src.2 = none → ∃ p4, forGo src (bN 4) bd_law_text_0 (en R) (lg cs TS S.length o3 o4 none) (S ++ [.lst (acc.map .str)]) = some (.nx (lg cs TS S.length o3 p4 none), S ++ [.lst ((acc ++ R.map lineR).map .str)])
  | [], acc, o4, _, _, src, hs => ⟨o4, by rw [List.map_nil, List.append_nil]; exact for_nil (by unfold srcOk; rw [hs]; trivial)⟩
  | x :: R, acc, o4, h, hl, src, hs => by
    simp only [List.length_cons] at hl
    obtain ⟨n, hn, hv⟩ := h x List.mem_cons_self
    obtain ⟨p4, e⟩ := ltext_rows C R (acc ++ [lineR x]) (some (enc x)) (fun y hy => h y (List.mem_cons_of_mem _ hy)) (by simp; omega) src hs
    refine ⟨p4, ?_⟩
    have hso : srcOk (S ++ [.lst (acc.map .str)]) src := by unfold srcOk; rw [hs]; trivial
    refine for_cons hso (g1 := lg cs TS S.length o3 (some (enc x)) none) rfl (s_ex (d := .non) (e_app (e_var rfl) last_get (row_words C hn hv (e_var rfl) fun d => ⟨_, rfl, e_var rfl⟩) last_get (by simp; omega))) ?_
    rw [last_set]
    have e1 : acc ++ (x :: R).map lineR = acc ++ [lineR x] ++ R.map lineR := by simp
    rw [e1]
    have e2 : (acc.map D.str ++ [D.str (lineR x)]) = (acc ++ [lineR x]).map .str := by simp
    rw [e2]
    exact e
theorem ltext_threads (C : cs.all nameB = true) : ∀ (V : List Rows) (acc : List Str) (o3 o4 : Option D), (∀ R ∈ V, ∀ x ∈ R, ∃ n, n ≤ 99 ∧ x.vd cs n = true) → acc.length + (linesT V).length ≤ 1000 → ∀ src : Src, src.2 = none → ∃ p3 p4, forGo src (bN 3) bd_law_text_1 (tsD V) (lg cs TS S.length o3 o4 none) (S ++ [.lst (acc.map .str)]) = some (.nx (lg cs TS S.length p3 p4 none), S ++ [.lst ((acc ++ linesT V).map .str)])
  | [], acc, o3, o4, _, _, src, hs => ⟨o3, o4, by
    have : linesT [] = [] := rfl
    rw [this, List.append_nil]; exact for_nil (by unfold srcOk; rw [hs]; trivial)⟩
  | R :: V, acc, o3, o4, h, hl, src, hs => by
    have el : linesT (R :: V) = (("thread" : Str) :: R.map lineR) ++ linesT V := by simp [linesT]
    rw [el] at hl
    simp only [List.length_append, List.length_cons, List.length_map] at hl
    obtain ⟨q4, e0⟩ := ltext_rows (S := S) (TS := TS) C (o3 := some (.lst (en R))) R (acc ++ [("thread" : Str)]) o4 (h R List.mem_cons_self) (by simp; omega) (en R, none) rfl
    obtain ⟨p3, p4, e⟩ := ltext_threads C V (acc ++ (("thread" : Str) :: R.map lineR)) (some (.lst (en R))) q4 (fun Q hQ => h Q (List.mem_cons_of_mem _ hQ)) (by simp; omega) src hs
    refine ⟨p3, p4, ?_⟩
    have hso : srcOk (S ++ [.lst (acc.map .str)]) src := by unfold srcOk; rw [hs]; trivial
    refine for_cons hso (g1 := lg cs TS S.length (some (.lst (en R))) o4 none) (g2 := lg cs TS S.length (some (.lst (en R))) q4 none) (S2 := S ++ [.lst ((acc ++ (("thread" : Str) :: R.map lineR)).map .str)]) rfl ?_ ?_
    · unfold bd_law_text_1
      refine s_seq (s_ex (d := .non) (e_app (e_var rfl) last_get (e_P _) last_get (by simp; omega))) ?_
      rw [last_set]
      have e2 : (acc.map D.str ++ [D.str "thread"]) = (acc ++ [("thread" : Str)]).map .str := by simp
      have e3 : acc ++ (("thread" : Str) :: R.map lineR) = acc ++ [("thread" : Str)] ++ R.map lineR := by simp
      rw [e2, e3]
      exact s_for (e_I_lst (e_var rfl)) e0
    · rw [el, ← List.append_assoc]
      exact e
theorem ltext_ev (K : Pk cs TS) (G : GoodS S) : m_law_text [.lst (cs.map .str), .lst (tsD TS)] S = some (.ok (.str (textP cs TS)), S) := by
  have c1 := K.c.l1
  have c3 := K.c.l3
  have hne : cs ≠ [] := fun z => by rw [z] at c1; simp at c1
  have nm : ∀ c, c ∈ cs → _ := fun c hc => nameL_B (List.all_eq_true.mp K.c.nm c hc)
  have hw : ∀ p ∈ cs, p.length ≤ 6 := fun p hp => (nm p hp).2.2.2.2
  have hs := sum_len hw
  have hj : fJoin S (.str " ") (.lst (cs.map .str)) = some (.str (Txt.join " " cs)) := by
    refine P.join_ev ?_
    rw [sp1]
    have : cs.length * 6 ≤ 3 * 6 := Nat.mul_le_mul_right _ c3
    omega
  have hadd : fAdd S (.str "cells ") (.str (Txt.join " " cs)) = some (.str (Txt.join " " ("cells" :: cs))) := by
    have j1 := P.join_le hw
    have h6 : ("cells " : Str).length = 6 := by decide +kernel
    have j2 : cs.length * (6 + 1) ≤ 3 * 7 := Nat.mul_le_mul_right _ c3
    have hz : szOk (("cells " : Str).length + (Txt.join " " cs).length) = true := sz_ok (by omega)
    rw [v_adds, if_pos hz, join_cons hne]
  obtain ⟨p3, p4, e⟩ := ltext_threads (S := S) (TS := TS) K.c.nm TS [Txt.join " " ("cells" :: cs)] none none (fun R hR x hx => ⟨R.length, by have := K.len R hR; omega, K.vd R hR x hx⟩) (by have h1 := linesT_len TS; have h2 := K.sum; have h3 := K.l3; simp; omega) (tsD TS, none) rfl
  have main : mFn 6 2 b_law_text [.lst (cs.map .str), .lst (tsD TS)] S = some (.ok (.str (textP cs TS)), S ++ [.dead]) := by
    refine f_rt rfl ?_
    unfold b_law_text
    refine s_seq (s_set (e_newL (S1 := S) (e_cons (e_op2 (e_P _) (e_str1 (e_P _) (e_var rfl) hj) hadd) e_nil) (by simp))) ?_
    refine s_seq (s_for (e_I_lst (e_var rfl)) e) ?_
    refine s_ret (e_str1 (S2 := S ++ [.dead]) (e_P _) ?_ (join_lines (fun w hw => (lines_ok K w hw).1) (by have := linesP_len K; omega)))
    have := e_varF (g := lg cs TS S.length p3 p4 none) (i := 2) (S := S ++ [.lst (([Txt.join " " ("cells" :: cs)] ++ linesT TS).map .str)]) rfl last_get
    rw [last_set] at this
    exact this
  exact trim_ev main rfl G
end
/-! ### names of one's own -/
theorem nameB_word (p : List Int) (a : Int) : nameB (P.mkS (P.wordF p a)) = true := by
  obtain ⟨h1, h2⟩ := P.wordF_len p a
  have h3 := P.wordF_abc p a
  simp only [nameB, Bool.and_eq_true, decide_eq_true_eq]
  refine ⟨⟨by rw [P.len_mkS]; exact h1, by rw [P.len_mkS]; exact h2⟩, ?_⟩
  show (P.cs (P.mkS (P.wordF p a))).all isLet = true
  rw [P.cs_mkS, List.all_eq_true]
  intro c hc
  have := h3 c hc
  simp [isLet, this]
theorem strOk_name {z : Str} (h : nameB z = true) : PyData.strOk z = true := by
  simp only [nameB, Bool.and_eq_true] at h
  have h3 := h.2
  have h4 : ∀ c ∈ z.cps.toList, c < 0x110000 := fun c hc => by
    have := List.all_eq_true.mp h3 c hc
    simp [isLet] at this
    omega
  simp only [PyData.strOk, ← Array.all_toList, List.all_eq_true, decide_eq_true_eq]
  exact h4
theorem all_ok {l : List Str} (h : l.all nameB = true) : l.all PyData.strOk = true := List.all_eq_true.mpr fun z hz => strOk_name (List.all_eq_true.mp h z hz)
theorem spare_ok : (["a", "b", "c", "d"] : List Str).all nameB = true := by decide +kernel
/-- one of the four is not among two names -/
theorem spare_of {l : List Str} (h : l.length ≤ 2) : ∃ z r, ((["a", "b", "c", "d"] : List Str).filter fun c => !decide (c ∈ l)) = z :: r ∧ z ∉ l ∧ nameB z = true := by
  have n : ("a" : Str) ≠ "b" ∧ ("a" : Str) ≠ "c" ∧ ("b" : Str) ≠ "c" := by decide +kernel
  cases q : ((["a", "b", "c", "d"] : List Str).filter fun c => !decide (c ∈ l)) with
  | nil =>
    have all : ∀ c ∈ (["a", "b", "c", "d"] : List Str), c ∈ l := fun c hc => by
      have := List.filter_eq_nil_iff.mp q c hc
      simpa using this
    have ha := all "a" (by simp)
    have hb := all "b" (by simp)
    have hc := all "c" (by simp)
    match l, h with
    | [], _ => simp at ha
    | [x], _ =>
      rw [List.mem_singleton] at ha hb
      exact absurd (ha.trans hb.symm) n.1
    | [x, y], _ =>
      simp only [List.mem_cons, List.not_mem_nil, or_false] at ha hb hc
      rcases ha with ha | ha <;> rcases hb with hb | hb <;> rcases hc with hc | hc
      · exact absurd (ha.trans hb.symm) n.1
      · exact absurd (ha.trans hb.symm) n.1
      · exact absurd (ha.trans hc.symm) n.2.1
      · exact absurd (hb.trans hc.symm) n.2.2
      · exact absurd (hb.trans hc.symm) n.2.2
      · exact absurd (ha.trans hc.symm) n.2.1
      · exact absurd (ha.trans hb.symm) n.1
      · exact absurd (ha.trans hb.symm) n.1
  | cons z r =>
    have hz : z ∈ ((["a", "b", "c", "d"] : List Str).filter fun c => !decide (c ∈ l)) := by rw [q]; exact List.mem_cons_self
    obtain ⟨h1, h2⟩ := List.mem_filter.mp hz
    exact ⟨z, r, rfl, by simpa using h2, List.all_eq_true.mp spare_ok z h1⟩
theorem distinct_turn {p : List Int} {a n : Int} {S : Store} {l : List Str} (hl : l.length ≤ 2) (hn : l.all nameB = true) (nd : l.Nodup) {k : Nat} (hk : k ≤ 10) (ha : 0 ≤ a) {o5 : Option D} : ∃ z p5, z ∉ l ∧ nameB z = true ∧
    bd_law_distinct_0 [some (.lst (p.map .int)), some (.int a), some (.int n), some (.ref S.length), some (.int k), o5, none] (S ++ [.lst (l.map .str)]) = some (.nx [some (.lst (p.map .int)), some (.int a), some (.int n), some (.ref S.length), some (.int k), p5, none], S ++ [.lst ((l ++ [z]).map .str)]) := by
  have ew := P.word_ev (l := p) (at_ := a + 7 * (k : Int)) (S := S ++ [.lst (l.map .str)]) (by omega)
  have nw := nameB_word p (a + 7 * (k : Int))
  generalize P.mkS (P.wordF p (a + 7 * (k : Int))) = w at ew nw
  have em : fMul (S ++ [.lst (l.map .str)]) (.int 7) (.int k) = some (.int (7 * (k : Int))) := v_mul _ _ _ (by left; decide)
  have ein : fIn (S ++ [.lst (l.map .str)]) (.str w) (.ref S.length) = some (.bl (decide (w ∈ l))) := in_of (inB_ref last_get (strOk_name nw) (all_ok hn))
  unfold bd_law_distinct_0
  by_cases hw : w ∈ l
  · obtain ⟨z, r, hf, hz, nz⟩ := spare_of hl
    have el := lc_strsF (vs := [6]) (mi := mI (mOpA fLst (mCons (mP (.str "a")) (mCons (mP (.str "b")) (mCons (mP (.str "c")) (mCons (mP (.str "d")) (mNil))))))) (b := bN 6) (mt := mT (mOp2 fNotIn (mVar 6) (mVar 3))) (me := mVar 6) (g := [some (.lst (p.map .int)), some (.int a), some (.int n), some (.ref S.length), some (.int k), some (.str w), none]) (S := S ++ [.lst (l.map .str)]) (l := (["a", "b", "c", "d"] : List Str)) (o := none) (fun c => !decide (c ∈ l)) D.str (e_I_lst (by (repeat first | exact e_P _ | (apply e_var; rfl) | exact e_nil | apply e_op2 | apply e_op1 | apply e_opA | apply e_cons | apply e_call | apply e_callC | apply e_T | apply e_notT | apply e_notV | apply e_str1 | apply e_part | apply e_sl | apply e_ch | apply e_orT | apply e_andT | apply e_orV | apply e_andV | exact v_add _ _ _ | exact v_sub _ _ _ | exact v_lt _ _ _ | exact v_le _ _ _ | exact v_gt _ _ _ | exact v_ge _ _ _ | exact v_cint _ _ | exact o_len_l | exact o_len_t | exact o_tup (by simp) | exact o_lst (by simp) | exact s_skip | exact s_retN | assumption))) trivial (by simp) fun c hc => by
      have q : fNotIn (S ++ [.lst (l.map .str)]) (.str c) (.ref S.length) = some (.bl (!decide (c ∈ l))) := notIn_of (inB_ref last_get (strOk_name (List.all_eq_true.mp spare_ok c hc)) (all_ok hn))
      exact ⟨_, rfl, by (repeat first | exact q | exact e_P _ | (apply e_var; rfl) | exact e_nil | apply e_op2 | apply e_op1 | apply e_opA | apply e_cons | apply e_call | apply e_callC | apply e_T | apply e_notT | apply e_notV | apply e_str1 | apply e_part | apply e_sl | apply e_ch | apply e_orT | apply e_andT | apply e_orV | apply e_andV | exact v_add _ _ _ | exact v_sub _ _ _ | exact v_lt _ _ _ | exact v_le _ _ _ | exact v_gt _ _ _ | exact v_ge _ _ _ | exact v_cint _ _ | exact o_len_l | exact o_len_t | exact o_tup (by simp) | exact o_lst (by simp) | exact s_skip | exact s_retN | assumption), fun _ => by (repeat first | exact e_P _ | (apply e_var; rfl) | exact e_nil | apply e_op2 | apply e_op1 | apply e_opA | apply e_cons | apply e_call | apply e_callC | apply e_T | apply e_notT | apply e_notV | apply e_str1 | apply e_part | apply e_sl | apply e_ch | apply e_orT | apply e_andT | apply e_orV | apply e_andV | exact v_add _ _ _ | exact v_sub _ _ _ | exact v_lt _ _ _ | exact v_le _ _ _ | exact v_gt _ _ _ | exact v_ge _ _ _ | exact v_cint _ _ | exact o_len_l | exact o_len_t | exact o_tup (by simp) | exact o_lst (by simp) | exact s_skip | exact s_retN | assumption)⟩
    rw [hf] at el
    refine ⟨z, some (.str z), hz, nz, ?_⟩
    refine s_seq (s_set (by (repeat first | exact em | exact e_P _ | (apply e_var; rfl) | exact e_nil | apply e_op2 | apply e_op1 | apply e_opA | apply e_cons | apply e_call | apply e_callC | apply e_T | apply e_notT | apply e_notV | apply e_str1 | apply e_part | apply e_sl | apply e_ch | apply e_orT | apply e_andT | apply e_orV | apply e_andV | exact v_add _ _ _ | exact v_sub _ _ _ | exact v_lt _ _ _ | exact v_le _ _ _ | exact v_gt _ _ _ | exact v_ge _ _ _ | exact v_cint _ _ | exact o_len_l | exact o_len_t | exact o_tup (by simp) | exact o_lst (by simp) | exact s_skip | exact s_retN | assumption))) ?_
    refine s_seq (s_ifT (by (repeat first | exact ein | exact e_P _ | (apply e_var; rfl) | exact e_nil | apply e_op2 | apply e_op1 | apply e_opA | apply e_cons | apply e_call | apply e_callC | apply e_T | apply e_notT | apply e_notV | apply e_str1 | apply e_part | apply e_sl | apply e_ch | apply e_orT | apply e_andT | apply e_orV | apply e_andV | exact v_add _ _ _ | exact v_sub _ _ _ | exact v_lt _ _ _ | exact v_le _ _ _ | exact v_gt _ _ _ | exact v_ge _ _ _ | exact v_cint _ _ | exact o_len_l | exact o_len_t | exact o_tup (by simp) | exact o_lst (by simp) | exact s_skip | exact s_retN | assumption)) (by simpa using hw) (s_set (e_op2 el (e_P _) (o_ix rfl (at_zero rfl))))) ?_
    have := e_app (mo := mVar 3) (me := mVar 5) (g := [some (.lst (p.map .int)), some (.int a), some (.int n), some (.ref S.length), some (.int k), some (.str z), none]) (S := S ++ [.lst (l.map .str)]) (e_var rfl) last_get (e_var rfl) last_get (by simp; omega)
    rw [last_set, show l.map D.str ++ [D.str z] = (l ++ [z]).map .str from by simp] at this
    exact s_ex this
  · refine ⟨w, some (.str w), hw, nw, ?_⟩
    refine s_seq (s_set (by (repeat first | exact em | exact e_P _ | (apply e_var; rfl) | exact e_nil | apply e_op2 | apply e_op1 | apply e_opA | apply e_cons | apply e_call | apply e_callC | apply e_T | apply e_notT | apply e_notV | apply e_str1 | apply e_part | apply e_sl | apply e_ch | apply e_orT | apply e_andT | apply e_orV | apply e_andV | exact v_add _ _ _ | exact v_sub _ _ _ | exact v_lt _ _ _ | exact v_le _ _ _ | exact v_gt _ _ _ | exact v_ge _ _ _ | exact v_cint _ _ | exact o_len_l | exact o_len_t | exact o_tup (by simp) | exact o_lst (by simp) | exact s_skip | exact s_retN | assumption))) ?_
    refine s_seq (s_ifF (by (repeat first | exact ein | exact e_P _ | (apply e_var; rfl) | exact e_nil | apply e_op2 | apply e_op1 | apply e_opA | apply e_cons | apply e_call | apply e_callC | apply e_T | apply e_notT | apply e_notV | apply e_str1 | apply e_part | apply e_sl | apply e_ch | apply e_orT | apply e_andT | apply e_orV | apply e_andV | exact v_add _ _ _ | exact v_sub _ _ _ | exact v_lt _ _ _ | exact v_le _ _ _ | exact v_gt _ _ _ | exact v_ge _ _ _ | exact v_cint _ _ | exact o_len_l | exact o_len_t | exact o_tup (by simp) | exact o_lst (by simp) | exact s_skip | exact s_retN | assumption)) (by simpa using hw) s_skip) ?_
    have := e_app (mo := mVar 3) (me := mVar 5) (g := [some (.lst (p.map .int)), some (.int a), some (.int n), some (.ref S.length), some (.int k), some (.str w), none]) (S := S ++ [.lst (l.map .str)]) (e_var rfl) last_get (e_var rfl) last_get (by simp; omega)
    rw [last_set, show l.map D.str ++ [D.str w] = (l ++ [w]).map .str from by simp] at this
    exact s_ex this
theorem distinct_ev {p : List Int} {a : Int} {n : Nat} {S : Store} (G : GoodS S) (ha : 0 ≤ a) (h1 : 1 ≤ n) (h3 : n ≤ 3) : ∃ cs, cs.length = n ∧ Cs cs ∧ m_law_distinct [.lst (p.map .int), .int a, .int n] S = some (.ok (.lst (cs.map .str)), S) := by
  obtain ⟨g', S', e, l, p4, p5, hl, hn, nd, hg, hS⟩ := forGo_rng (b := bN 4) (body := bd_law_distinct_0) (n := n)
    (fun k g T => ∃ (l : List Str) (p4 p5 : Option D), l.length = k ∧ l.all nameB = true ∧ l.Nodup ∧ g = [some (.lst (p.map .int)), some (.int a), some (.int n), some (.ref S.length), p4, p5, none] ∧ T = S ++ [.lst (l.map .str)])
    (fun k g T hk ⟨l, p4, p5, hl, hn, nd, hg, hT⟩ => by
      subst hg hT
      obtain ⟨z, q5, hz, nz, e⟩ := distinct_turn (p := p) (a := a) (n := n) (S := S) (l := l) (by omega) hn nd (k := k) (by omega) ha (o5 := p5)
      exact ⟨_, _, _, rfl, .inl e, l ++ [z], some (.int k), q5, by simp [hl], by simp [hn, nz], by
        refine List.nodup_append.mpr ⟨nd, by simp, fun x hx y hy => ?_⟩
        rw [List.mem_singleton.mp hy]
        exact fun e => hz (e ▸ hx), rfl, rfl⟩) (g := [some (.lst (p.map .int)), some (.int a), some (.int n), some (.ref S.length), none, none, none]) (S := S ++ [.lst []]) ⟨[], none, none, rfl, rfl, List.nodup_nil, rfl, rfl⟩
  subst hg hS
  have main : mFn 7 3 b_law_distinct [.lst (p.map .int), .int a, .int n] S = some (.ok (.lst (l.map .str)), S ++ [.dead]) := by
    refine f_rt rfl ?_
    unfold b_law_distinct
    refine s_seq (s_set (e_newL e_nil (by simp))) (s_seq (s_for (e_rng1n (e_cons (e_var rfl) e_nil) (by omega)) e) ?_)
    have := e_varF (g := [some (.lst (p.map .int)), some (.int a), some (.int n), some (.ref S.length), p4, p5, none]) (i := 3) (S := S ++ [.lst (l.map .str)]) rfl last_get
    rw [last_set] at this
    exact s_ret this
  exact ⟨l, hl, ⟨by omega, by omega, nd, hn, all_ok hn⟩, trim_ev main (by simp [refsLt, refs_strs]) G⟩
end Lw
namespace Lw
open PySem L2 Mi TL
/-! ### == of data -/
mutual
def pOk : D → Bool
  | .tup l => pOks l
  | .lst l => pOks l
  | .str s => PyData.strOk s
  | .non => true
  | .bl _ => true
  | .int _ => true
  | _ => false
def pOks : List D → Bool
  | [] => true
  | d :: ds => pOk d && pOks ds
end
mutual
def pd : D → PyData
  | .tup l => .tuple (pds l)
  | .lst l => .list (pds l)
  | .str s => .str s
  | .bl b => .bool b
  | .int i => .int i
  | _ => .none
def pds : List D → List PyData
  | [] => []
  | d :: ds => pd d :: pds ds
end
mutual
theorem toP_pd : ∀ {d : D}, pOk d = true → toP d = some (pd d) ∧ (pd d).canLay0 = true ∧ (pd d).depth ≤ dep d
  | .tup l, h => by
    obtain ⟨h1, h2, h3⟩ := toPs_pds (l := l) (by simpa only [pOk] using h)
    simp only [toP, h1, Option.map_some, pd, PyData.canLay0, PyData.depth, dep]
    exact ⟨trivial, h2, by omega⟩
  | .lst l, h => by
    obtain ⟨h1, h2, h3⟩ := toPs_pds (l := l) (by simpa only [pOk] using h)
    simp only [toP, h1, Option.map_some, pd, PyData.canLay0, PyData.depth, dep]
    exact ⟨trivial, h2, by omega⟩
  | .str s, h => ⟨rfl, by simpa only [pOk, pd, PyData.canLay0] using h, by simp [pd, PyData.depth]⟩
  | .non, _ => ⟨rfl, rfl, by simp [pd, PyData.depth]⟩
  | .bl _, _ => ⟨rfl, rfl, by simp [pd, PyData.depth]⟩
  | .int _, _ => ⟨rfl, rfl, by simp [pd, PyData.depth]⟩
  | .scr _, h => by simp [pOk] at h
  | .ref _, h => by simp [pOk] at h
  | .cls _, h => by simp [pOk] at h
theorem toPs_pds : ∀ {l : List D}, pOks l = true → toPs l = some (pds l) ∧ PyData.canLayAll0 (pds l) = true ∧ PyData.depthAll (pds l) ≤ deps l
  | [], _ => ⟨rfl, rfl, by simp [pds, PyData.depthAll]⟩
  | d :: l, h => by
    simp only [pOks, Bool.and_eq_true] at h
    obtain ⟨h1, h2, h3⟩ := toP_pd h.1
    obtain ⟨k1, k2, k3⟩ := toPs_pds h.2
    simp only [toPs, h1, k1, Option.bind_some, Option.map_some, pds, PyData.canLayAll0, PyData.depthAll, deps, h2, k2]
    exact ⟨trivial, rfl, by omega⟩
end
theorem pS_of {S : Store} {d : D} (h : pOk d = true) : toPS S d = some (pd d) := by
  have e : atC S d = none := by cases d <;> simp only [pOk] at h <;> first | rfl | (cases h; done)
  simp only [toPS, e, (toP_pd h).1]
theorem flV_lst {l : List D} : flV (.lst l) = none := rfl
theorem flV_ref {i : Nat} : flV (.ref i) = none := rfl
/-- two that read as the same data -/
theorem eqB_same {S : Store} {x y d : D} (hx : toPS S x = some (pd d)) (hy : toPS S y = some (pd d)) (h : pOk d = true) (hd : dep d ≤ 64) (hf : flV x = none) : eqB S x y = some true := by
  obtain ⟨_, h2, h3⟩ := toP_pd h
  have hs : SeqAt.shaped (pd d) = true := by
    simp only [SeqAt.shaped, h2, Bool.true_and, decide_eq_true_eq]; omega
  unfold eqB
  rw [hf]
  simp only [hx, hy, hs, and_self, if_true, SeqAt.eqv_refl _ h2]
theorem ne_same {S : Store} {x y d : D} (hx : toPS S x = some (pd d)) (hy : toPS S y = some (pd d)) (h : pOk d = true) (hd : dep d ≤ 64) (hf : flV x = none) : fNe S x y = some (.bl false) := by simp [fNe, eqB_same hx hy h hd hf]
/-- a list cell of data -/
theorem pS_ref' {S : Store} {i : Nat} {l : List D} (hi : S[i]? = some (.lst l)) (h : pOks l = true) : toPS S (.ref i) = some (pd (.lst l)) := by
  simp only [toPS, atC, hi, (toPs_pds h).1, pd]
theorem toPs_ref {i : Nat} {l : List D} : toPs (.ref i :: l) = none := rfl
/-- a list cell of list cells of data -/
theorem pS_refs {S : Store} {i : Nat} {l m : List D} {j : Nat} {r : List D} (hi : S[i]? = some (.lst l)) (hl : l = .ref j :: r) (hm : l.map (dr S 3) = m) (h : pOks m = true) : toPS S (.ref i) = some (pd (.lst m)) := by
  have e : toPs l = none := by rw [hl]; rfl
  simp only [toPS, atC, hi, e, hm, (toPs_pds h).1, pd, Option.map_some]
theorem pS_lrefs {S : Store} {l m : List D} {j : Nat} {r : List D} (hl : l = .ref j :: r) (hm : l.map (dr S 2) = m) (h : pOks m = true) : toPS S (.lst l) = some (pd (.lst m)) := by
  have e : toP (.lst l) = none := by
    simp only [toP]; rw [hl]; rfl
  simp only [toPS, atC, e]
  show toP (.lst (l.map (dr S 2))) = _
  rw [hm]
  exact (toP_pd (d := .lst m) (by simpa only [pOk] using h)).1
theorem pOk_strs {l : List Str} (h : l.all PyData.strOk = true) : pOks (l.map D.str) = true := by
  induction l with
  | nil => rfl
  | cons x l ih =>
    simp only [List.all_cons, Bool.and_eq_true] at h
    simp only [List.map_cons, pOks, pOk, h.1, ih h.2, Bool.and_self]
theorem pOk_row {cs : List Str} (C : cs.all PyData.strOk = true) {n : Nat} {x : Row} (h : x.vd cs n = true) : pOk (enc x) = true := by
  have nm : ∀ c, c ∈ cs → PyData.strOk c = true := fun c hc => List.all_eq_true.mp C c hc
  have kwo : ∀ w, PyData.strOk (kw w) = true := fun w => by cases w <;> decide +kernel
  have lits : PyData.strOk "load" = true ∧ PyData.strOk "fence" = true ∧ PyData.strOk "test" = true ∧ PyData.strOk "jump" = true ∧ PyData.strOk "r" = true := by decide +kernel
  obtain ⟨a1, a2, a3, a4, a5⟩ := lits
  cases x with
  | load c => simp only [Row.vd, decide_eq_true_eq] at h; simp [enc, pOk, pOks, a1, nm c h]
  | mem w c v => simp only [Row.vd, Bool.and_eq_true, decide_eq_true_eq] at h; simp [enc, pOk, pOks, kwo, nm c h.1.1]
  | memR w c => simp only [Row.vd, decide_eq_true_eq] at h; simp [enc, pOk, pOks, kwo, a5, nm c h]
  | fence => simp [enc, pOk, pOks, a2]
  | test v t => simp [enc, pOk, pOks, a3]
  | jump t => simp [enc, pOk, pOks, a4]
theorem pOk_en {cs : List Str} (C : cs.all PyData.strOk = true) {n : Nat} : ∀ {R : Rows}, (∀ x ∈ R, x.vd cs n = true) → pOks (en R) = true
  | [], _ => rfl
  | x :: R, h => by
    show (pOk (enc x) && pOks (en R)) = true
    rw [pOk_row C (h x List.mem_cons_self), pOk_en C fun y hy => h y (List.mem_cons_of_mem _ hy)]; rfl
theorem pOk_ts {cs : List Str} (C : cs.all PyData.strOk = true) : ∀ {TS : List Rows}, (∀ R ∈ TS, ∀ x ∈ R, x.vd cs R.length = true) → pOks (tsD TS) = true
  | [], _ => rfl
  | R :: TS, h => by
    show (pOk (.lst (en R)) && pOks (tsD TS)) = true
    rw [pOk_ts C fun Q hQ => h Q (List.mem_cons_of_mem _ hQ)]
    simp only [pOk, pOk_en C (h R List.mem_cons_self), Bool.and_self]
theorem dep_row (x : Row) : dep (enc x) = 1 := by cases x <;> simp [enc, dep, deps]
theorem sOk_row (x : Row) : sOk (enc x) = true := by cases x <;> simp [enc, sOk, sOks, sz_ok]
theorem sOks_en : ∀ l : Rows, sOks (en l) = true
  | [] => rfl
  | x :: l => by
    show (sOk (enc x) && sOks (en l)) = true
    rw [sOk_row, sOks_en l]; rfl
theorem deps_en : ∀ l : Rows, deps (en l) ≤ 1
  | [] => by simp [en, deps]
  | x :: l => by
    have h1 := dep_row x
    have h2 := deps_en l
    show max (dep (enc x)) (deps (en l)) ≤ 1
    omega
theorem dep_ts : ∀ l : List Rows, deps (tsD l) ≤ 2
  | [] => by simp [tsD, deps]
  | R :: l => by
    have h1 := deps_en R
    have h2 := dep_ts l
    show max (dep (.lst (en R))) (deps (tsD l)) ≤ 2
    simp only [dep]
    omega
theorem dr_en {S : Store} {n i : Nat} {R : Rows} (hi : S[i]? = some (.lst (en R))) : dr S (n + 1) (.ref i) = .lst (en R) := by
  simp only [dr, hi, drs_pure n (sOks_en R)]
theorem sOks_strs : ∀ l : List Str, sOks (l.map .str) = true
  | [] => rfl
  | x :: l => by simp [sOks, sOk, sOks_strs l]
theorem deps_strs : ∀ l : List Str, deps (l.map .str) = 0
  | [] => rfl
  | x :: l => by simp [deps, dep, deps_strs l]
/-- same: rows of a cell and rows -/
theorem same_rowsR {S : Store} {i : Nat} {R : Rows} (hi : S[i]? = some (.lst (en R))) (h : R.length ≤ 10000) : m_law_same 8 [.ref i, .lst (en R)] S = some (.ok (.bl true), S) :=
  have hs : sOk (.lst (en R)) = true := by simp only [sOk, sOks_en, Bool.and_true]; exact sz_ok (by rw [en_len]; omega)
  same_dr 7 _ _ (by rw [dr_pure 7 hs]; exact dr_en hi) (by rw [dr_pure 7 hs]; exact hs) (by rw [dr_pure 7 hs]; have := deps_en R; simp only [dep]; omega)
theorem same_rows {S : Store} {R : Rows} (h : R.length ≤ 10000) : m_law_same 8 [.lst (en R), .lst (en R)] S = some (.ok (.bl true), S) :=
  same_refl 8 _ (by have := deps_en R; simp only [dep]; omega) (by simp only [sOk, sOks_en, Bool.and_true]; exact sz_ok (by rw [en_len]; omega))
theorem same_int {S : Store} {n : Int} : m_law_same 8 [.int n, .int n] S = some (.ok (.bl true), S) := same_refl 8 _ (by simp [dep]) rfl
theorem same_str {S : Store} {z : Str} : m_law_same 8 [.str z, .str z] S = some (.ok (.bl true), S) := same_refl 8 _ (by simp [dep]) rfl
theorem same_tupS {S : Store} {l : List Str} (h : l.length ≤ 1000) : m_law_same 8 [.tup (l.map .str), .tup (l.map .str)] S = some (.ok (.bl true), S) := same_refl 8 _ (by simp [dep, deps_strs]) (by simp only [sOk, sOks_strs, Bool.and_true]; exact sz_ok (by simp; omega))
theorem at_ts {TS : List Rows} {t : Nat} (ht : t < TS.length) : atI (tsD TS) (t : Int) = some (.lst (en TS[t])) := at_nat (by simp [tsD, ht])
theorem ts_len (TS : List Rows) : (tsD TS).length = TS.length := by simp [tsD]
/-! ### methods of a program -/
section
variable {S : Store} {cs : List Str} {TS : List Rows} {i : Nat}
theorem len_ev (hi : S[i]? = some (prC cs TS)) : m_Program__len_ [.ref i] S = some (.ok (.int TS.length), S) := by
  refine f_rt rfl ?_
  unfold b_Program__len_
  refine s_ret ?_
  (repeat first | exact f_ts' hi | exact o_len_l.trans (by rw [ts_len]) | exact e_P _ | (apply e_var; rfl) | exact e_nil | apply e_op2 | apply e_op1 | apply e_opA | apply e_cons | apply e_call | apply e_callC | apply e_T | apply e_notT | apply e_notV | apply e_str1 | apply e_part | apply e_sl | apply e_ch | apply e_orT | apply e_andT | apply e_orV | apply e_andV | exact v_add _ _ _ | exact v_sub _ _ _ | exact v_lt _ _ _ | exact v_le _ _ _ | exact v_gt _ _ _ | exact v_ge _ _ _ | exact v_cint _ _ | exact o_len_l | exact o_len_t | exact o_tup (by simp) | exact o_lst (by simp) | exact s_skip | exact s_retN | assumption)
theorem lenG_ev (hi : S[i]? = some (prC cs TS)) (t3 : TS.length ≤ 100) : cLenG tm_len_Program S [.ref i] = some (.int TS.length) := by
  have h := hi
  unfold prC at h
  simp [cLenG, dOf, cLenA, lenO, h, tm_len_Program, len_ev hi]
  omega
end
end Lw
namespace Lw
open PySem L2 Mi TL
section
variable {S : Store} {cs : List Str} {TS : List Rows} {i : Nat}
theorem no_rows_of : List.lookup ("rows_of" : Str) [(("cells" : Str), D.tup (cs.map .str)), ("_threads", .lst (tsD TS))] = none := by
  have h1 : (("rows_of" : Str) == "cells") = false := by decide
  have h2 : (("rows_of" : Str) == "_threads") = false := by decide
  simp [List.lookup, h1, h2]
theorem no_text : List.lookup ("text" : Str) [(("cells" : Str), D.tup (cs.map .str)), ("_threads", .lst (tsD TS))] = none := by
  have h1 : (("text" : Str) == "cells") = false := by decide
  have h2 : (("text" : Str) == "_threads") = false := by decide
  simp [List.lookup, h1, h2]
theorem no_thr : List.lookup ("thread_at" : Str) [(("cells" : Str), D.tup (cs.map .str)), ("_threads", .lst (tsD TS))] = none := by
  have h1 : (("thread_at" : Str) == "cells") = false := by decide
  have h2 : (("thread_at" : Str) == "_threads") = false := by decide
  simp [List.lookup, h1, h2]
theorem rows_ev (hi : S[i]? = some (prC cs TS)) {t : Nat} (ht : t < TS.length) : m_Program_rows_of [.ref i, .int t] S = some (.ok (.ref S.length), S ++ [.lst (en TS[t])]) := by
  refine f_rt rfl ?_
  unfold b_Program_rows_of
  apply s_seq
  · apply s_ifF
    · (repeat first | exact f_ts' hi | exact e_P _ | (apply e_var; rfl) | exact e_nil | apply e_op2 | apply e_op1 | apply e_opA | apply e_cons | apply e_call | apply e_callC | apply e_T | apply e_notT | apply e_notV | apply e_str1 | apply e_part | apply e_sl | apply e_ch | apply e_orT | apply e_andT | apply e_orV | apply e_andV | exact v_add _ _ _ | exact v_sub _ _ _ | exact v_lt _ _ _ | exact v_le _ _ _ | exact v_gt _ _ _ | exact v_ge _ _ _ | exact v_cint _ _ | exact o_len_l | exact o_len_t | exact o_tup (by simp) | exact o_lst (by simp) | exact s_skip | exact s_retN | assumption)
    · simp [ts_len]; omega
    · exact s_skip
  · refine s_ret (e_listC (e_cons (e_op2 (e_op1 (e_var rfl) (f_ts' hi)) (e_var rfl) (o_ix rfl (at_ts ht))) e_nil) rfl)
theorem rows_bad (hi : S[i]? = some (prC cs TS)) {t : Int} (ht : ¬ (0 ≤ t ∧ t < TS.length)) : m_Program_rows_of [.ref i, .int t] S = some (.exc cx_UnknownThread [("thread", .int t)], S) := by
  refine fn_ex (g := [some (.ref i), some (.int t)]) rfl ?_
  unfold b_Program_rows_of
  refine s_seq_ex ?_
  apply s_ifT
  · (repeat first | exact f_ts' hi | exact e_P _ | (apply e_var; rfl) | exact e_nil | apply e_op2 | apply e_op1 | apply e_opA | apply e_cons | apply e_call | apply e_callC | apply e_T | apply e_notT | apply e_notV | apply e_str1 | apply e_part | apply e_sl | apply e_ch | apply e_orT | apply e_andT | apply e_orV | apply e_andV | exact v_add _ _ _ | exact v_sub _ _ _ | exact v_lt _ _ _ | exact v_le _ _ _ | exact v_gt _ _ _ | exact v_ge _ _ _ | exact v_cint _ _ | exact o_len_l | exact o_len_t | exact o_tup (by simp) | exact o_lst (by simp) | exact s_skip | exact s_retN | assumption)
  · simp only [ts_len, Bool.not_eq_true', Bool.and_eq_false_imp, decide_eq_true_eq, decide_eq_false_iff_not]
    intro h0 h1
    exact ht ⟨h0, h1⟩
  · exact s_raiseF (e_cons (e_var rfl) e_nil) rfl rfl
theorem rows_m (hi : S[i]? = some (prC cs TS)) {t : Nat} (ht : t < TS.length) {mo ma : Mi.M D} {g : Gm} (h1 : mo g S = some (.ok (.ref i), S)) (h2 : ma g S = some (.ok (.int t), S)) : mMeth tm_rows_of_Program "rows_of" mo (mCons ma mNil) g S = some (.ok (.ref S.length), S ++ [.lst (en TS[t])]) :=
  e_meth h1 hi no_rows_of rfl (e_cons h2 e_nil) (rows_ev hi ht)
theorem rows_mX (hi : S[i]? = some (prC cs TS)) {t : Int} (ht : ¬ (0 ≤ t ∧ t < TS.length)) {mo ma : Mi.M D} {g : Gm} (h1 : mo g S = some (.ok (.ref i), S)) (h2 : ma g S = some (.ok (.int t), S)) : mMeth tm_rows_of_Program "rows_of" mo (mCons ma mNil) g S = some (.exc cx_UnknownThread [("thread", .int t)], S) :=
  e_meth h1 hi no_rows_of rfl (e_cons h2 e_nil) (rows_bad hi ht)
theorem thr_bad (hi : S[i]? = some (prC cs TS)) {t : Int} (ht : ¬ (0 ≤ t ∧ t < TS.length)) : m_Program_thread_at [.ref i, .int t] S = some (.exc cx_UnknownThread [("thread", .int t)], S) := by
  refine fn_ex (g := [some (.ref i), some (.int t)]) rfl ?_
  unfold b_Program_thread_at
  exact s_retX (e_makeAX (e_consX (rows_mX hi ht (e_var rfl) (e_var rfl))))
abbrev ug (i : Nat) (t : Int) (a : Option D) : Gm := [some (.ref i), some (.int t), a, none]
theorem same_h {n : Int} : m_law_same_h [.int n, .int n] S = some (.ok (.bl true), S) := by simp [m_law_same_h, fIsi, isiB, tyN, fIsN, Mi.isNon]
theorem unknown_ev (hi : S[i]? = some (prC cs TS)) {t : Int} (ht : ¬ (0 ≤ t ∧ t < TS.length)) : m_law_unknown [.ref i, .int t] S = some (.ok (.bl true), S) := by
  have hh : ∀ n : Int, (fun (ec : Nat) (fs : List (Str × D)) => mSet 2 (mOp2 fAdd (mVar 2) (mOpA cInt (mCons (mCallH m_law_same_h (mCons (mEf 3 (fs.lookup ("thread" : Str))) (mCons (mVar 1) (mNil)))) (mNil))))) cx_UnknownThread [("thread", .int t)] (ug i t (some (.int n))) S = some (.nx (ug i t (some (.int (n + 1)))), S) := fun n =>
    s_set (d := .int (n + 1)) (e_op2 (e_var rfl) (e_opA (e_cons (e_callH (e_cons (e_ef rfl (by simp [List.lookup])) (e_cons (e_var rfl) e_nil)) same_h) e_nil) rfl) (v_add _ _ _))
  refine f_rt rfl ?_
  unfold b_law_unknown
  refine s_seq (s_set (e_P _)) ?_
  refine s_seq (s_tryAs_X (g1 := ug i t (some (.int 0))) (s_exX (rows_mX hi ht (e_var rfl) (e_var rfl))) rfl (hh 0) rfl) ?_
  refine s_seq (s_tryAs_X (g1 := ug i t (some (.int 1))) (s_exX (e_meth (e_var rfl) hi no_thr rfl (e_cons (e_var rfl) e_nil) (thr_bad hi ht))) rfl (hh 1) rfl) ?_
  exact s_ret (e_op2 (e_var rfl) (e_P _) (by rw [eq_int]; rfl))
/-! ### one program agrees -/
abbrev hg (i : Nat) (cs : List Str) (TS : List Rows) (z : Str) (a b : Option D) : Gm := [some (.ref i), some (.lst (cs.map .str)), some (.lst (tsD TS)), some (.str z), a, b]
theorem holds_turn (K : Pk cs TS) (hi : S[i]? = some (prC cs TS)) {z : Str} {k : Nat} (hk : k < TS.length) {o5 : Option D} : ∃ x p5, bd_law_holds_0 (hg i cs TS z (some (.int k)) o5) S = some (.nx (hg i cs TS z (some (.int k)) p5), S ++ x) := by
  have hl := K.len TS[k] (List.getElem_mem hk)
  refine ⟨[.lst ((en TS[k] ++ [D.tup [.str "fence"]]).set 0 (D.tup [.str "fence"]))], some (.ref S.length), ?_⟩
  unfold bd_law_holds_0
  refine s_seq (s_set (rows_m hi hk (e_var rfl) (e_var rfl))) ?_
  apply s_seq
  · apply s_ifF
    · (repeat first | exact o_ix rfl (at_ts hk) | exact same_rowsR last_get (by omega) | exact e_P _ | (apply e_var; rfl) | exact e_nil | apply e_op2 | apply e_op1 | apply e_opA | apply e_cons | apply e_call | apply e_callC | apply e_T | apply e_notT | apply e_notV | apply e_str1 | apply e_part | apply e_sl | apply e_ch | apply e_orT | apply e_andT | apply e_orV | apply e_andV | exact v_add _ _ _ | exact v_sub _ _ _ | exact v_lt _ _ _ | exact v_le _ _ _ | exact v_gt _ _ _ | exact v_ge _ _ _ | exact v_cint _ _ | exact o_len_l | exact o_len_t | exact o_tup (by simp) | exact o_lst (by simp) | exact s_skip | exact s_retN | assumption)
    · rfl
    · exact s_skip
  refine s_seq (s_ex (d := .non) (e_app (e_var rfl) last_get (e_opA (e_cons (e_P _) e_nil) (o_tup (by simp))) last_get (by rw [en_len]; omega))) ?_
  rw [last_set]
  refine (e_setG_lst (e_opA (e_cons (e_P _) e_nil) (o_tup (by simp))) (e_var rfl) last_get (e_P _) last_get (j := 0) ?_).trans ?_
  · unfold ixN; simp
  · rw [last_set]; rfl
theorem holds_ev (K : Pk cs TS) (hi : S[i]? = some (prC cs TS)) : ∃ x, m_law_holds [.ref i, .lst (cs.map .str), .lst (tsD TS), .str (textP cs TS)] S = some (.ok (.bl true), S ++ x) := by
  have t3 := K.l3
  have c3 := K.c.l3
  have hi1 : (S ++ [.dead])[i]? = some (prC cs TS) := app_old hi
  obtain ⟨g', S', e, x, p4, p5, hg', hS'⟩ := forGo_rng (b := bN 4) (body := bd_law_holds_0) (n := TS.length)
    (fun k g T => ∃ (x : Store) (p4 p5 : Option D), g = hg i cs TS (textP cs TS) p4 p5 ∧ T = S ++ [.dead] ++ x)
    (fun k g T hk ⟨x, p4, p5, hg', hT⟩ => by
      subst hg' hT
      obtain ⟨y, q5, e⟩ := holds_turn K (S := S ++ [.dead] ++ x) (app_old hi1) (z := textP cs TS) hk (o5 := p5)
      exact ⟨_, _, _, rfl, .inl e, x ++ y, some (.int k), q5, rfl, by simp⟩) (g := hg i cs TS (textP cs TS) none none) (S := S ++ [.dead]) ⟨[], none, none, rfl, by simp⟩
  subst hg' hS'
  -- the second asking
  have hi2 : (S ++ [.dead] ++ x)[i]? = some (prC cs TS) := app_old hi1
  have loop : ∀ (m k : Nat) (acc : List D) (T : Store), k + m = TS.length → acc.length = k → (∃ y, T = S ++ [.dead] ++ x ++ y) → (∀ d ∈ acc, d = .bl true) → ∃ y r, (∀ d ∈ r, d = .bl true) ∧ lcGo (rngD 0 TS.length, none) (bN 4) (mP true) (mCall (m_law_same 8) (mCons (mMeth tm_rows_of_Program "rows_of" (mVar 0) (mCons (mVar 4) (mNil))) (mCons (mOp2 fIx (mVar 2) (mVar 4)) (mNil)))) (hg i cs TS (textP cs TS) none p5) (rngD (k : Int) m) acc T = some (r, S ++ [.dead] ++ x ++ y) := fun m => by
    induction m with
    | zero =>
      intro k acc T hk ha ⟨y, hT⟩ hb
      subst hT
      exact ⟨y, acc, hb, by simp [rngD, lcGo, srcOk]⟩
    | succ m ih =>
      intro k acc T hk ha ⟨y, hT⟩ hb
      subst hT
      have hkl : k < TS.length := by omega
      have hl := K.len TS[k] (List.getElem_mem hkl)
      have hiT : (S ++ [.dead] ++ x ++ y)[i]? = some (prC cs TS) := app_old hi2
      obtain ⟨y', r, hr, e'⟩ := ih (k + 1) (acc ++ [.bl true]) (S ++ [.dead] ++ x ++ y ++ [.lst (en TS[k])]) (by omega) (by simp [ha]) ⟨y ++ [.lst (en TS[k])], by simp⟩ fun d hd => by
        rcases List.mem_append.mp hd with h | h
        · exact hb d h
        · exact List.mem_singleton.mp h
      refine ⟨y', r, hr, ?_⟩
      have ee : mCall (m_law_same 8) (mCons (mMeth tm_rows_of_Program "rows_of" (mVar 0) (mCons (mVar 4) (mNil))) (mCons (mOp2 fIx (mVar 2) (mVar 4)) (mNil))) (hg i cs TS (textP cs TS) (some (.int k)) p5) (S ++ [.dead] ++ x ++ y) = some (.ok (.bl true), S ++ [.dead] ++ x ++ y ++ [.lst (en TS[k])]) :=
        e_call (e_cons (rows_m hiT hkl (e_var rfl) (e_var rfl)) (e_cons (e_op2 (e_var rfl) (e_var rfl) (o_ix rfl (at_ts hkl))) e_nil)) (same_rowsR last_get (by omega))
      rw [rngD_cons]
      have sz : szOk (acc.length + 1) = true := sz_ok (by omega)
      simp only [lcGo, srcOk_none, if_true, v_bN, v_P]
      have eg : List.set (hg i cs TS (textP cs TS) none p5) 4 (some (.int k)) = hg i cs TS (textP cs TS) (some (.int k)) p5 := rfl
      rw [eg, ee]
      simp only [sz, if_true]
      exact e'
  obtain ⟨y, r, hr, el⟩ := loop TS.length 0 [] (S ++ [.dead] ++ x) (by omega) rfl ⟨[], by simp⟩ (fun d h => nomatch h)
  have el2 := e_lc (vs := [4]) (mi := mRng (mCons (mOpA cLen (mCons (mVar 2) (mNil))) (mNil))) (g := hg i cs TS (textP cs TS) p4 p5) (src := (rngD 0 TS.length, none)) (e_rng1n (j := TS.length) (e_cons (e_opA (e_cons (e_var rfl) e_nil) (o_len_l.trans (by rw [ts_len]))) e_nil) (by omega)) el
  refine ⟨[.dead] ++ x ++ y, ?_⟩
  refine f_rt rfl ?_
  unfold b_law_holds
  apply s_seq
  · apply s_ifF (b := false)
    · refine e_orT_f (S1 := S) (e_notT (b := true) (e_T (e_call (e_cons (e_op1 (e_var rfl) (f_cs' hi)) (e_cons (e_opA (e_cons (e_var rfl) e_nil) (o_tuple_as rfl)) e_nil)) (same_tupS (by omega))))) ?_
      exact e_notT (b := true) (e_T (e_call (e_cons (e_meth (e_var rfl) hi no_text rfl e_nil (text_ev K hi)) (e_cons (e_var rfl) e_nil)) same_str))
    · rfl
    · exact s_skip
  apply s_seq
  · apply s_ifF
    · (repeat first | exact lenG_ev hi1 (by omega) | exact o_len_l.trans (by rw [ts_len]) | exact same_int | exact e_P _ | (apply e_var; rfl) | exact e_nil | apply e_op2 | apply e_op1 | apply e_opA | apply e_cons | apply e_call | apply e_callC | apply e_T | apply e_notT | apply e_notV | apply e_str1 | apply e_part | apply e_sl | apply e_ch | apply e_orT | apply e_andT | apply e_orV | apply e_andV | exact v_add _ _ _ | exact v_sub _ _ _ | exact v_lt _ _ _ | exact v_le _ _ _ | exact v_gt _ _ _ | exact v_ge _ _ _ | exact v_cint _ _ | exact o_len_l | exact o_len_t | exact o_tup (by simp) | exact o_lst (by simp) | exact s_skip | exact s_retN | assumption)
    · rfl
    · exact s_skip
  refine s_seq (s_for (e_rng1n (j := TS.length) (e_cons (e_opA (e_cons (e_var rfl) e_nil) (o_len_l.trans (by rw [ts_len]))) e_nil) (by omega)) e) ?_
  have := s_ret (e_opA (e_cons el2 e_nil) (alls' _ hr))
  simpa using this
end
end Lw
namespace Lw
open PySem L2 Mi TL
section
variable {S : Store} {cs : List Str} {TS : List Rows} {i : Nat}
theorem of_ev (K : Pk cs TS) {cd : D} {l : List D} (A : Arg S cd (.lst l) cs TS) : m_Program_of (.cls "Program" :: cd :: l) S = some (.ok (.ref S.length), S ++ [prC cs TS]) := by
  have hl : l.length = TS.length := by
    obtain ⟨_, tds, h1, h2, _⟩ := A
    cases h1; exact h2
  have t3 := K.l3
  have hz : szOk ((.cls "Program" :: cd :: l : List D).length - 2) = true := sz_ok (by simp; omega)
  unfold m_Program_of mFnS
  rw [if_pos ⟨by simp, hz⟩]
  show mFn 3 3 b_Program_of [.cls "Program", cd, .tup l] S = _
  refine f_rt rfl ?_
  unfold b_Program_of
  refine s_ret (e_makeV (e_var rfl) (c := cx_Program) (mf := m_Program__init_) (by simp [ct_Program]) ?_)
  exact pmake_ev K A (e_cons (e_var rfl) (e_cons (e_opA (e_cons (e_var rfl) e_nil) (o_list_as rfl)) e_nil))
theorem lawof_ev (K : Pk cs TS) {cd : D} {l : List D} (A : Arg S cd (.lst l) cs TS) : m_law_of [cd, .lst l] S = some (.ok (.ref S.length), S ++ [prC cs TS]) := by
  have hl : l.length = TS.length := by
    obtain ⟨_, tds, h1, h2, _⟩ := A
    cases h1; exact h2
  have t1 := K.l1
  have t3 := K.l3
  refine f_rt rfl ?_
  unfold b_law_of
  match l, hl, A with
  | [], hl, _ => simp at hl; omega
  | [a], hl, A =>
    refine s_seq_rt ?_
    apply s_ifT
    · (repeat first | exact eq_int _ _ | exact e_P _ | (apply e_var; rfl) | exact e_nil | apply e_op2 | apply e_op1 | apply e_opA | apply e_cons | apply e_call | apply e_callC | apply e_T | apply e_notT | apply e_notV | apply e_str1 | apply e_part | apply e_sl | apply e_ch | apply e_orT | apply e_andT | apply e_orV | apply e_andV | exact v_add _ _ _ | exact v_sub _ _ _ | exact v_lt _ _ _ | exact v_le _ _ _ | exact v_gt _ _ _ | exact v_ge _ _ _ | exact v_cint _ _ | exact o_len_l | exact o_len_t | exact o_tup (by simp) | exact o_lst (by simp) | exact s_skip | exact s_retN | assumption)
    · rfl
    · exact s_ret (e_callC (e_cons (e_var rfl) (e_cons (e_op2 (e_var rfl) (e_P _) (o_ix rfl (at_zero rfl))) e_nil)) (of_ev K A))
  | [a, b], hl, A =>
    refine s_seq (s_ifF (by (repeat first | exact eq_int _ _ | exact e_P _ | (apply e_var; rfl) | exact e_nil | apply e_op2 | apply e_op1 | apply e_opA | apply e_cons | apply e_call | apply e_callC | apply e_T | apply e_notT | apply e_notV | apply e_str1 | apply e_part | apply e_sl | apply e_ch | apply e_orT | apply e_andT | apply e_orV | apply e_andV | exact v_add _ _ _ | exact v_sub _ _ _ | exact v_lt _ _ _ | exact v_le _ _ _ | exact v_gt _ _ _ | exact v_ge _ _ _ | exact v_cint _ _ | exact o_len_l | exact o_len_t | exact o_tup (by simp) | exact o_lst (by simp) | exact s_skip | exact s_retN | assumption)) rfl s_skip) ?_
    refine s_seq_rt ?_
    apply s_ifT
    · (repeat first | exact eq_int _ _ | exact e_P _ | (apply e_var; rfl) | exact e_nil | apply e_op2 | apply e_op1 | apply e_opA | apply e_cons | apply e_call | apply e_callC | apply e_T | apply e_notT | apply e_notV | apply e_str1 | apply e_part | apply e_sl | apply e_ch | apply e_orT | apply e_andT | apply e_orV | apply e_andV | exact v_add _ _ _ | exact v_sub _ _ _ | exact v_lt _ _ _ | exact v_le _ _ _ | exact v_gt _ _ _ | exact v_ge _ _ _ | exact v_cint _ _ | exact o_len_l | exact o_len_t | exact o_tup (by simp) | exact o_lst (by simp) | exact s_skip | exact s_retN | assumption)
    · rfl
    · exact s_ret (e_callC (e_cons (e_var rfl) (e_cons (e_op2 (e_var rfl) (e_P _) (o_ix rfl (at_zero rfl))) (e_cons (e_op2 (e_var rfl) (e_P _) (o_ix rfl (at_nat (k := 1) rfl))) e_nil))) (of_ev K A))
  | [a, b, c], hl, A =>
    refine s_seq (s_ifF (by (repeat first | exact eq_int _ _ | exact e_P _ | (apply e_var; rfl) | exact e_nil | apply e_op2 | apply e_op1 | apply e_opA | apply e_cons | apply e_call | apply e_callC | apply e_T | apply e_notT | apply e_notV | apply e_str1 | apply e_part | apply e_sl | apply e_ch | apply e_orT | apply e_andT | apply e_orV | apply e_andV | exact v_add _ _ _ | exact v_sub _ _ _ | exact v_lt _ _ _ | exact v_le _ _ _ | exact v_gt _ _ _ | exact v_ge _ _ _ | exact v_cint _ _ | exact o_len_l | exact o_len_t | exact o_tup (by simp) | exact o_lst (by simp) | exact s_skip | exact s_retN | assumption)) rfl s_skip) ?_
    refine s_seq (s_ifF (by (repeat first | exact eq_int _ _ | exact e_P _ | (apply e_var; rfl) | exact e_nil | apply e_op2 | apply e_op1 | apply e_opA | apply e_cons | apply e_call | apply e_callC | apply e_T | apply e_notT | apply e_notV | apply e_str1 | apply e_part | apply e_sl | apply e_ch | apply e_orT | apply e_andT | apply e_orV | apply e_andV | exact v_add _ _ _ | exact v_sub _ _ _ | exact v_lt _ _ _ | exact v_le _ _ _ | exact v_gt _ _ _ | exact v_ge _ _ _ | exact v_cint _ _ | exact o_len_l | exact o_len_t | exact o_tup (by simp) | exact o_lst (by simp) | exact s_skip | exact s_retN | assumption)) rfl s_skip) ?_
    exact s_ret (e_callC (e_cons (e_var rfl) (e_cons (e_op2 (e_var rfl) (e_P _) (o_ix rfl (at_zero rfl))) (e_cons (e_op2 (e_var rfl) (e_P _) (o_ix rfl (at_nat (k := 1) rfl))) (e_cons (e_op2 (e_var rfl) (e_P _) (o_ix rfl (at_nat (k := 2) rfl))) e_nil)))) (of_ev K A))
  | _ :: _ :: _ :: _ :: _, hl, _ => simp at hl; omega
/-- new cells of the rows, one after the other -/
theorem rows_cells {g : Gm} {vs : List Nat} {T : Store} {me : Mi.M D} {g0 : Gm} {b : Bind} {src : Src} (hs : src.2 = none) (hb : ∀ (R : Rows) (T : Store), ∃ g1, b (.lst (en R)) g0 = some g1 ∧ me g1 T = some (.ok (.ref T.length), T ++ [.lst (en R)])) : ∀ (U : List Rows) (acc : List D) (T : Store), acc.length + U.length ≤ 100 →
    lcGo src b (mP true) me g0 (tsD U) acc T = some (acc ++ (List.range U.length).map (fun (k : Nat) => D.ref (T.length + k)), T ++ rowC U)
  | [], acc, T, _ => by
    have : srcOk T src := by unfold srcOk; rw [hs]; trivial
    simp [tsD, lcGo, this, rowC]
  | R :: U, acc, T, hl => by
    simp only [List.length_cons] at hl
    obtain ⟨g1, e1, e2⟩ := hb R T
    have h1 : srcOk T src := by unfold srcOk; rw [hs]; trivial
    have ih := rows_cells (g := g) (vs := vs) (T := T) hs hb U (acc ++ [.ref T.length]) (T ++ [.lst (en R)]) (by simp; omega)
    show lcGo src b (mP true) me g0 (.lst (en R) :: tsD U) acc T = _
    simp only [lcGo, if_pos h1, e1, v_P, e2]
    rw [if_pos (sz_ok (by omega)), ih]
    simp only [List.length_append, List.length_singleton, List.length_cons, List.range_succ_eq_map, List.map_cons, List.map_map, rowC, List.append_assoc, List.cons_append, List.nil_append, Nat.add_zero]
    congr 3
    congr 1
    refine List.map_congr_left fun k _ => ?_
    simp only [Function.comp_apply, D.ref.injEq, List.length_nil, Nat.succ_eq_add_one]; omega
def refsF (n m : Nat) : List D := (List.range m).map fun (k : Nat) => D.ref (n + k)
theorem refsF_get {n m k : Nat} {d : D} (h : (refsF n m)[k]? = some d) : k < m ∧ d = .ref (n + k) := by
  simp only [refsF, List.getElem?_map, Option.map_eq_some_iff] at h
  obtain ⟨j, hj, rfl⟩ := h
  obtain ⟨h1, h2⟩ := List.getElem?_eq_some_iff.mp hj
  simp only [List.length_range] at h1
  simp only [List.getElem_range] at h2
  subst h2
  exact ⟨h1, rfl⟩
theorem refsF_at {n m k : Nat} (h : k < m) : (refsF n m)[k]? = some (.ref (n + k)) := by simp [refsF, h]
theorem refsF_len (n m : Nat) : (refsF n m).length = m := by simp [refsF]
theorem refsF_cons {n m : Nat} (h : 1 ≤ m) : ∃ r, refsF n m = .ref n :: r := by
  obtain ⟨k, rfl⟩ : ∃ k, m = k + 1 := ⟨m - 1, by omega⟩
  exact ⟨_, by rw [refsF, List.range_succ_eq_map, List.map_cons]; rfl⟩
/-- where the rows stand -/
def RowsAt (S : Store) (n : Nat) (TS : List Rows) : Prop := ∀ (k : Nat) (R : Rows), TS[k]? = some R → S[n + k]? = some (.lst (en R))
theorem RowsAt.arg {n : Nat} {cd td : D} (h : RowsAt S n TS) (hc : asL S cd = some (cs.map .str)) (ht : asLL S td = some (refsF n TS.length)) : Arg S cd td cs TS := ⟨hc, refsF n TS.length, ht, refsF_len _ _, fun k d hd => by
  obtain ⟨hk, rfl⟩ := refsF_get hd
  exact ⟨TS[k], List.getElem?_eq_getElem hk, by simp only [asLL, h k TS[k] (List.getElem?_eq_getElem hk)]⟩⟩
theorem RowsAt.dr {n m : Nat} (h : RowsAt S n TS) : (refsF n TS.length).map (Mi.dr S (m + 1)) = tsD TS := by
  refine List.ext_getElem (by simp [refsF, tsD]) fun k h1 h2 => ?_
  have hk : k < TS.length := by simpa [refsF] using h1
  simp only [List.getElem_map, refsF, tsD, List.getElem_range]
  exact dr_en (h k TS[k] (List.getElem?_eq_getElem hk))
theorem RowsAt.app {n : Nat} {x : Store} (h : RowsAt S n TS) : RowsAt (S ++ x) n TS := fun k R hk => app_old (h k R hk)
theorem RowsAt.new {T : Store} : RowsAt (T ++ rowC TS) T.length TS := fun k R hk => by
  rw [List.getElem?_append_right (by omega), Nat.add_sub_cancel_left]
  simp [rowC, hk]
end
/-! ### the law -/
abbrev LG (ns p : List Int) (cs : List Str) (sz : List D) (TS : List Rows) (z : Str) (o6 o7 o8 o9 o10 o11 o12 o13 : Option D) : Gm := [some (.scr ns), some (.lst (p.map .int)), some (.lst (cs.map .str)), some (.lst sz), some (.lst (tsD TS)), some (.str z), o6, o7, o8, o9, o10, o11, o12, o13, none, none]
theorem turn_ev {ns p : List Int} {cs : List Str} {sz : List D} {TS : List Rows} (K : Pk cs TS) {S : Store} {i : Nat} (hi : S[i]? = some (prC cs TS)) {o6 o7 o8 o9 o10 o11 o12 : Option D} : ∃ x, bd_law_0 (LG ns p cs sz TS (textP cs TS) o6 o7 o8 o9 o10 o11 o12 (some (.ref i))) S = some (.nx (LG ns p cs sz TS (textP cs TS) o6 o7 o8 o9 o10 o11 o12 (some (.ref i))), S ++ x) := by
  have t3 := K.l3
  have t1 := K.l1
  obtain ⟨x, e1⟩ := holds_ev K hi
  have hi1 : (S ++ x)[i]? = some (prC cs TS) := app_old hi
  obtain ⟨y, e2⟩ := holds_ev K hi1
  have hi2 : (S ++ x ++ y)[i]? = some (prC cs TS) := app_old hi1
  refine ⟨x ++ y, ?_⟩
  rw [← List.append_assoc]
  unfold bd_law_0
  apply s_seq
  · apply s_ifF (b := false)
    · refine e_orT_f (S1 := S ++ x) (e_notT (b := true) (e_T ?_)) (e_notT (S1 := S ++ x ++ y) (b := true) (e_T ?_))
      · (repeat first | exact e_P _ | (apply e_var; rfl) | exact e_nil | apply e_op2 | apply e_op1 | apply e_opA | apply e_cons | apply e_call | apply e_callC | apply e_T | apply e_notT | apply e_notV | apply e_str1 | apply e_part | apply e_sl | apply e_ch | apply e_orT | apply e_andT | apply e_orV | apply e_andV | exact v_add _ _ _ | exact v_sub _ _ _ | exact v_lt _ _ _ | exact v_le _ _ _ | exact v_gt _ _ _ | exact v_ge _ _ _ | exact v_cint _ _ | exact o_len_l | exact o_len_t | exact o_tup (by simp) | exact o_lst (by simp) | exact s_skip | exact s_retN | assumption)
      · (repeat first | exact e_P _ | (apply e_var; rfl) | exact e_nil | apply e_op2 | apply e_op1 | apply e_opA | apply e_cons | apply e_call | apply e_callC | apply e_T | apply e_notT | apply e_notV | apply e_str1 | apply e_part | apply e_sl | apply e_ch | apply e_orT | apply e_andT | apply e_orV | apply e_andV | exact v_add _ _ _ | exact v_sub _ _ _ | exact v_lt _ _ _ | exact v_le _ _ _ | exact v_gt _ _ _ | exact v_ge _ _ _ | exact v_cint _ _ | exact o_len_l | exact o_len_t | exact o_tup (by simp) | exact o_lst (by simp) | exact s_skip | exact s_retN | assumption)
    · rfl
    · exact s_skip
  apply s_ifF (b := false)
  · refine e_notT (S1 := S ++ x ++ y) (b := true) (e_T (e_opA (e_cons (e_lc_all (src := ([.int TS.length, .int (-1), .int ((TS.length : Int) + 7), .int (-(TS.length : Int))], none)) (r := List.replicate 4 (.bl true)) (e_I_lst ?_) trivial rfl (by simp) ?_) e_nil) (alls' _ fun d hd => List.eq_of_mem_replicate hd)))
    · (repeat first | exact o_lst (by simp) | exact o_len_l.trans (by rw [ts_len]) | exact (rfl : fNeg _ _ = _) | exact e_P _ | (apply e_var; rfl) | exact e_nil | apply e_op2 | apply e_op1 | apply e_opA | apply e_cons | apply e_call | apply e_callC | apply e_T | apply e_notT | apply e_notV | apply e_str1 | apply e_part | apply e_sl | apply e_ch | apply e_orT | apply e_andT | apply e_orV | apply e_andV | exact v_add _ _ _ | exact v_sub _ _ _ | exact v_lt _ _ _ | exact v_le _ _ _ | exact v_gt _ _ _ | exact v_ge _ _ _ | exact v_cint _ _ | exact o_len_l | exact o_len_t | exact o_tup (by simp) | exact o_lst (by simp) | exact s_skip | exact s_retN | assumption)
    · intro k d z hd hz
      have hz' : z = .bl true := by
        have := List.mem_of_getElem? hz
        exact List.eq_of_mem_replicate this
      subst hz'
      have hm := List.mem_of_getElem? hd
      simp only [List.mem_cons, List.not_mem_nil, or_false] at hm
      have : ∃ t : Int, d = .int t ∧ ¬ (0 ≤ t ∧ t < TS.length) := by
        rcases hm with rfl | rfl | rfl | rfl
        · exact ⟨_, rfl, by omega⟩
        · exact ⟨_, rfl, by omega⟩
        · exact ⟨_, rfl, by omega⟩
        · exact ⟨_, rfl, by omega⟩
      obtain ⟨t, rfl, ht⟩ := this
      exact ⟨_, rfl, e_call (e_cons (e_var rfl) (e_cons (e_var rfl) e_nil)) (unknown_ev hi2 ht)⟩
  · rfl
  · exact s_skip
end Lw
namespace Lw
open PySem L2 Mi TL
theorem sum_len_le {t : Nat} : ∀ l : List Rows, (∀ R ∈ l, R.length ≤ t) → (l.map List.length).sum ≤ l.length * t
  | [], _ => by simp
  | R :: l, h => by
    have ih := sum_len_le l fun Q hQ => h Q (List.mem_cons_of_mem _ hQ)
    have h0 := h R List.mem_cons_self
    rw [List.map_cons, List.sum_cons, List.length_cons, Nat.succ_mul]
    omega
theorem law_true (ns : List Int) (hn : ns.length ≤ 63) : ∃ S', m_law [.scr ns] [] = some (.ok (.bl true), S') := by
  obtain ⟨p, ep⟩ := pool_ev ns hn
  have G0 : GoodS [] := fun c h => nomatch h
  -- the number of cells
  have dr := draw_ev (l := p) (k := 21) (many := 3) (S := []) (by decide) (by decide)
  obtain ⟨b, eb, hb⟩ := nat_of (drawF_ge p 21 (many := 3) (by decide)) (drawF_lt p 21 (many := 3) (by decide))
  rw [eb] at dr
  obtain ⟨c, hc1, hc3, ec⟩ : ∃ c : Nat, 1 ≤ c ∧ c ≤ 3 ∧ atI [.int 2, .int 1, .int 3] (b : Int) = some (D.int (c : Nat)) := by
    have : b = 0 ∨ b = 1 ∨ b = 2 := by omega
    rcases this with rfl | rfl | rfl
    · exact ⟨2, by decide, by decide, rfl⟩
    · exact ⟨1, by decide, by decide, rfl⟩
    · exact ⟨3, by decide, by decide, rfl⟩
  obtain ⟨cs, lcs, C, ecs⟩ := distinct_ev (p := p) (a := 0) (n := c) G0 (by decide) hc1 hc3
  obtain ⟨szs, tt, z1, z3, zt, zle, esz⟩ := sizes_gen (p := p) (S := []) (a := 22) (m1 := 24) (m2 := 12) (m3 := 8) (B := 24) (by decide) (by decide) (by decide) (by decide)
  have tt24 : tt ≤ 24 := by
    have : 1 * tt ≤ szs.length * tt := Nat.mul_le_mul_right _ z1
    omega
  obtain ⟨TS, lTS, vTS, eTS⟩ := threads_ev (p := p) (a := 26) (sz := szs) C (S := []) G0 (by decide) (fun n hn => by have := zle n hn; omega) (by omega)
  have lT : TS.length = szs.length := by rw [← lTS, List.length_map]
  have leR : ∀ R ∈ TS, R.length ≤ tt := fun R hR => zle _ (by rw [← lTS]; exact List.mem_map_of_mem hR)
  have hsum : (TS.map List.length).sum ≤ 24 := by
    have := sum_len_le TS leR
    rw [lT] at this
    omega
  have K : Pk cs TS := ⟨C, by omega, by omega, hsum, vTS⟩
  have t1 := K.l1
  have t3 := K.l3
  have et := ltext_ev (S := []) K G0
  have okC := C.ok
  have okT := pOk_ts okC K.vd
  have okS := pOk_strs okC
  have dS : dep (.lst (cs.map .str)) ≤ 64 := by simp [dep, deps_strs]
  have dT : dep (.lst (tsD TS)) ≤ 64 := by have := dep_ts TS; simp only [dep]; omega
  let sz : List D := szs.map fun (n : Nat) => D.int n
  let G := LG ns p cs sz TS (textP cs TS)
  -- names, handed
  let T7 : Store := [.lst (cs.map .str)] ++ rowC TS ++ [.lst (refsF 1 TS.length)]
  have l7 : T7.length = TS.length + 2 := by simp [T7, rowC]
  have n7 : T7[0]? = some (.lst (cs.map .str)) := rfl
  have r7 : RowsAt T7 1 TS := (RowsAt.new (T := [.lst (cs.map .str)])).app
  have h7 : T7[TS.length + 1]? = some (.lst (refsF 1 TS.length)) := by
    have := last_get (S := [.lst (cs.map .str)] ++ rowC TS) (c := .lst (refsF 1 TS.length))
    have e : ([Cell.lst (cs.map .str)] ++ rowC TS).length = TS.length + 1 := by simp [rowC]
    rwa [e] at this
  have e7 : mLcC [14] (mI (mVar 4)) (bN 14) (mP true) (mListC (mCons (mVar 14) (mNil))) (G (some (.ref 0)) none none none none none none none) [.lst (cs.map .str)] = some (.ok (.ref (TS.length + 1)), T7) := by
    have := e_lcC (vs := [14]) (mi := mI (mVar 4)) (b := bN 14) (mt := mP true) (me := mListC (mCons (mVar 14) (mNil))) (g := G (some (.ref 0)) none none none none none none none) (S := [.lst (cs.map .str)]) (src := (tsD TS, none)) (e_I_lst (e_var rfl))
      (rows_cells (g := []) (vs := []) (T := []) rfl (fun R T => ⟨_, rfl, e_listC (e_cons (e_var rfl) e_nil) rfl⟩) TS [] _ (by simp; omega))
    have e : ([Cell.lst (cs.map .str)] ++ rowC TS).length = TS.length + 1 := by simp [rowC]
    rw [e, List.nil_append] at this
    exact this
  -- the first program
  have A8 : Arg T7 (.ref 0) (.ref (TS.length + 1)) cs TS := r7.arg (by simp only [asL, n7]) (by simp only [asLL, h7])
  have e8 := pmake_ev K A8 (g := G (some (.ref 0)) (some (.ref (TS.length + 1))) none none none none none none) (ma := mCons (mVar 6) (mCons (mVar 7) (mNil))) (S0 := T7) (e_cons (e_var rfl) (e_cons (e_var rfl) e_nil))
  rw [l7] at e8
  let T8 : Store := T7 ++ [prC cs TS]
  have b8 : T8[TS.length + 2]? = some (prC cs TS) := by have := last_get (S := T7) (c := prC cs TS); rwa [l7] at this
  have r8 : RowsAt T8 1 TS := r7.app
  have n8 : T8[0]? = some (.lst (cs.map .str)) := app_old n7
  have h8 : T8[TS.length + 1]? = some (.lst (refsF 1 TS.length)) := app_old h7
  obtain ⟨rr, er⟩ := refsF_cons (n := 1) t1
  have q9 := ne_same (S := T8) (x := .ref 0) (y := .lst (cs.map .str)) (d := .lst (cs.map .str)) (pS_ref' n8 okS) (pS_of (by simpa only [pOk] using okS)) (by simpa only [pOk] using okS) dS rfl
  have q10 := ne_same (S := T8) (x := .ref (TS.length + 1)) (y := .lst (tsD TS)) (d := .lst (tsD TS)) (pS_refs h8 er (r8.dr (m := 2)) okT) (pS_of (by simpa only [pOk] using okT)) (by simpa only [pOk] using okT) dT rfl
  -- the lists are changed: what stands of the first program
  have keep : ∀ (T : Store) (i j : Nat) (c : Cell), T[i]? = some (prC cs TS) → i ≠ j → (T.set j c)[i]? = some (prC cs TS) := fun T i j c h hn => by rw [set_other (Ne.symm hn)]; exact h
  let T9 : Store := T8.set 0 (.lst (cs.map .str ++ [.str "q"]))
  have b9 : T9[TS.length + 2]? = some (prC cs TS) := keep _ _ _ _ b8 (by omega)
  have h9 : T9[TS.length + 1]? = some (.lst (refsF 1 TS.length)) := by rw [set_other (by omega)]; exact h8
  obtain ⟨R0, hR0⟩ : ∃ R, TS[0]? = some R := ⟨TS[0], List.getElem?_eq_getElem (by omega)⟩
  have w9 : T9[1]? = some (.lst (en R0)) := by rw [set_other (by decide)]; exact r8 0 R0 hR0
  have lR0 := K.len R0 (List.mem_of_getElem? hR0)
  let J : D := .tup [.str "jump", .int 0]
  let T10 : Store := T9.set 1 (.lst (en R0 ++ [J]))
  have b10 : T10[TS.length + 2]? = some (prC cs TS) := keep _ _ _ _ b9 (by omega)
  have h10 : T10[TS.length + 1]? = some (.lst (refsF 1 TS.length)) := by rw [set_other (by omega)]; exact h9
  let T11 : Store := (T10 ++ [Cell.lst []]).set (TS.length + 1) (Cell.lst (refsF 1 TS.length ++ [D.ref T10.length]))
  have b11 : T11[TS.length + 2]? = some (prC cs TS) := keep _ _ _ _ (app_old b10) (by omega)
  -- listed, own
  let n12 := T11.length
  let T12 : Store := T11 ++ [.lst (cs.map .str)] ++ rowC TS
  have b12 : T12[TS.length + 2]? = some (prC cs TS) := app_old (app_old b11)
  have n12' : T12[n12]? = some (.lst (cs.map .str)) := app_old last_get
  have l12 : (T11 ++ [Cell.lst (cs.map .str)]).length = n12 + 1 := by simp [n12]
  have r12 : RowsAt T12 (n12 + 1) TS := by
    have := RowsAt.new (TS := TS) (T := T11 ++ [.lst (cs.map .str)])
    rwa [l12] at this
  have e12 : mLc [14] (mI (mVar 4)) (bN 14) (mP true) (mListC (mCons (mVar 14) (mNil))) (G (some (.ref 0)) (some (.ref (TS.length + 1))) (some (.ref (TS.length + 2))) (some (.ref n12)) none none none none) (T11 ++ [.lst (cs.map .str)]) = some (.ok (.lst (refsF (n12 + 1) TS.length)), T12) := by
    have := e_lc (vs := [14]) (mi := mI (mVar 4)) (b := bN 14) (mt := mP true) (me := mListC (mCons (mVar 14) (mNil))) (g := G (some (.ref 0)) (some (.ref (TS.length + 1))) (some (.ref (TS.length + 2))) (some (.ref n12)) none none none none) (S := T11 ++ [.lst (cs.map .str)]) (src := (tsD TS, none)) (e_I_lst (e_var rfl))
      (rows_cells (g := []) (vs := []) (T := []) rfl (fun R T => ⟨_, rfl, e_listC (e_cons (e_var rfl) e_nil) rfl⟩) TS [] _ (by simp; omega))
    rw [l12, List.nil_append] at this
    exact this
  have A13 : Arg T12 (.ref n12) (.lst (refsF (n12 + 1) TS.length)) cs TS := r12.arg (by simp only [asL, n12']) rfl
  have e13 := lawof_ev K A13
  let n13 := T12.length
  let T13 : Store := T12 ++ [prC cs TS]
  have b13 : T13[TS.length + 2]? = some (prC cs TS) := app_old b12
  have p13 : T13[n13]? = some (prC cs TS) := last_get
  have r13 : RowsAt T13 (n12 + 1) TS := r12.app
  have m13 : T13[n12]? = some (.lst (cs.map .str)) := app_old n12'
  obtain ⟨rr', er'⟩ := refsF_cons (n := n12 + 1) t1
  have q14 := ne_same (S := T13) (x := .ref n12) (y := .lst (cs.map .str)) (d := .lst (cs.map .str)) (pS_ref' m13 okS) (pS_of (by simpa only [pOk] using okS)) (by simpa only [pOk] using okS) dS rfl
  have q15 := ne_same (S := T13) (x := .lst (refsF (n12 + 1) TS.length)) (y := .lst (tsD TS)) (d := .lst (tsD TS)) (pS_lrefs er' (r13.dr (m := 1)) okT) (pS_of (by simpa only [pOk] using okT)) (by simpa only [pOk] using okT) dT rfl
  have l13 : n12 + 1 + TS.length ≤ n13 := by simp [n13, T12, n12, rowC]
  have g12 : TS.length + 2 < n12 := (List.getElem?_eq_some_iff.mp b11).1
  let T14 : Store := T13.set n12 (.lst (cs.map .str ++ [.str "q"]))
  have b14 : T14[TS.length + 2]? = some (prC cs TS) := keep _ _ _ _ b13 (by omega)
  have p14 : T14[n13]? = some (prC cs TS) := keep _ _ _ _ p13 (by omega)
  have r14 : RowsAt T14 (n12 + 1) TS := fun k R hk => by rw [set_other (by omega)]; exact r13 k R hk
  -- own rows are changed
  let H := fun o12 => G (some (.ref 0)) (some (.ref (TS.length + 1))) (some (.ref (TS.length + 2))) (some (.ref n12)) (some (.lst (refsF (n12 + 1) TS.length))) (some (.ref n13)) o12 none
  obtain ⟨g15, T15, e15, p12, hg, hb15, hp15, _⟩ := forGo_rng (b := bN 12) (body := bd_law_1) (n := TS.length)
    (fun k g T => ∃ p12, g = H p12 ∧ T[TS.length + 2]? = some (prC cs TS) ∧ T[n13]? = some (prC cs TS) ∧ ∀ (j : Nat) (R : Rows), k ≤ j → TS[j]? = some R → T[n12 + 1 + j]? = some (.lst (en R)))
    (fun k g T hk ⟨p12, hg, h1, h2, h3⟩ => by
      subst hg
      have hr := h3 k TS[k] (Nat.le_refl k) (List.getElem?_eq_getElem hk)
      have lR := K.len TS[k] (List.getElem_mem hk)
      refine ⟨_, _, _, rfl, .inl (s_ex (d := .non) (e_app (i := n12 + 1 + k) (e_op2 (e_var rfl) (e_var rfl) (o_ix rfl (at_nat (refsF_at hk)))) hr (e_opA (e_cons (e_P _) (e_cons (e_P _) e_nil)) (o_tup (by simp))) hr (by rw [en_len]; omega))), some (.int k), rfl, keep _ _ _ _ h1 (by omega), keep _ _ _ _ h2 (by omega), fun j R hj hR => ?_⟩
      have hjl := (List.getElem?_eq_some_iff.mp hR).1
      rw [set_other (by omega)]
      exact h3 j R (by omega) hR) (g := H none) (S := T14) ⟨none, rfl, b14, p14, fun j R _ hR => r14 j R hR⟩
  subst hg
  -- the three programs
  have er16 := read_ev (S := T15) K
  let T16 : Store := stD T15 TS ++ [prC cs TS]
  have b16 : T16[TS.length + 2]? = some (prC cs TS) := app_old (app_old hb15)
  have p16 : T16[n13]? = some (prC cs TS) := app_old (app_old hp15)
  have d16 : T16[T15.length + 1 + TS.length]? = some (prC cs TS) := by
    have := last_get (S := stD T15 TS) (c := prC cs TS)
    rwa [stD_len] at this
  let H2 := fun o13 => G (some (.ref 0)) (some (.ref (TS.length + 1))) (some (.ref (TS.length + 2))) (some (.ref n12)) (some (.lst (refsF (n12 + 1) TS.length))) (some (.ref n13)) p12 o13
  obtain ⟨x1, t1'⟩ := turn_ev (ns := ns) (p := p) (sz := sz) K b16 (o6 := some (.ref 0)) (o7 := some (.ref (TS.length + 1))) (o8 := some (.ref (TS.length + 2))) (o9 := some (.ref n12)) (o10 := some (.lst (refsF (n12 + 1) TS.length))) (o11 := some (.ref n13)) (o12 := p12)
  obtain ⟨x2, t2'⟩ := turn_ev (ns := ns) (p := p) (sz := sz) K (S := T16 ++ x1) (app_old d16) (o6 := some (.ref 0)) (o7 := some (.ref (TS.length + 1))) (o8 := some (.ref (TS.length + 2))) (o9 := some (.ref n12)) (o10 := some (.lst (refsF (n12 + 1) TS.length))) (o11 := some (.ref n13)) (o12 := p12)
  obtain ⟨x3, t3'⟩ := turn_ev (ns := ns) (p := p) (sz := sz) K (S := T16 ++ x1 ++ x2) (app_old (app_old p16)) (o6 := some (.ref 0)) (o7 := some (.ref (TS.length + 1))) (o8 := some (.ref (TS.length + 2))) (o9 := some (.ref n12)) (o10 := some (.lst (refsF (n12 + 1) TS.length))) (o11 := some (.ref n13)) (o12 := p12)
  refine ⟨T16 ++ x1 ++ x2 ++ x3, ?_⟩
  unfold m_law
  refine f_rt rfl ?_
  unfold b_law
  refine s_seq (s_set (e_call (e_cons (e_var rfl) e_nil) ep)) ?_
  refine s_seq (s_set (e_call (e_cons (e_var rfl) (e_cons (e_P _) (e_cons (e_op2 (e_opA (by (repeat first | exact e_P _ | (apply e_var; rfl) | exact e_nil | apply e_op2 | apply e_op1 | apply e_opA | apply e_cons | apply e_call | apply e_callC | apply e_T | apply e_notT | apply e_notV | apply e_str1 | apply e_part | apply e_sl | apply e_ch | apply e_orT | apply e_andT | apply e_orV | apply e_andV | exact v_add _ _ _ | exact v_sub _ _ _ | exact v_lt _ _ _ | exact v_le _ _ _ | exact v_gt _ _ _ | exact v_ge _ _ _ | exact v_cint _ _ | exact o_len_l | exact o_len_t | exact o_tup (by simp) | exact o_lst (by simp) | exact s_skip | exact s_retN | assumption)) (o_lst (l := [.int 2, .int 1, .int 3]) (by simp))) (e_call (e_cons (e_var rfl) (e_cons (e_P _) (e_cons (e_P _) e_nil))) dr) (o_ix rfl ec)) e_nil))) ecs)) ?_
  refine s_seq (s_set (e_call (e_cons (e_var rfl) (e_cons (e_P _) (e_cons (e_opA (by (repeat first | exact e_P _ | (apply e_var; rfl) | exact e_nil | apply e_op2 | apply e_op1 | apply e_opA | apply e_cons | apply e_call | apply e_callC | apply e_T | apply e_notT | apply e_notV | apply e_str1 | apply e_part | apply e_sl | apply e_ch | apply e_orT | apply e_andT | apply e_orV | apply e_andV | exact v_add _ _ _ | exact v_sub _ _ _ | exact v_lt _ _ _ | exact v_le _ _ _ | exact v_gt _ _ _ | exact v_ge _ _ _ | exact v_cint _ _ | exact o_len_l | exact o_len_t | exact o_tup (by simp) | exact o_lst (by simp) | exact s_skip | exact s_retN | assumption)) (o_lst (l := [.int (24 : Nat), .int (12 : Nat), .int (8 : Nat)]) (by simp))) e_nil))) esz)) ?_
  refine s_seq (s_set (e_call (e_cons (e_var rfl) (e_cons (e_P _) (e_cons (e_var rfl) (e_cons (e_var rfl) e_nil)))) eTS)) ?_
  refine s_seq (s_set (e_call (e_cons (e_var rfl) (e_cons (e_var rfl) e_nil)) et)) ?_
  refine s_seq (s_set (e_listC (e_cons (e_var rfl) e_nil) rfl)) ?_
  refine s_seq (s_set e7) ?_
  refine s_seq (s_set e8) ?_
  refine s_seq (s_ifF (b := false) (e_orT (b := false) (c := false) (S1 := T8) ?_ ?_) rfl s_skip) ?_
  · (repeat first | exact q9 | exact e_P _ | (apply e_var; rfl) | exact e_nil | apply e_op2 | apply e_op1 | apply e_opA | apply e_cons | apply e_call | apply e_callC | apply e_T | apply e_notT | apply e_notV | apply e_str1 | apply e_part | apply e_sl | apply e_ch | apply e_orT | apply e_andT | apply e_orV | apply e_andV | exact v_add _ _ _ | exact v_sub _ _ _ | exact v_lt _ _ _ | exact v_le _ _ _ | exact v_gt _ _ _ | exact v_ge _ _ _ | exact v_cint _ _ | exact o_len_l | exact o_len_t | exact o_tup (by simp) | exact o_lst (by simp) | exact s_skip | exact s_retN | assumption)
  · (repeat first | exact q10 | exact e_P _ | (apply e_var; rfl) | exact e_nil | apply e_op2 | apply e_op1 | apply e_opA | apply e_cons | apply e_call | apply e_callC | apply e_T | apply e_notT | apply e_notV | apply e_str1 | apply e_part | apply e_sl | apply e_ch | apply e_orT | apply e_andT | apply e_orV | apply e_andV | exact v_add _ _ _ | exact v_sub _ _ _ | exact v_lt _ _ _ | exact v_le _ _ _ | exact v_gt _ _ _ | exact v_ge _ _ _ | exact v_cint _ _ | exact o_len_l | exact o_len_t | exact o_tup (by simp) | exact o_lst (by simp) | exact s_skip | exact s_retN | assumption)
  refine s_seq (s_ex (d := .non) (e_app (i := 0) (e_var rfl) n8 (e_P _) n8 (by simp; omega))) ?_
  refine s_seq (s_ex (d := .non) (e_app (S := T9) (i := 1) (e_op2 (e_var rfl) (e_P _) (o_ix (l := refsF 1 TS.length) (by simp only [asL, h9]) (at_zero (by rw [er]; rfl)))) w9 (e_opA (e_cons (e_P _) (e_cons (e_P _) e_nil)) (o_tup (by simp))) w9 (by rw [en_len]; omega))) ?_
  refine s_seq (s_ex (d := .non) (e_app (S := T10) (i := TS.length + 1) (e_var rfl) h10 (e_newL e_nil (by simp)) (app_old h10) (by rw [refsF_len]; omega))) ?_
  refine s_seq (s_set (e_listC (S1 := T11) (e_cons (e_var rfl) e_nil) rfl)) ?_
  refine s_seq (s_set e12) ?_
  refine s_seq (s_set (e_call (e_cons (e_var rfl) (e_cons (e_var rfl) e_nil)) e13)) ?_
  refine s_seq (s_ifF (b := false) (e_orT (b := false) (c := false) (S1 := T13) ?_ ?_) rfl s_skip) ?_
  · (repeat first | exact q14 | exact e_P _ | (apply e_var; rfl) | exact e_nil | apply e_op2 | apply e_op1 | apply e_opA | apply e_cons | apply e_call | apply e_callC | apply e_T | apply e_notT | apply e_notV | apply e_str1 | apply e_part | apply e_sl | apply e_ch | apply e_orT | apply e_andT | apply e_orV | apply e_andV | exact v_add _ _ _ | exact v_sub _ _ _ | exact v_lt _ _ _ | exact v_le _ _ _ | exact v_gt _ _ _ | exact v_ge _ _ _ | exact v_cint _ _ | exact o_len_l | exact o_len_t | exact o_tup (by simp) | exact o_lst (by simp) | exact s_skip | exact s_retN | assumption)
  · (repeat first | exact q15 | exact e_P _ | (apply e_var; rfl) | exact e_nil | apply e_op2 | apply e_op1 | apply e_opA | apply e_cons | apply e_call | apply e_callC | apply e_T | apply e_notT | apply e_notV | apply e_str1 | apply e_part | apply e_sl | apply e_ch | apply e_orT | apply e_andT | apply e_orV | apply e_andV | exact v_add _ _ _ | exact v_sub _ _ _ | exact v_lt _ _ _ | exact v_le _ _ _ | exact v_gt _ _ _ | exact v_ge _ _ _ | exact v_cint _ _ | exact o_len_l | exact o_len_t | exact o_tup (by simp) | exact o_lst (by simp) | exact s_skip | exact s_retN | assumption)
  refine s_seq (s_ex (d := .non) (e_app (S := T13) (i := n12) (e_var rfl) m13 (e_P _) m13 (by simp; omega))) ?_
  refine s_seq (s_for (S1 := T14) (e_rng1n (j := TS.length) (e_cons (e_opA (e_cons (e_var rfl) e_nil) (o_len_l.trans (by rw [refsF_len]))) e_nil) (by omega)) e15) ?_
  refine s_seq (s_for (S1 := T16) (src := ([.ref (TS.length + 2), .ref (T15.length + 1 + TS.length), .ref n13], none)) (e_I_lst (e_opA (e_cons (e_var rfl) (e_cons (e_callC (e_cons (e_var rfl) e_nil) er16) (e_cons (e_var rfl) e_nil))) (o_lst (by simp)))) (for_cons trivial rfl t1' (for_cons trivial rfl t2' (for_cons trivial rfl t3' (for_nil trivial))))) ?_
  refine s_ret (e_call (e_cons (e_opA (e_cons (e_P _) (e_cons (e_P _) (e_cons (e_P _) e_nil))) (o_lst (by simp))) (e_cons (e_opA (e_cons (e_P _) (e_cons (e_P _) (e_cons (e_P _) e_nil))) (o_lst (by simp))) e_nil)) (same_refl 8 _ (by simp [dep, deps]) (by simp [sOk, sOks, sz_ok])))
end Lw
namespace Lw
open PySem L2 Mi
theorem law_sp {K : PySem.W.Frag} {ns : List Int} (hl : ns.length ≤ 63) {H : Hp} {a : Addr} (hS : SqL K H a (ns.map V.int)) : spA K m_law [.ref a] H (fun v _ => v = .bl true) fun _ _ _ => False :=
  fun _ => let ⟨_, h⟩ := law_true ns hl; law_of h hS
end Lw
open PySem PySem.W PyProof.Rows
set_option maxRecDepth 100000 in
set_option maxHeartbeats 0 in
theorem endtest : PySem.Challenge.rw_elderreads_k03_whole_program_texts.Holds := by
  w_on; o_law; k_head; (case hw => w_witness2)
  k_fill
  refine L2.walk_of (l := PySem.Challenge.rw_elderreads_k03_whole_program_texts) (n := 63) (k := 11) (x := "_law_script") (CX := fun w => L2.CX PySem.Challenge.rw_elderreads_k03_whole_program_texts.prog w) (sp := fun w => Mi.spA _ Lw.m_law) rfl (by decide) rfl ⟨rfl, by decide, by decide⟩ (fun w h Y => PySem.W.kIn_of Y) ?F (fun w H a ns hl hO hS => Lw.law_sp hl hS) (fun _ _ _ _ _ z => Mi.cx_never z)
  case F =>
    intro w mg fa h KX G hmg
    refine' Lw.all_mk KX G hmg ?uC0 ?uC1 ?uC2 ?uC3 ?uC4 ?uC5 ?uC6 ?uC7 ?uC8 ?a0 ?l0 ?c0 ?k0 ?a1 ?l1 ?c1 ?k1 ?a2 ?l2 ?c2 ?k2 ?a3 ?l3 ?c3 ?k3 ?a4 ?l4 ?c4 ?k4 ?a5 ?l5 ?c5 ?k5 ?a6 ?l6 ?c6 ?k6 ?a7 ?l7 ?c7 ?k7 ?a8 ?l8 ?c8 ?k8 ?a9 ?l9 ?c9 ?k9 ?a10 ?l10 ?c10 ?k10 ?a11 ?l11 ?c11 ?k11 ?a12 ?l12 ?c12 ?k12 ?pa13 ?a13 ?pf13 ?l13 ?c13 ?k13 ?a14 ?l14 ?c14 ?k14 ?a15 ?l15 ?c15 ?k15 ?a16 ?l16 ?c16 ?k16 ?a17 ?l17 ?c17 ?k17 ?a18 ?l18 ?c18 ?k18 ?pa19 ?a19 ?pf19 ?l19 ?c19 ?k19 ?a20 ?l20 ?c20 ?k20 ?a21 ?l21 ?c21 ?k21 ?a22 ?l22 ?c22 ?k22 ?a23 ?l23 ?c23 ?k23 ?a24 ?l24 ?c24 ?k24 ?a25 ?l25 ?c25 ?k25 ?a26 ?l26 ?c26 ?k26 ?a27 ?l27 ?c27 ?k27 ?a28 ?l28 ?c28 ?k28 ?a29 ?l29 ?c29 ?k29 ?z_abs ?z_all ?z_bool ?z_enumerate ?z_int ?z_isinstance ?z_len ?z_list ?z_range ?z_set ?z_str ?z_sum ?z_tuple ?y_DIGITS ?y_LETTERS ?y_LOCAL ?yl_LOCAL ?tC0 ?lC0 ?pp0 ?bC0 ?tC1 ?lC1 ?pp1 ?bC1 ?tC2 ?lC2 ?pp2 ?bC2 ?tC3 ?lC3 ?pp3 ?bC3 ?tC4 ?lC4 ?pp4 ?bC4 ?tC5 ?lC5 ?pp5 ?bC5 ?tC6 ?lC6 ?pp6 ?bC6 ?kC0 ?gaC0 ?ggC0 ?hdC0 ?caC0 ?hmC0 ?p0_3 ?p0_5 ?nf0_line ?nf0_row ?nf0_thread ?qC1 ?kC1 ?gaC1 ?ggC1 ?hdC1 ?caC1 ?hmC1 ?p1_3 ?p1_5 ?nf1_line ?nf1_row ?nf1_thread ?qC2 ?kC2 ?gaC2 ?ggC2 ?hdC2 ?caC2 ?hmC2 ?p2_3 ?p2_5 ?nf2_line ?nf2_row ?nf2_thread ?qC3 ?kC3 ?gaC3 ?ggC3 ?hdC3 ?caC3 ?hmC3 ?p3_3 ?p3_5 ?nf3_line ?nf3_row ?nf3_thread ?kC4 ?gaC4 ?ggC4 ?hdC4 ?caC4 ?hmC4 ?p4_3 ?p4_5 ?nf4_line ?nf4_row ?nf4_thread ?kC5 ?gaC5 ?ggC5 ?hdC5 ?caC5 ?hmC5 ?p5_3 ?p5_5 ?nf5_line ?nf5_row ?nf5_thread ?snC ?htC ?xl0 ?sa0 ?iC0 ?tI0 ?mr0 ?sup0 ?vE0 ?lx0 ?cx0 ?lc0 ?ld0 ?vs0 ?fe0 ?xl4 ?sa4 ?iC4 ?tI4 ?mr4 ?sup4 ?vE4 ?lx4 ?cx4 ?lc4 ?ld4 ?vs4 ?fe4 ?xl5 ?sa5 ?iC5 ?tI5 ?mr5 ?sup5 ?vE5 ?lx5 ?cx5 ?lc5 ?ld5 ?vs5 ?fe5 ?tpC ?z_super ?topC ?pg7 ?hd7 ?po7 ?sb7 ?nsq7 ?pg8 ?hd8 ?po8 ?sb8 ?nsq8 ?mk7 ?kp7 ?mk8 ?kp8 ?rg7 ?gg7 ?if11 ?fi11 ?if20 ?fi20 ?if21 ?fi21 ?if23 ?fi23 ?if27 ?fi27 ?if12 ?fi12 ?if26 ?fi26 ?no7_cells ?no7__threads ?no8_row ?no8__rows ?no8_held ?co7_MOST_THREADS ?cg7_MOST_THREADS ?co7_MOST_ROWS ?cg7_MOST_ROWS ?co7_MOST_CELLS ?cg7_MOST_CELLS ?rd7_MOST_ROWS ?fc7_MOST_ROWS ?rd7_MOST_THREADS ?fc7_MOST_THREADS ?rd7_MOST_CELLS ?fc7_MOST_CELLS
    (case uC0 => k_is); (case uC1 => k_is); (case uC2 => k_is); (case uC3 => k_is); (case uC4 => k_is); (case uC5 => k_is)
    (case uC6 => k_is); (case uC7 => k_is); (case uC8 => k_is); (case a0 => k_is); (case l0 => k_is); (case c0 => k_is)
    (case k0 => k_is); (case a1 => k_is); (case l1 => k_is); (case c1 => k_is); (case k1 => k_is); (case a2 => k_is)
    (case l2 => k_is); (case c2 => k_is); (case k2 => k_is); (case a3 => k_is); (case l3 => k_is); (case c3 => k_is)
    (case k3 => k_is); (case a4 => k_is); (case l4 => k_is); (case c4 => k_is); (case k4 => k_is); (case a5 => k_is)
    (case l5 => k_is); (case c5 => k_is); (case k5 => k_is); (case a6 => k_is); (case l6 => k_is); (case c6 => k_is)
    (case k6 => k_is); (case a7 => k_is); (case l7 => k_is); (case c7 => k_is); (case k7 => k_is); (case a8 => k_is)
    (case l8 => k_is); (case c8 => k_is); (case k8 => k_is); (case a9 => k_is); (case l9 => k_is); (case c9 => k_is)
    (case k9 => k_is); (case a10 => k_is); (case l10 => k_is); (case c10 => k_is); (case k10 => k_is); (case a11 => k_is)
    (case l11 => k_is); (case c11 => k_is); (case k11 => k_is); (case a12 => k_is); (case l12 => k_is); (case c12 => k_is)
    (case k12 => k_is); (case pa13 => k_is); (case a13 => k_is); (case pf13 => k_is); (case l13 => k_is); (case c13 => k_is)
    (case k13 => k_is); (case a14 => k_is); (case l14 => k_is); (case c14 => k_is); (case k14 => k_is); (case a15 => k_is)
    (case l15 => k_is); (case c15 => k_is); (case k15 => k_is); (case a16 => k_is); (case l16 => k_is); (case c16 => k_is)
    (case k16 => k_is); (case a17 => k_is); (case l17 => k_is); (case c17 => k_is); (case k17 => k_is); (case a18 => k_is)
    (case l18 => k_is); (case c18 => k_is); (case k18 => k_is); (case pa19 => k_is); (case a19 => k_is); (case pf19 => k_is)
    (case l19 => k_is); (case c19 => k_is); (case k19 => k_is); (case a20 => k_is); (case l20 => k_is); (case c20 => k_is)
    (case k20 => k_is); (case a21 => k_is); (case l21 => k_is); (case c21 => k_is); (case k21 => k_is); (case a22 => k_is)
    (case l22 => k_is); (case c22 => k_is); (case k22 => k_is); (case a23 => k_is); (case l23 => k_is); (case c23 => k_is)
    (case k23 => k_is); (case a24 => k_is); (case l24 => k_is); (case c24 => k_is); (case k24 => k_is); (case a25 => k_is)
    (case l25 => k_is); (case c25 => k_is); (case k25 => k_is); (case a26 => k_is); (case l26 => k_is); (case c26 => k_is)
    (case k26 => k_is); (case a27 => k_is); (case l27 => k_is); (case c27 => k_is); (case k27 => k_is); (case a28 => k_is)
    (case l28 => k_is); (case c28 => k_is); (case k28 => k_is); (case a29 => k_is); (case l29 => k_is); (case c29 => k_is)
    (case k29 => k_is); (case z_abs => k_is); (case z_all => k_is); (case z_bool => k_is); (case z_enumerate => k_is); (case z_int => k_is)
    (case z_isinstance => k_is); (case z_len => k_is); (case z_list => k_is); (case z_range => k_is); (case z_set => k_is); (case z_str => k_is)
    (case z_sum => k_is); (case z_tuple => k_is); (case y_DIGITS => k_is); (case y_LETTERS => k_is); (case y_LOCAL => k_is); (case yl_LOCAL => k_is)
    (case tC0 => k_is); (case lC0 => k_is); (case pp0 => k_is); (case bC0 => k_is); (case tC1 => k_is); (case lC1 => k_is)
    (case pp1 => k_is); (case bC1 => k_is); (case tC2 => k_is); (case lC2 => k_is); (case pp2 => k_is); (case bC2 => k_is)
    (case tC3 => k_is); (case lC3 => k_is); (case pp3 => k_is); (case bC3 => k_is); (case tC4 => k_is); (case lC4 => k_is)
    (case pp4 => k_is); (case bC4 => k_is); (case tC5 => k_is); (case lC5 => k_is); (case pp5 => k_is); (case bC5 => k_is)
    (case tC6 => k_is); (case lC6 => k_is); (case pp6 => k_is); (case bC6 => k_is); (case kC0 => k_is); (case gaC0 => k_is)
    (case ggC0 => k_is); (case hdC0 => k_is); (case caC0 => k_is); (case hmC0 => k_is); (case p0_3 => k_is); (case p0_5 => k_is)
    (case nf0_line => k_is); (case nf0_row => k_is); (case nf0_thread => k_is); (case qC1 => k_exc); (case kC1 => k_is); (case gaC1 => k_is)
    (case ggC1 => k_is); (case hdC1 => k_is); (case caC1 => k_is); (case hmC1 => k_is); (case p1_3 => k_is); (case p1_5 => k_is)
    (case nf1_line => k_is); (case nf1_row => k_is); (case nf1_thread => k_is); (case qC2 => k_exc); (case kC2 => k_is); (case gaC2 => k_is)
    (case ggC2 => k_is); (case hdC2 => k_is); (case caC2 => k_is); (case hmC2 => k_is); (case p2_3 => k_is); (case p2_5 => k_is)
    (case nf2_line => k_is); (case nf2_row => k_is); (case nf2_thread => k_is); (case qC3 => k_exc); (case kC3 => k_is); (case gaC3 => k_is)
    (case ggC3 => k_is); (case hdC3 => k_is); (case caC3 => k_is); (case hmC3 => k_is); (case p3_3 => k_is); (case p3_5 => k_is)
    (case nf3_line => k_is); (case nf3_row => k_is); (case nf3_thread => k_is); (case kC4 => k_is); (case gaC4 => k_is); (case ggC4 => k_is)
    (case hdC4 => k_is); (case caC4 => k_is); (case hmC4 => k_is); (case p4_3 => k_is); (case p4_5 => k_is); (case nf4_line => k_is)
    (case nf4_row => k_is); (case nf4_thread => k_is); (case kC5 => k_is); (case gaC5 => k_is); (case ggC5 => k_is); (case hdC5 => k_is)
    (case caC5 => k_is); (case hmC5 => k_is); (case p5_3 => k_is); (case p5_5 => k_is); (case nf5_line => k_is); (case nf5_row => k_is)
    (case nf5_thread => k_is); (case snC => k_is); (case htC => k_is); (case xl0 => k_is); (case sa0 => k_is); (case iC0 => k_is)
    (case tI0 => k_is); (case mr0 => k_is); (case sup0 => ks_is); (case vE0 => k_is); (case lx0 => k_is); (case cx0 => k_is)
    (case lc0 => k_is); (case ld0 => k_is); (case vs0 => rfl); (case fe0 => decide +kernel); (case xl4 => k_is); (case sa4 => k_is)
    (case iC4 => k_is); (case tI4 => k_is); (case mr4 => k_is); (case sup4 => ks_is); (case vE4 => k_is); (case lx4 => k_is)
    (case cx4 => k_is); (case lc4 => k_is); (case ld4 => k_is); (case vs4 => rfl); (case fe4 => decide +kernel); (case xl5 => k_is)
    (case sa5 => k_is); (case iC5 => k_is); (case tI5 => k_is); (case mr5 => k_is); (case sup5 => ks_is); (case vE5 => k_is)
    (case lx5 => k_is); (case cx5 => k_is); (case lc5 => k_is); (case ld5 => k_is); (case vs5 => rfl); (case fe5 => decide +kernel)
    (case tpC => k_is); (case z_super => k_is); (case topC => decide +kernel); (case pg7 => k_is); (case hd7 => k_is); (case po7 => k_is)
    (case sb7 => k_is); (case nsq7 => k_is); (case pg8 => k_is); (case hd8 => k_is); (case po8 => k_is); (case sb8 => k_is)
    (case nsq8 => k_is); (case mk7 => k_is); (case kp7 => k_is); (case mk8 => k_is); (case kp8 => k_is); (case rg7 => k_is)
    (case gg7 => k_is); (case if11 => k_is); (case fi11 => k_is); (case if20 => k_is); (case fi20 => k_is); (case if21 => k_is)
    (case fi21 => k_is); (case if23 => k_is); (case fi23 => k_is); (case if27 => k_is); (case fi27 => k_is); (case if12 => k_is)
    (case fi12 => k_is); (case if26 => k_is); (case fi26 => k_is); (case no7_cells => k_is); (case no7__threads => k_is); (case no8_row => k_is)
    (case no8__rows => k_is); (case no8_held => k_is); (case co7_MOST_THREADS => k_is); (case cg7_MOST_THREADS => k_is); (case co7_MOST_ROWS => k_is); (case cg7_MOST_ROWS => k_is)
    (case co7_MOST_CELLS => k_is); (case cg7_MOST_CELLS => k_is); (case rd7_MOST_ROWS => k_is); (case fc7_MOST_ROWS => k_is); (case rd7_MOST_THREADS => k_is); (case fc7_MOST_THREADS => k_is)
    (case rd7_MOST_CELLS => k_is); (case fc7_MOST_CELLS => k_is)
theorem PySem.Challenge.cw_elderreads_k03_whole_program_texts_holds : PySem.Challenge.rw_elderreads_k03_whole_program_texts.Holds := by
  exact endtest
