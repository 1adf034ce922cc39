import PyProof.Rows.All
import Wide.All
import OpenK.AllK
import Wide.FinOn
import HandS.ForMost
import HandS.Exc
import HandS.TryOnly
import HandS.ExcOwn
import HandS.WordsExc
import HandS.IsInst
import HandS.Flow
import HandS.Walk
import HandS.RaiseMore
import HandS.Deep
import HandS.NoneIn
import HandS.ExcField
import HandS.Defaults
import KE.KExcIs
import PyProof.StrOps2
import PySem.Challenge.RW_elderreads_k02_wrong_lines
set_option Elab.async false
set_option linter.all false
set_option maxRecDepth 100000
set_option maxHeartbeats 4000000
/-! Mi: a small deterministic reading of Python over data trees and a store of cells, and what it has to do with the hand layer's readings. -/
namespace Mi
open PySem L2

/-! ### data, cells, results -/
inductive D where
  | non | bl (b : Bool) | int (i : Int) | str (s : Str) | tup (l : List D) | lst (l : List D) | scr (l : List Int) | ref (i : Nat)
inductive Cell where
  | lst (l : List D) | dK (kvs : List (Key × D)) | ins (c : Nat) (fs : List (Str × D)) | dead
abbrev Store := List Cell
abbrev Gm := List (Option D)
inductive R (α : Type) where
  | ok (a : α) | exc (c : Nat) (fs : List (Str × D))
abbrev M (α : Type) := Gm → Store → Option (R α × Store)
abbrev MF := List D → Store → Option (R D × Store)
inductive Out where
  | nx (g : Gm) | rt (d : D) | bk (g : Gm) | ct (g : Gm) | ex (g : Gm) (c : Nat) (fs : List (Str × D))
abbrev MS := Gm → Store → Option (Out × Store)

/-! ### a value stands for data -/
mutual
def IsD (K : PySem.W.Frag) (φ : List Addr) (G : Hp) : D → V → Prop
  | .non, v => v = .non
  | .bl b, v => v = .bl b
  | .int i, v => v = .int i
  | .str x, v => v = .str x
  | .tup ds, v => ∃ a xs, v = .ref a ∧ SqT K G a xs ∧ IsDs K φ G ds xs
  | .lst ds, v => ∃ a xs, v = .ref a ∧ G a = some (.lst xs) ∧ IsDs K φ G ds xs
  | .scr ns, v => ∃ a, v = .ref a ∧ SqL K G a (ns.map V.int)
  | .ref i, v => ∃ a, v = .ref a ∧ φ[i]? = some a
def IsDs (K : PySem.W.Frag) (φ : List Addr) (G : Hp) : List D → List V → Prop
  | [], vs => vs = []
  | d :: ds, vs => ∃ v r, vs = v :: r ∧ IsD K φ G d v ∧ IsDs K φ G ds r
end

def Ex (H H' : Hp) : Prop := ∀ a o, H a = some o → H' a = some o
theorem Ex.refl (H : Hp) : Ex H H := fun _ _ h => h
theorem Ex.trans {H H1 H2 : Hp} (a : Ex H H1) (b : Ex H1 H2) : Ex H H2 := fun x o h => b x o (a x o h)
theorem Ex.rd {H H' : Hp} {a : Addr} {u : HO} (e : Ex H H') (h : Rd H a u) : Rd H' a u := by
  rcases h with h | ⟨o, h⟩
  · exact .inl (e _ _ h)
  · exact .inr ⟨o, e _ _ h⟩
theorem Ex.l {K : PySem.W.Frag} {H H' : Hp} {a : Addr} {xs : List V} (e : Ex H H') (h : SqL K H a xs) : SqL K H' a xs := h.imp (fun h => e.rd h) id
theorem Ex.t {K : PySem.W.Frag} {H H' : Hp} {a : Addr} {xs : List V} (e : Ex H H') (h : SqT K H a xs) : SqT K H' a xs := h.imp (fun h => e.rd h) id

section
variable {K : PySem.W.Frag} {φ φ' : List Addr} {G G' : Hp}
theorem pre_get (p : φ <+: φ') {i : Nat} {a : Addr} (h : φ[i]? = some a) : φ'[i]? = some a := by
  obtain ⟨t, rfl⟩ := p
  rw [List.getElem?_append_left (List.getElem?_eq_some_iff.mp h).1]; exact h
mutual
theorem IsD.mono (p : φ <+: φ') (e : Ex G G') : ∀ {d : D} {v : V}, IsD K φ G d v → IsD K φ' G' d v
  | .non, _, h => by simpa only [IsD] using h
  | .bl _, _, h => by simpa only [IsD] using h
  | .int _, _, h => by simpa only [IsD] using h
  | .str _, _, h => by simpa only [IsD] using h
  | .tup ds, v, h => by
    simp only [IsD] at h ⊢
    obtain ⟨a, xs, h1, h2, h3⟩ := h
    exact ⟨a, xs, h1, e.t h2, IsDs.mono p e h3⟩
  | .lst ds, v, h => by
    simp only [IsD] at h ⊢
    obtain ⟨a, xs, h1, h2, h3⟩ := h
    exact ⟨a, xs, h1, e _ _ h2, IsDs.mono p e h3⟩
  | .scr ns, v, h => by
    simp only [IsD] at h ⊢
    obtain ⟨a, h1, h2⟩ := h
    exact ⟨a, h1, e.l h2⟩
  | .ref i, v, h => by
    simp only [IsD] at h ⊢
    obtain ⟨a, h1, h2⟩ := h
    exact ⟨a, h1, pre_get p h2⟩
theorem IsDs.mono (p : φ <+: φ') (e : Ex G G') : ∀ {ds : List D} {vs : List V}, IsDs K φ G ds vs → IsDs K φ' G' ds vs
  | [], _, h => by simpa only [IsDs] using h
  | d :: ds, vs, h => by
    simp only [IsDs] at h ⊢
    obtain ⟨v, r, h1, h2, h3⟩ := h
    exact ⟨v, r, h1, IsD.mono p e h2, IsDs.mono p e h3⟩
end
theorem IsDs.length : ∀ {ds : List D} {vs : List V}, IsDs K φ G ds vs → ds.length = vs.length
  | [], _, h => by simp only [IsDs] at h; subst h; rfl
  | d :: ds, vs, h => by
    simp only [IsDs] at h
    obtain ⟨v, r, rfl, _, h3⟩ := h
    simp only [List.length_cons]; rw [IsDs.length h3]
theorem IsDs.nil : IsDs K φ G [] [] := by simp only [IsDs]
theorem IsDs.cons {d : D} {ds : List D} {v : V} {vs : List V} (h : IsD K φ G d v) (r : IsDs K φ G ds vs) : IsDs K φ G (d :: ds) (v :: vs) := by
  simp only [IsDs]; exact ⟨v, vs, rfl, h, r⟩
theorem IsDs.cons_inv {d : D} {ds : List D} {vs : List V} (h : IsDs K φ G (d :: ds) vs) : ∃ v r, vs = v :: r ∧ IsD K φ G d v ∧ IsDs K φ G ds r := by simpa only [IsDs] using h
theorem IsDs.nil_inv {vs : List V} (h : IsDs K φ G [] vs) : vs = [] := by simpa only [IsDs] using h
theorem IsDs.append : ∀ {ds es : List D} {vs ws : List V}, IsDs K φ G ds vs → IsDs K φ G es ws → IsDs K φ G (ds ++ es) (vs ++ ws)
  | [], _, _, _, h, r => by rw [h.nil_inv]; exact r
  | d :: ds, _, _, _, h, r => by
    obtain ⟨v, t, rfl, h1, h2⟩ := h.cons_inv
    exact .cons h1 (IsDs.append h2 r)
theorem IsDs.get : ∀ {ds : List D} {vs : List V} {i : Nat} {d : D}, IsDs K φ G ds vs → ds[i]? = some d → ∃ v, vs[i]? = some v ∧ IsD K φ G d v
  | [], _, _, _, _, e => by simp at e
  | d :: ds, _, 0, _, h, e => by
    obtain ⟨v, t, rfl, h1, h2⟩ := h.cons_inv
    simp at e; subst e
    exact ⟨v, rfl, h1⟩
  | d :: ds, _, i + 1, _, h, e => by
    obtain ⟨v, t, rfl, h1, h2⟩ := h.cons_inv
    simpa using IsDs.get (i := i) h2 (by simpa using e)
theorem IsDs.set {d : D} {v : V} (hd : IsD K φ G d v) : ∀ {ds : List D} {vs : List V} (i : Nat), IsDs K φ G ds vs → IsDs K φ G (ds.set i d) (vs.set i v)
  | [], _, _, h => by rw [h.nil_inv]; exact .nil
  | e :: ds, _, 0, h => by
    obtain ⟨v, t, rfl, h1, h2⟩ := h.cons_inv
    exact .cons hd h2
  | e :: ds, _, i + 1, h => by
    obtain ⟨v, t, rfl, h1, h2⟩ := h.cons_inv
    exact .cons h1 (IsDs.set hd i h2)
theorem IsDs.drop : ∀ {ds : List D} {vs : List V} (n : Nat), IsDs K φ G ds vs → IsDs K φ G (ds.drop n) (vs.drop n)
  | _, _, 0, h => h
  | [], _, n + 1, h => by rw [h.nil_inv]; exact .nil
  | d :: ds, _, n + 1, h => by
    obtain ⟨v, t, rfl, h1, h2⟩ := h.cons_inv
    exact IsDs.drop n h2
theorem IsDs.take : ∀ {ds : List D} {vs : List V} (n : Nat), IsDs K φ G ds vs → IsDs K φ G (ds.take n) (vs.take n)
  | _, _, 0, h => .nil
  | [], _, n + 1, h => by rw [h.nil_inv]; exact .nil
  | d :: ds, _, n + 1, h => by
    obtain ⟨v, t, rfl, h1, h2⟩ := h.cons_inv
    exact .cons h1 (IsDs.take n h2)
theorem IsDs.ints : ∀ {ns : List Int} {vs : List V}, IsDs K φ G (ns.map D.int) vs → vs = ns.map V.int
  | [], _, h => h.nil_inv
  | n :: ns, _, h => by
    obtain ⟨v, t, rfl, h1, h2⟩ := IsDs.cons_inv (d := .int n) (ds := ns.map D.int) h
    simp only [IsD] at h1
    rw [h1, IsDs.ints h2] <;> rfl
theorem IsDs.of_ints : ∀ (ns : List Int), IsDs K φ G (ns.map D.int) (ns.map V.int)
  | [] => .nil
  | n :: ns => .cons (by simp only [IsD]) (IsDs.of_ints ns)
theorem IsDs.bls : ∀ {ns : List Bool} {vs : List V}, IsDs K φ G (ns.map D.bl) vs → vs = ns.map V.bl
  | [], _, h => h.nil_inv
  | n :: ns, _, h => by
    obtain ⟨v, t, rfl, h1, h2⟩ := IsDs.cons_inv (d := .bl n) (ds := ns.map D.bl) h
    simp only [IsD] at h1
    rw [h1, IsDs.bls h2] <;> rfl
theorem IsDs.strs : ∀ {ns : List Str} {vs : List V}, IsDs K φ G (ns.map D.str) vs → vs = ns.map V.str
  | [], _, h => h.nil_inv
  | n :: ns, _, h => by
    obtain ⟨v, t, rfl, h1, h2⟩ := IsDs.cons_inv (d := .str n) (ds := ns.map D.str) h
    simp only [IsD] at h1
    rw [h1, IsDs.strs h2] <;> rfl
theorem IsDs.of_strs : ∀ (ns : List Str), IsDs K φ G (ns.map D.str) (ns.map V.str)
  | [] => .nil
  | n :: ns => .cons (by simp only [IsD]) (IsDs.of_strs ns)
end

/-! ### the world: cells stand where φ says, apart from the stable part G of the heap H -/
def FsD (K : PySem.W.Frag) (φ : List Addr) (G : Hp) : List (Str × D) → List (Str × V) → Prop
  | [], vs => vs = []
  | (n, d) :: fs, vs => ∃ v r, vs = (n, v) :: r ∧ IsD K φ G d v ∧ FsD K φ G fs r
def KsD (K : PySem.W.Frag) (φ : List Addr) (G : Hp) : List (Key × D) → List (Key × V) → Prop
  | [], vs => vs = []
  | (n, d) :: fs, vs => ∃ v r, vs = (n, v) :: r ∧ IsD K φ G d v ∧ KsD K φ G fs r
section
variable {K : PySem.W.Frag} {φ φ' : List Addr} {G G' : Hp}
theorem FsD.mono (p : φ <+: φ') (e : Ex G G') : ∀ {fs : List (Str × D)} {vs : List (Str × V)}, FsD K φ G fs vs → FsD K φ' G' fs vs
  | [], _, h => h
  | (n, d) :: fs, _, ⟨v, r, h1, h2, h3⟩ => ⟨v, r, h1, h2.mono p e, FsD.mono p e h3⟩
theorem KsD.mono (p : φ <+: φ') (e : Ex G G') : ∀ {fs : List (Key × D)} {vs : List (Key × V)}, KsD K φ G fs vs → KsD K φ' G' fs vs
  | [], _, h => h
  | (n, d) :: fs, _, ⟨v, r, h1, h2, h3⟩ => ⟨v, r, h1, h2.mono p e, KsD.mono p e h3⟩
end
/-- where the classes stand; what else is known of the stable part -/
structure Cl where
  at_ : Nat → Addr
  inv : Hp → Prop
  mono : ∀ G G', Ex G G' → inv G → inv G'
  hd : Option (Nat × Addr)
def CellOk (K : PySem.W.Frag) (cl : Cl) (φ : List Addr) (G H : Hp) (a : Addr) : Cell → Prop
  | .lst ds => ∃ vs, H a = some (.lst vs) ∧ IsDs K φ G ds vs
  | .dK kvs => ∃ kws, H a = some (.dK kws) ∧ KsD K φ G kvs kws
  | .ins c fs => ∃ dx fv, H a = some (.ins (cl.at_ c) dx fv) ∧ FsD K φ G fs fv
  | .dead => True
structure Wd (K : PySem.W.Frag) (cl : Cl) (φ : List Addr) (S : Store) (G H : Hp) : Prop where
  len : φ.length = S.length
  sub : Ex G H
  nd : φ.Nodup
  tr : ∀ a ∈ φ, H a ≠ none
  ap : ∀ (i : Nat) (c : Cell) (a : Addr), S[i]? = some c → φ[i]? = some a → c ≠ .dead → G a = none
  ok : ∀ (i : Nat) (c : Cell) (a : Addr), S[i]? = some c → φ[i]? = some a → CellOk K cl φ G H a c
  iv : cl.inv G
structure Step (φ : List Addr) (G H : Hp) (φ' : List Addr) (G' H' : Hp) : Prop where
  pre : φ <+: φ'
  ex : Ex G G'
  gn : ∀ a, G' a ≠ none → G a ≠ none ∨ H a = none ∨ a ∈ φ
  keep : ∀ a o, H a = some o → a ∉ φ → H' a = some o
  new : ∀ a ∈ φ', a ∈ φ ∨ H a = none
theorem Step.refl (φ : List Addr) (G H : Hp) : Step φ G H φ G H := ⟨List.prefix_refl _, Ex.refl _, fun _ h => .inl h, fun _ _ h _ => h, fun _ h => .inl h⟩
theorem Step.trans {φ φ1 φ2 : List Addr} {G G1 G2 H H1 H2 : Hp} (a : Step φ G H φ1 G1 H1) (b : Step φ1 G1 H1 φ2 G2 H2) : Step φ G H φ2 G2 H2 where
  pre := a.pre.trans b.pre
  ex := a.ex.trans b.ex
  gn := fun x h => by
    rcases b.gn x h with h | h | h
    · exact a.gn x h
    · by_cases hx : x ∈ φ
      · exact .inr (.inr hx)
      · refine .inr (.inl ?_)
        cases q : H x with
        | none => rfl
        | some o => rw [a.keep x o q hx] at h; cases h
    · rcases a.new x h with h | h
      · exact .inr (.inr h)
      · exact .inr (.inl h)
  keep := fun x o h hx => b.keep x o (a.keep x o h hx) fun hm => by
    rcases a.new x hm with z | z
    · exact hx z
    · rw [h] at z; cases z
  new := fun x h => by
    rcases b.new x h with h | h
    · exact a.new x h
    · by_cases hx : x ∈ φ
      · exact .inl hx
      · refine .inr ?_
        cases q : H x with
        | none => rfl
        | some o => rw [a.keep x o q hx] at h; cases h
structure Sl (K : PySem.W.Frag) (cl : Cl) (φ : List Addr) (G : Hp) (g : Gm) (σ : St) : Prop where
  len : σ.length = g.length
  at_ : ∀ (i : Nat) (d : D), g[i]? = some (some d) → ∃ v, σ[i]? = some (some v) ∧ IsD K φ G d v
  hd : ∀ (i : Nat) (a : Addr), cl.hd = some (i, a) → g[i]? = some none → σ[i]? = some (some (.ref a))
theorem Sl.step {K : PySem.W.Frag} {cl : Cl} {φ φ' : List Addr} {G G' H H' : Hp} {g : Gm} {σ : St} (s : Sl K cl φ G g σ) (e : Step φ G H φ' G' H') : Sl K cl φ' G' g σ := ⟨s.len, fun i d h =>
  let ⟨v, h1, h2⟩ := s.at_ i d h
  ⟨v, h1, h2.mono e.pre e.ex⟩, s.hd⟩
theorem Sl.set {K : PySem.W.Frag} {cl : Cl} {φ : List Addr} {G : Hp} {g : Gm} {σ : St} {i : Nat} {d : D} {v : V} (s : Sl K cl φ G g σ) (h : IsD K φ G d v) : Sl K cl φ G (g.set i (some d)) (σ.set i (some v)) := ⟨by simp [s.len], fun j e hj => by
  by_cases q : i = j
  · subst q
    rw [List.getElem?_set] at hj
    simp at hj
    obtain ⟨hl, rfl⟩ := hj
    exact ⟨v, by rw [List.getElem?_set_self (by rw [s.len]; exact hl)], h⟩
  · rw [List.getElem?_set_ne q] at hj
    obtain ⟨w, h1, h2⟩ := s.at_ j e hj
    exact ⟨w, by rw [List.getElem?_set_ne q]; exact h1, h2⟩, fun j x hj hg => by
  by_cases q : i = j
  · subst q
    rw [List.getElem?_set] at hg
    simp at hg
  · rw [List.getElem?_set_ne q] at hg ⊢
    exact s.hd j x hj hg⟩
theorem Sl.wipe {K : PySem.W.Frag} {cl : Cl} (hh : cl.hd = none) {φ : List Addr} {G : Hp} {g : Gm} {σ : St} {i : Nat} (s : Sl K cl φ G g σ) : Sl K cl φ G (g.set i none) (σ.set i none) := ⟨by simp [s.len], fun j e hj => by
  by_cases q : i = j
  · subst q
    rw [List.getElem?_set] at hj
    simp at hj
  · rw [List.getElem?_set_ne q] at hj
    obtain ⟨w, h1, h2⟩ := s.at_ j e hj
    exact ⟨w, by rw [List.getElem?_set_ne q]; exact h1, h2⟩, fun j x hj hg => by rw [hh] at hj; cases hj⟩
/-- an exception: class c of the table, its fields -/
def ExcOk (K : PySem.W.Frag) (cl : Cl) (G : Hp) (c : Nat) (fs : List (Str × D)) (cls : Value) (dd : Option Addr) : Prop :=
  cls = .ref (cl.at_ c) ∧ ((fs = [] ∧ dd = none) ∨ ∃ dx fv, dd = some dx ∧ G dx = some (.xd fv) ∧ FsD K [] G fs fv)
def wE (K : PySem.W.Frag) (cl : Cl) (φ : List Addr) (G H : Hp) (S' : Store) (c : Nat) (fs : List (Str × D)) (cls : Value) (dd : Option Addr) (φ' : List Addr) (G' H' : Hp) : Prop :=
  Step φ G H φ' G' H' ∧ Wd K cl φ' S' G' H' ∧ ExcOk K cl G' c fs cls dd
def wOf (K : PySem.W.Frag) (cl : Cl) (φ : List Addr) (G H : Hp) (g : Gm) (S' : Store) (c : Nat) (fs : List (Str × D)) : WX := fun cls dd σ H' =>
  ∃ φ' G', wE K cl φ G H S' c fs cls dd φ' G' H' ∧ Sl K cl φ' G' g σ
theorem wOf.step {K : PySem.W.Frag} {cl : Cl} {φ φ1 : List Addr} {G H G1 H1 : Hp} {g : Gm} {S' : Store} {c : Nat} {fs : List (Str × D)} (e : Step φ G H φ1 G1 H1) {cls : Value} {dd : Option Addr} {σ : St} {H' : Hp} (h : wOf K cl φ1 G1 H1 g S' c fs cls dd σ H') :
    wOf K cl φ G H g S' c fs cls dd σ H' := by
  obtain ⟨φ', G', ⟨h1, h2, h3⟩, h4⟩ := h
  exact ⟨φ', G', ⟨e.trans h1, h2, h3⟩, h4⟩
/-- what is wished for an exception may be wished for by a weaker word -/
def TkOk (tk : WX → Prop) : Prop := ∀ W W' : WX, tk W → (∀ c d σ H, W' c d σ H → W c d σ H) → tk W'
theorem tkX (X : Cx) : TkOk (Takes X) := fun _ _ t h => t.imp h
theorem tk0 : TkOk (fun _ => False) := fun _ _ t _ => t

/-- the end of a reading that gives an α: r, S' are known; at every state that may be behind, Q -/
def Ko {α : Type} (K : PySem.W.Frag) (cl : Cl) (tk : WX → Prop) (φ : List Addr) (G H : Hp) (g : Gm) (r : R α) (S' : Store) (Q : List Addr → Hp → Hp → α → Prop) : Prop :=
  match r with
  | .ok a => ∀ φ' G' H', Step φ G H φ' G' H' → Wd K cl φ' S' G' H' → Q φ' G' H' a
  | .exc c fs => tk (wOf K cl φ G H g S' c fs)
theorem Ko.step {α : Type} {K : PySem.W.Frag} {cl : Cl} {tk : WX → Prop} (ht : TkOk tk) {φ φ1 : List Addr} {G H G1 H1 : Hp} {g : Gm} {r : R α} {S' : Store} {Q : List Addr → Hp → Hp → α → Prop} (e : Step φ G H φ1 G1 H1) (h : Ko K cl tk φ G H g r S' Q) :
    Ko K cl tk φ1 G1 H1 g r S' Q := by
  cases r with
  | ok a => exact fun φ' G' H' s w => h φ' G' H' (e.trans s) w
  | exc c fs => exact ht _ _ h fun _ _ _ _ q => q.step e
theorem Ko.imp {α : Type} {K : PySem.W.Frag} {cl : Cl} {tk : WX → Prop} {φ : List Addr} {G H : Hp} {g : Gm} {r : R α} {S' : Store} {Q Q' : List Addr → Hp → Hp → α → Prop} (h : Ko K cl tk φ G H g r S' Q)
    (i : ∀ φ' G' H' a, Step φ G H φ' G' H' → Wd K cl φ' S' G' H' → Q φ' G' H' a → Q' φ' G' H' a) : Ko K cl tk φ G H g r S' Q' := by
  cases r with
  | ok a => exact fun φ' G' H' s w => i _ _ _ _ s w (h φ' G' H' s w)
  | exc c fs => exact h

/-! ### readings by data -/
def tM (K : PySem.W.Frag) (cl : Cl) (tk : WX → Prop) (m : M D) : TE := fun σ H Q => ∃ φ G g S r S', Wd K cl φ S G H ∧ Sl K cl φ G g σ ∧ m g S = some (r, S') ∧ Ko K cl tk φ G H g r S' fun φ' G' H' d => ∀ v, IsD K φ' G' d v → Q v H'
def tMT (K : PySem.W.Frag) (cl : Cl) (tk : WX → Prop) (m : M Bool) : TT := fun σ H Q => ∃ φ G g S r S', Wd K cl φ S G H ∧ Sl K cl φ G g σ ∧ m g S = some (r, S') ∧ Ko K cl tk φ G H g r S' fun _ _ H' b => Q b H'
def tMA (K : PySem.W.Frag) (cl : Cl) (tk : WX → Prop) (m : M (List D)) : TA := fun σ H Q => ∃ φ G g S r S', Wd K cl φ S G H ∧ Sl K cl φ G g σ ∧ m g S = some (r, S') ∧ Ko K cl tk φ G H g r S' fun φ' G' H' ds => ∀ vs, IsDs K φ' G' ds vs → Q vs H'
/-- a statement's end -/
def Kos (K : PySem.W.Frag) (cl : Cl) (tk : WX → Prop) (φ : List Addr) (G H : Hp) (o : Out) (S' : Store) (D : Ends) : Prop :=
  match o with
  | .nx g => ∀ φ' G' H', Step φ G H φ' G' H' → Wd K cl φ' S' G' H' → ∀ σ, Sl K cl φ' G' g σ → D.nx σ H'
  | .rt d => ∀ φ' G' H', Step φ G H φ' G' H' → Wd K cl φ' S' G' H' → ∀ v, IsD K φ' G' d v → D.rt v H'
  | .bk g => ∀ φ' G' H', Step φ G H φ' G' H' → Wd K cl φ' S' G' H' → ∀ σ, Sl K cl φ' G' g σ → D.bk σ H'
  | .ct g => ∀ φ' G' H', Step φ G H φ' G' H' → Wd K cl φ' S' G' H' → ∀ σ, Sl K cl φ' G' g σ → D.ct σ H'
  | .ex g c fs => tk (wOf K cl φ G H g S' c fs)
theorem Kos.step {K : PySem.W.Frag} {cl : Cl} {tk : WX → Prop} (ht : TkOk tk) {φ φ1 : List Addr} {G H G1 H1 : Hp} {o : Out} {S' : Store} {D : Ends} (e : Step φ G H φ1 G1 H1) (h : Kos K cl tk φ G H o S' D) : Kos K cl tk φ1 G1 H1 o S' D := by
  cases o with
  | nx g => exact fun φ' G' H' s w => h φ' G' H' (e.trans s) w
  | rt g => exact fun φ' G' H' s w => h φ' G' H' (e.trans s) w
  | bk g => exact fun φ' G' H' s w => h φ' G' H' (e.trans s) w
  | ct g => exact fun φ' G' H' s w => h φ' G' H' (e.trans s) w
  | ex g2 c fs => exact ht _ _ h fun _ _ _ _ q => q.step e
def tMS (K : PySem.W.Frag) (cl : Cl) (tk : WX → Prop) (m : MS) : TS := fun D σ H => ∃ φ G g S o S', Wd K cl φ S G H ∧ Sl K cl φ G g σ ∧ m g S = some (o, S') ∧ Kos K cl tk φ G H o S' D
end Mi
namespace Mi
open PySem L2

/-! ### what may be wished -/
class Tk (X : Cx) (tk : WX → Prop) : Prop where
  ok : TkOk tk
  tk : ∀ W, tk W → Takes X W
instance (X : Cx) : Tk X (Takes X) := ⟨tkX X, fun _ h => h⟩
instance (X : Cx) : Tk X (fun _ => False) := ⟨tk0, fun _ h => h.elim⟩

abbrev RE (X : Cx) (cl : Cl) (tk : WX → Prop) (a : Expr) (m : M D) : Prop := PE X a (tM X.K cl tk m)
abbrev RT (X : Cx) (cl : Cl) (tk : WX → Prop) (a : Expr) (m : M Bool) : Prop := PT X a (tMT X.K cl tk m)
abbrev RW (X : Cx) (cl : Cl) (tk : WX → Prop) (a : Expr) (m : M Bool) : Prop := PW X a (tMT X.K cl tk m)
abbrev RA (X : Cx) (cl : Cl) (tk : WX → Prop) (a : List Expr) (m : M (List D)) : Prop := PA X a (tMA X.K cl tk m)
abbrev RS (X : Cx) (cl : Cl) (tk : WX → Prop) (a : Stmt) (m : MS) : Prop := PS X a (tMS X.K cl tk m)
abbrev RSs (X : Cx) (cl : Cl) (tk : WX → Prop) (a : List Stmt) (m : MS) : Prop := PSs X a (tMS X.K cl tk m)

theorem pe_imp {X : Cx} {a : Expr} {t t' : TE} (h : PE X a t) (i : ∀ σ H Q, t' σ H Q → t σ H Q) : PE X a t' := ⟨fun pins s σ H Q I q => h.run pins s σ H Q I (i σ H Q q)⟩
theorem pt_imp {X : Cx} {a : Expr} {t t' : TT} (h : PT X a t) (i : ∀ σ H Q, t' σ H Q → t σ H Q) : PT X a t' := ⟨fun pins s σ H Q I q => h.run pins s σ H Q I (i σ H Q q)⟩
theorem pw_imp {X : Cx} {a : Expr} {t t' : TT} (h : PW X a t) (i : ∀ σ H Q, t' σ H Q → t σ H Q) : PW X a t' := ⟨fun wh pins s σ H Q I q => h.run wh pins s σ H Q I (i σ H Q q)⟩
theorem pa_imp {X : Cx} {a : List Expr} {t t' : TA} (h : PA X a t) (i : ∀ σ H Q, t' σ H Q → t σ H Q) : PA X a t' := ⟨fun p pins s σ H Q I q => h.run p pins s σ H Q I (i σ H Q q)⟩
theorem ps_imp {X : Cx} {a : Stmt} {t t' : TS} (h : PS X a t) (i : ∀ D σ H, t' D σ H → t D σ H) : PS X a t' := ⟨fun pins s σ H D I q => h.run pins s σ H D I (i D σ H q)⟩
theorem pss_imp {X : Cx} {a : List Stmt} {t t' : TS} (h : PSs X a t) (i : ∀ D σ H, t' D σ H → t D σ H) : PSs X a t' := ⟨fun pins s σ H D I q => h.run pins s σ H D I (i D σ H q)⟩
theorem pi_imp {X : Cx} {tg a : Expr} {t t' : TI} (h : PI X tg a t) (i : ∀ σ H R, t' σ H R → t σ H R) : PI X tg a t' := ⟨fun pins s σ H Q I q => h.run pins s σ H Q I (i σ H Q q)⟩

/-! ### new stable objects -/
section
variable {K : PySem.W.Frag} {cl : Cl} {φ : List Addr} {S : Store} {G H : Hp}
theorem Ex.new {H : Hp} {p : Addr} {o : HO} (h : H p = none) : Ex H (upd H p o) := fun a u e => by
  rw [upd_ne (ne_of_none e h)]
  exact e
theorem Wd.gnone (w : Wd K cl φ S G H) {p : Addr} (hp : H p = none) : G p = none := by
  cases q : G p with
  | none => rfl
  | some o => rw [w.sub p o q] at hp; cases hp
theorem fresh_step (w : Wd K cl φ S G H) {p : Addr} (hp : H p = none) (o : HO) : Step φ G H φ (upd G p o) (upd H p o) where
  pre := List.prefix_refl _
  ex := Ex.new (w.gnone hp)
  gn := fun a h => by
    by_cases e : a = p
    · subst e; exact .inr (.inl hp)
    · rw [upd_ne e] at h; exact .inl h
  keep := fun a u h _ => Ex.new hp a u h
  new := fun a h => .inl h
theorem CellOk.mono {φ' : List Addr} {G' H' : Hp} {a : Addr} {c : Cell} (p : φ <+: φ') (e : Ex G G') (h : ∀ o, H a = some o → H' a = some o) (k : CellOk K cl φ G H a c) : CellOk K cl φ' G' H' a c := by
  cases c with
  | lst ds => obtain ⟨vs, h1, h2⟩ := k; exact ⟨vs, h _ h1, h2.mono p e⟩
  | dK ds => obtain ⟨vs, h1, h2⟩ := k; exact ⟨vs, h _ h1, h2.mono p e⟩
  | ins c fs => obtain ⟨dx, vs, h1, h2⟩ := k; exact ⟨dx, vs, h _ h1, h2.mono p e⟩
  | dead => trivial
theorem fresh_wd (w : Wd K cl φ S G H) {p : Addr} (hp : H p = none) (o : HO) : Wd K cl φ S (upd G p o) (upd H p o) where
  len := w.len
  sub := fun a u h => by
    by_cases e : a = p
    · subst e; rw [upd_same] at h ⊢; exact h
    · rw [upd_ne e] at h ⊢; exact w.sub a u h
  nd := w.nd
  tr := fun a h => by
    by_cases e : a = p
    · subst e; rw [upd_same]; simp
    · rw [upd_ne e]; exact w.tr a h
  ap := fun i c a h1 h2 h3 => by
    by_cases e : a = p
    · subst e; exact absurd hp (w.tr a (List.mem_of_getElem? h2))
    · rw [upd_ne e]; exact w.ap i c a h1 h2 h3
  ok := fun i c a h1 h2 => (w.ok i c a h1 h2).mono (List.prefix_refl _) (Ex.new (w.gnone hp)) (Ex.new hp a)
  iv := cl.mono _ _ (Ex.new (w.gnone hp)) w.iv
theorem new_lst (w : Wd K cl φ S G H) {ds : List D} {vs : List V} (h : IsDs K φ G ds vs) {Q : VK} (k : ∀ φ' G' H', Step φ G H φ' G' H' → Wd K cl φ' S G' H' → ∀ v, IsD K φ' G' (.lst ds) v → Q v H') : ∀ p, H p = none → Q (.ref p) (upd H p (.lst vs)) := fun p hp => by
  refine k _ _ _ (fresh_step w hp _) (fresh_wd w hp _) _ ?_
  simp only [IsD]
  exact ⟨p, vs, rfl, upd_same, h.mono (List.prefix_refl _) (Ex.new (w.gnone hp))⟩
theorem new_tup (w : Wd K cl φ S G H) {ds : List D} {vs : List V} (h : IsDs K φ G ds vs) {Q : VK} (k : ∀ φ' G' H', Step φ G H φ' G' H' → Wd K cl φ' S G' H' → ∀ v, IsD K φ' G' (.tup ds) v → Q v H') : ∀ p, H p = none → Q (.ref p) (upd H p (.tup vs)) := fun p hp => by
  refine k _ _ _ (fresh_step w hp _) (fresh_wd w hp _) _ ?_
  simp only [IsD]
  exact ⟨p, vs, rfl, .inl (.inl upd_same), h.mono (List.prefix_refl _) (Ex.new (w.gnone hp))⟩
end

/-! ### binding -/
def mB {α β : Type} (m : M α) (f : α → M β) : M β := fun g S =>
  match m g S with
  | some (.ok a, S1) => f a g S1
  | some (.exc c fs, S1) => some (.exc c fs, S1)
  | none => none
def mP {α : Type} (a : α) : M α := fun _ S => some (.ok a, S)
def mL {α : Type} (f : Store → Option α) : M α := fun _ S => (f S).map fun a => (.ok a, S)
def mOp1 (f : Store → D → Option D) (m : M D) : M D := mB m fun d => mL fun S => f S d
def mOp2 (f : Store → D → D → Option D) (m1 m2 : M D) : M D := mB m1 fun d => mB m2 fun e => mL fun S => f S d e
def mVar (i : Nat) : M D := fun g S => match g[i]? with
  | some (some d) => some (.ok d, S)
  | _ => none
theorem mB_ok {α β : Type} {m : M α} {f : α → M β} {g : Gm} {S S' : Store} {r : R β} (h : mB m f g S = some (r, S')) :
    (∃ a S1, m g S = some (.ok a, S1) ∧ f a g S1 = some (r, S')) ∨ (∃ c fs, m g S = some (.exc c fs, S') ∧ r = .exc c fs) := by
  unfold mB at h
  split at h
  · exact .inl ⟨_, _, by assumption, h⟩
  · cases h; exact .inr ⟨_, _, by assumption, rfl⟩
  · cases h
theorem mL_ok {α : Type} {f : Store → Option α} {g : Gm} {S S' : Store} {r : R α} (h : mL f g S = some (r, S')) : ∃ a, f S = some a ∧ r = .ok a ∧ S' = S := by
  unfold mL at h
  cases e : f S with
  | none => rw [e] at h; cases h
  | some a => rw [e] at h; cases h; exact ⟨a, rfl, rfl, rfl⟩

section
variable {X : Cx} {cl : Cl} {tk : WX → Prop} [T : Tk X tk]
variable {K : PySem.W.Frag}

/-- a part's reading, then what follows it -/
theorem tM_bind {m : M D} {β : Type} {f : D → M β} {σ : St} {φ : List Addr} {G H : Hp} {g : Gm} {S S' : Store} {r : R β} {Qβ : List Addr → Hp → Hp → β → Prop} {Q : VK} (ht : TkOk tk)
    (w : Wd K cl φ S G H) (s : Sl K cl φ G g σ) (e : mB m f g S = some (r, S')) (k : Ko K cl tk φ G H g r S' Qβ)
    (h : ∀ d φ1 G1 H1 S1 v, Step φ G H φ1 G1 H1 → Wd K cl φ1 S1 G1 H1 → Sl K cl φ1 G1 g σ → IsD K φ1 G1 d v → f d g S1 = some (r, S') → Ko K cl tk φ1 G1 H1 g r S' Qβ → Q v H1) : tM K cl tk m σ H Q := by
  rcases mB_ok e with ⟨d, S1, e1, e2⟩ | ⟨c, fs, e1, rfl⟩
  · exact ⟨φ, G, g, S, _, _, w, s, e1, fun φ1 G1 H1 st w1 v hv => h d φ1 G1 H1 S1 v st w1 (s.step st) hv e2 (k.step ht st)⟩
  · exact ⟨φ, G, g, S, _, _, w, s, e1, k⟩
theorem tMT_bind {m : M Bool} {β : Type} {f : Bool → M β} {σ : St} {φ : List Addr} {G H : Hp} {g : Gm} {S S' : Store} {r : R β} {Qβ : List Addr → Hp → Hp → β → Prop} {Q : Bool → Hp → Prop} (ht : TkOk tk)
    (w : Wd K cl φ S G H) (s : Sl K cl φ G g σ) (e : mB m f g S = some (r, S')) (k : Ko K cl tk φ G H g r S' Qβ)
    (h : ∀ d φ1 G1 H1 S1, Step φ G H φ1 G1 H1 → Wd K cl φ1 S1 G1 H1 → Sl K cl φ1 G1 g σ → f d g S1 = some (r, S') → Ko K cl tk φ1 G1 H1 g r S' Qβ → Q d H1) : tMT K cl tk m σ H Q := by
  rcases mB_ok e with ⟨d, S1, e1, e2⟩ | ⟨c, fs, e1, rfl⟩
  · exact ⟨φ, G, g, S, _, _, w, s, e1, fun φ1 G1 H1 st w1 => h d φ1 G1 H1 S1 st w1 (s.step st) e2 (k.step ht st)⟩
  · exact ⟨φ, G, g, S, _, _, w, s, e1, k⟩
theorem tMA_bind {m : M (List D)} {β : Type} {f : List D → M β} {σ : St} {φ : List Addr} {G H : Hp} {g : Gm} {S S' : Store} {r : R β} {Qβ : List Addr → Hp → Hp → β → Prop} {Q : List V → Hp → Prop} (ht : TkOk tk)
    (w : Wd K cl φ S G H) (s : Sl K cl φ G g σ) (e : mB m f g S = some (r, S')) (k : Ko K cl tk φ G H g r S' Qβ)
    (h : ∀ d φ1 G1 H1 S1 v, Step φ G H φ1 G1 H1 → Wd K cl φ1 S1 G1 H1 → Sl K cl φ1 G1 g σ → IsDs K φ1 G1 d v → f d g S1 = some (r, S') → Ko K cl tk φ1 G1 H1 g r S' Qβ → Q v H1) : tMA K cl tk m σ H Q := by
  rcases mB_ok e with ⟨d, S1, e1, e2⟩ | ⟨c, fs, e1, rfl⟩
  · exact ⟨φ, G, g, S, _, _, w, s, e1, fun φ1 G1 H1 st w1 v hv => h d φ1 G1 H1 S1 v st w1 (s.step st) hv e2 (k.step ht st)⟩
  · exact ⟨φ, G, g, S, _, _, w, s, e1, k⟩
/-- a value that is there at once -/
theorem Ko.now {α : Type} {φ : List Addr} {G H : Hp} {g : Gm} {a : α} {S : Store} {Q : List Addr → Hp → Hp → α → Prop} (k : Ko K cl tk φ G H g (.ok a) S Q) (w : Wd K cl φ S G H) : Q φ G H a := k φ G H (Step.refl _ _ _) w

/-! ### names, constants -/
theorem re_var {i : Nat} {x : Str} {pos : Pos} (hN : X.N[i]? = some x := by rfl) (hv : Vis X.env.scope x := by first | exact Or.inl rfl | exact Or.inr (Or.inl rfl) | exact Or.inr (Or.inr rfl)) (hd : (x == ("__debug__" : Str)) = false := by decide)
    (hcd : (x == ("__classdict__" : Str)) = false := by decide) : RE X cl tk (.Name x pos) (mVar i) := by
  refine pe_imp (pe_var hN hv hd hcd) fun σ H Q ⟨φ, G, g, S, r, S', w, s, e, k⟩ => ?_
  unfold mVar at e
  split at e
  · cases e
    obtain ⟨v, h1, h2⟩ := s.at_ _ _ (by assumption)
    exact ⟨v, h1, k.now w v h2⟩
  · cases e
theorem re_c {a : Expr} {v : V} {d : D} (h : PE X a (tC v)) (hd : ∀ φ G, IsD X.K φ G d v) : RE X cl tk a (mP d) := by
  refine pe_imp h fun σ H Q ⟨φ, G, g, S, r, S', w, s, e, k⟩ => ?_
  cases e
  exact k.now w v (hd φ G)
theorem re_int {i j pos} : RE X cl tk (.Constant (.int i) j pos) (mP (.int i)) := re_c pe_int fun _ _ => by simp only [IsD]
theorem re_bl {i j pos} : RE X cl tk (.Constant (.bool i) j pos) (mP (.bl i)) := re_c pe_bl fun _ _ => by simp only [IsD]
theorem re_str {i j pos} : RE X cl tk (.Constant (.str i) j pos) (mP (.str i)) := re_c pe_str fun _ _ => by simp only [IsD]
theorem re_non {j pos} : RE X cl tk (.Constant .none j pos) (mP .non) := re_c pe_non fun _ _ => by simp only [IsD]
theorem re_glob {x : Str} {v : V} {u : Value} {d : D} {pos : Pos} (hm : X.mg x = some u) (r : RelV v u) (hd : ∀ φ G, IsD X.K φ G d v) (hg : Gl X x := by rfl) (hdb : (x == ("__debug__" : Str)) = false := by decide) : RE X cl tk (.Name x pos) (mP d) := re_c (pe_glob hg hm r hdb) hd

/-! ### operators by values -/
/-- what r asks is given by f -/
def OpS (K : PySem.W.Frag) (cl : Cl) (r : R2) (f : Store → D → D → Option D) : Prop :=
  ∀ (φ : List Addr) (S : Store) (G H : Hp) (x y : V) (d e z : D) (Q : VK), Wd K cl φ S G H → IsD K φ G d x → IsD K φ G e y → f S d e = some z →
    (∀ φ' G' H', Step φ G H φ' G' H' → Wd K cl φ' S G' H' → ∀ v, IsD K φ' G' z v → Q v H') → r x y H Q
def UnS (K : PySem.W.Frag) (cl : Cl) (r : V → Hp → VK → Prop) (f : Store → D → Option D) : Prop :=
  ∀ (φ : List Addr) (S : Store) (G H : Hp) (x : V) (d z : D) (Q : VK), Wd K cl φ S G H → IsD K φ G d x → f S d = some z →
    (∀ φ' G' H', Step φ G H φ' G' H' → Wd K cl φ' S G' H' → ∀ v, IsD K φ' G' z v → Q v H') → r x H Q
def CallS (K : PySem.W.Frag) (cl : Cl) (r : List V → Hp → VK → Prop) (f : Store → List D → Option D) : Prop :=
  ∀ (φ : List Addr) (S : Store) (G H : Hp) (xs : List V) (ds : List D) (z : D) (Q : VK), Wd K cl φ S G H → IsDs K φ G ds xs → f S ds = some z →
    (∀ φ' G' H', Step φ G H φ' G' H' → Wd K cl φ' S G' H' → ∀ v, IsD K φ' G' z v → Q v H') → r xs H Q
theorem tOp_of {r : R2} {f : Store → D → D → Option D} {ma mb : M D} (hs : OpS K cl r f) (ht : TkOk tk) {σ : St} {H : Hp} {Q : VK} (h : tM K cl tk (mOp2 f ma mb) σ H Q) : tOp r (tM K cl tk ma) (tM K cl tk mb) σ H Q := by
  obtain ⟨φ, G, g, S, r, S', w, s, e, k⟩ := h
  refine tM_bind ht w s e k fun d φ1 G1 H1 S1 x st1 w1 s1 hx e1 k1 => ?_
  refine tM_bind ht w1 s1 e1 k1 fun d2 φ2 G2 H2 S2 y st2 w2 s2 hy e2 k2 => ?_
  obtain ⟨z, ez, rfl, rfl⟩ := mL_ok e2
  exact hs _ _ _ _ _ _ _ _ _ _ w2 (hx.mono st2.pre st2.ex) hy ez k2
theorem re_op2 {op : Operator} {r : R2} {f : Store → D → D → Option D} {a b : Expr} {pos : Pos} {ma mb : M D} (ho : OpR X (binaryOp op) r) (hs : OpS X.K cl r f) (ha : RE X cl tk a ma) (hb : RE X cl tk b mb) : RE X cl tk (.BinOp a op b pos) (mOp2 f ma mb) :=
  pe_imp (pe_op ho ha hb) fun _ _ _ h => tOp_of hs T.ok h
theorem re_op1 {op : UnaryOp} {r : V → Hp → VK → Prop} {f : Store → D → Option D} {a : Expr} {pos : Pos} {ma : M D} (ho : UnR X (unaryOp op) r) (hs : UnS X.K cl r f) (ha : RE X cl tk a ma) : RE X cl tk (.UnaryOp op a pos) (mOp1 f ma) := by
  refine pe_imp (pe_un ho ha) fun σ H Q ⟨φ, G, g, S, r, S', w, s, e, k⟩ => ?_
  refine tM_bind T.ok w s e k fun d φ1 G1 H1 S1 x st1 w1 s1 hx e1 k1 => ?_
  obtain ⟨z, ez, rfl, rfl⟩ := mL_ok e1
  exact hs _ _ _ _ _ _ _ _ w1 hx ez k1
theorem re_cmp {op : CmpOp} {r : R2} {f : Store → D → D → Option D} {a b : Expr} {pos : Pos} {ma mb : M D} (ho : OpR X (compareOp op) r) (hs : OpS X.K cl r f) (ha : RE X cl tk a ma) (hb : RE X cl tk b mb) (hm : behindInMarks op b = false := by first | exact nomark _ | rfl) :
    RE X cl tk (.Compare a [op] [b] pos) (mOp2 f ma mb) := pe_imp (pe_cmpR ho ha hb hm) fun _ _ _ h => tOp_of hs T.ok h
/-- a bool as a test -/
def mT (m : M D) : M Bool := mB m fun d => mL fun _ => match d with
  | .bl b => some b
  | _ => none
theorem mT_ok {m : M D} {g : Gm} {S S' : Store} {r : R Bool} (h : mT m g S = some (r, S')) : (∃ b, m g S = some (.ok (.bl b), S') ∧ r = .ok b) ∨ (∃ c fs, m g S = some (.exc c fs, S') ∧ r = .exc c fs) := by
  rcases mB_ok h with ⟨d, S1, e1, e2⟩ | ⟨c, fs, e1, rfl⟩
  · obtain ⟨z, ez, rfl, rfl⟩ := mL_ok e2
    cases d <;> first | (cases ez; exact .inl ⟨_, e1, rfl⟩) | cases ez
  · exact .inr ⟨c, fs, e1, rfl⟩
theorem tTest_of {m : M D} {t : TE} {σ : St} {H : Hp} {Q : Bool → Hp → Prop} (h : tMT K cl tk (mT m) σ H Q) (i : ∀ Q, tM K cl tk m σ H Q → t σ H Q) : tTest t σ H Q := by
  obtain ⟨φ, G, g, S, r, S', w, s, e, k⟩ := h
  refine i _ ?_
  rcases mT_ok e with ⟨b, e1, rfl⟩ | ⟨c, fs, e1, rfl⟩
  · refine ⟨φ, G, g, S, _, _, w, s, e1, fun φ1 G1 H1 st w1 v hv => ?_⟩
    simp only [IsD] at hv
    exact ⟨b, hv, k φ1 G1 H1 st w1⟩
  · exact ⟨φ, G, g, S, _, _, w, s, e1, k⟩
theorem rt_cmp {op : CmpOp} {r : R2} {f : Store → D → D → Option D} {a b : Expr} {pos : Pos} {ma mb : M D} (ho : OpR X (compareOp op) r) (hs : OpS X.K cl r f) (ha : RE X cl tk a ma) (hb : RE X cl tk b mb) (hm : behindInMarks op b = false := by first | exact nomark _ | rfl) :
    RT X cl tk (.Compare a [op] [b] pos) (mT (mOp2 f ma mb)) := pt_imp (pt_cmpR ho ha hb hm) fun _ _ _ h => tTest_of h fun _ q => tOp_of hs T.ok q
/-- an expression that gives a bool, as a test -/
theorem rt_val {e : Expr} {m : M D} (h : RE X cl tk e m) (he : ∀ whole, isTrue e X.env whole = (do let v ← whole; standAt e.pos; holding [v] (truthy v)) := by intro _; rfl) : RT X cl tk e (mT m) :=
  pt_imp (pt_val h he) fun _ _ _ h => tTest_of h fun _ q => q
/-- a <= b < c -/
def mCh (f f' : Store → D → D → Option D) (ma mb mc : M D) : M D := mB ma fun x => mB mb fun y => mB (mL fun S => f S x y) fun z => match z with
  | .bl true => mB mc fun u => mL fun S => f' S y u
  | .bl false => mP (.bl false)
  | _ => fun _ _ => none
/-- a two-place relation that gives a bool and leaves all as it is -/
def RelS (K : PySem.W.Frag) (cl : Cl) (r : R2) (f : Store → D → D → Option D) : Prop :=
  ∀ (φ : List Addr) (S : Store) (G H : Hp) (x y : V) (d e z : D) (Q : VK), Wd K cl φ S G H → IsD K φ G d x → IsD K φ G e y → f S d e = some z → (∃ b, z = .bl b ∧ (Q (.bl b) H → r x y H Q))
theorem RelS.op {r : R2} {f : Store → D → D → Option D} (h : RelS K cl r f) : OpS K cl r f := fun φ S G H x y d e z Q w h1 h2 h3 k => by
  obtain ⟨b, rfl, i⟩ := h φ S G H x y d e z Q w h1 h2 h3
  exact i (k φ G H (Step.refl _ _ _) w _ (by simp only [IsD]))
theorem tChain_of {r r' : R2} {f f' : Store → D → D → Option D} {ma mb mc : M D} (hs : RelS K cl r f) (hs' : RelS K cl r' f') (ht : TkOk tk) {σ : St} {H : Hp} {Q : VK} (h : tM K cl tk (mCh f f' ma mb mc) σ H Q) :
    tChain r r' (tM K cl tk ma) (tM K cl tk mb) (tM K cl tk mc) σ H Q := by
  obtain ⟨φ, G, g, S, r, S', w, s, e, k⟩ := h
  refine tM_bind ht w s e k fun d φ1 G1 H1 S1 x st1 w1 s1 hx e1 k1 => ?_
  refine tM_bind ht w1 s1 e1 k1 fun d2 φ2 G2 H2 S2 y st2 w2 s2 hy e2 k2 => ?_
  rcases mB_ok e2 with ⟨z, S3, e3, e4⟩ | ⟨c, fs, e3, rfl⟩
  · obtain ⟨z', ez, e5, rfl⟩ := mL_ok e3
    cases e5
    obtain ⟨b, rfl, i⟩ := hs _ _ _ _ _ _ _ _ _ _ w2 (hx.mono st2.pre st2.ex) hy ez
    refine i ⟨b, rfl, ?_⟩
    cases b with
    | true =>
      rw [if_pos rfl]
      refine tM_bind ht w2 s2 e4 k2 fun d3 φ3 G3 H3 S3 u st3 w3 s3 hu e6 k3 => ?_
      obtain ⟨z, ez', rfl, rfl⟩ := mL_ok e6
      exact hs'.op _ _ _ _ _ _ _ _ _ _ w3 (hy.mono st3.pre st3.ex) hu ez' k3
    | false =>
      rw [if_neg Bool.false_ne_true]
      cases e4
      exact k2.now w2 _ (by simp only [IsD])
  · obtain ⟨_, _, q, _⟩ := mL_ok e3
    cases q
theorem re_chain {op op' : CmpOp} {r r' : R2} {f f' : Store → D → D → Option D} {a b c : Expr} {pos : Pos} {ma mb mc : M D} (ho : OpR X (compareOp op) r) (ho' : OpR X (compareOp op') r') (hs : RelS X.K cl r f) (hs' : RelS X.K cl r' f')
    (ha : RE X cl tk a ma) (hb : RE X cl tk b mb) (hc : RE X cl tk c mc) (hm : lastMarks [op, op'] [b, c] = false := by with_unfolding_all rfl) :
    RE X cl tk (.Compare a [op, op'] [b, c] pos) (mCh f f' ma mb mc) := by
  refine pe_imp (pe_chain ho ho' ha hb hc hm) fun _ _ _ h => tChain_of hs hs' T.ok h
theorem rt_chain {op op' : CmpOp} {r r' : R2} {f f' : Store → D → D → Option D} {a b c : Expr} {pos : Pos} {ma mb mc : M D} (ho : OpR X (compareOp op) r) (ho' : OpR X (compareOp op') r') (hs : RelS X.K cl r f) (hs' : RelS X.K cl r' f')
    (ha : RE X cl tk a ma) (hb : RE X cl tk b mb) (hc : RE X cl tk c mc) (hm : lastMarks [op, op'] [b, c] = false := by with_unfolding_all rfl) :
    RT X cl tk (.Compare a [op, op'] [b, c] pos) (mT (mCh f f' ma mb mc)) :=
  pt_imp (pt_chain ho ho' ha hb hc hm) fun _ _ _ h => tTest_of h fun _ q => tChain_of hs hs' T.ok q
end
end Mi
namespace Mi
open PySem L2
section
variable {X : Cx} {cl : Cl} {tk : WX → Prop} [T : Tk X tk]
variable {K : PySem.W.Frag}

/-! ### and, or, not, if as an expression -/
def mAndT (m n : M Bool) : M Bool := mB m fun b => if b = true then n else mP false
def mOrT (m n : M Bool) : M Bool := mB m fun b => if b = true then mP true else n
def mNotT (m : M Bool) : M Bool := mB m fun b => mP (!b)
theorem rw_and1 {a : Expr} {pos : Pos} {m : M Bool} (ha : RT X cl tk a m) : RW X cl tk (.BoolOp .And [a] pos) m := pw_and1 ha
theorem rw_or1 {a : Expr} {pos : Pos} {m : M Bool} (ha : RT X cl tk a m) : RW X cl tk (.BoolOp .Or [a] pos) m := pw_or1 ha
theorem rw_and {a b : Expr} {rest : List Expr} {pos : Pos} {m n : M Bool} (ha : RT X cl tk a m) (hb : RW X cl tk (.BoolOp .And (b :: rest) pos) n) : RW X cl tk (.BoolOp .And (a :: b :: rest) pos) (mAndT m n) := by
  refine pw_imp (pw_and ha hb) fun σ H Q ⟨φ, G, g, S, r, S', w, s, e, k⟩ => ?_
  refine tMT_bind T.ok w s e k fun d φ1 G1 H1 S1 st1 w1 s1 e1 k1 => ?_
  cases d with
  | true =>
    rw [if_pos rfl] at e1 ⊢
    exact ⟨_, _, _, _, _, _, w1, s1, e1, k1⟩
  | false =>
    rw [if_neg Bool.false_ne_true] at e1 ⊢
    cases e1
    exact k1.now w1
theorem rw_or {a b : Expr} {rest : List Expr} {pos : Pos} {m n : M Bool} (ha : RT X cl tk a m) (hb : RW X cl tk (.BoolOp .Or (b :: rest) pos) n) : RW X cl tk (.BoolOp .Or (a :: b :: rest) pos) (mOrT m n) := by
  refine pw_imp (pw_or ha hb) fun σ H Q ⟨φ, G, g, S, r, S', w, s, e, k⟩ => ?_
  refine tMT_bind T.ok w s e k fun d φ1 G1 H1 S1 st1 w1 s1 e1 k1 => ?_
  cases d with
  | true =>
    rw [if_pos rfl] at e1 ⊢
    cases e1
    exact k1.now w1
  | false =>
    rw [if_neg Bool.false_ne_true] at e1 ⊢
    exact ⟨_, _, _, _, _, _, w1, s1, e1, k1⟩
theorem rt_w {a : Expr} {m : M Bool} (h : RW X cl tk a m) : RT X cl tk a m := h.pt
theorem rt_not {a : Expr} {pos : Pos} {m : M Bool} (ha : RT X cl tk a m) : RT X cl tk (.UnaryOp .Not a pos) (mNotT m) := by
  refine pt_imp (pt_not ha) fun σ H Q ⟨φ, G, g, S, r, S', w, s, e, k⟩ => ?_
  refine tMT_bind T.ok w s e k fun d φ1 G1 H1 S1 st1 w1 s1 e1 k1 => ?_
  cases e1
  exact k1.now w1
/-- as values (bools) -/
def mBl (m : M D) (f : Bool → M D) : M D := mB m fun d => match d with
  | .bl b => f b
  | _ => fun _ _ => none
def mAndV (m n : M D) : M D := mBl m fun b => if b = true then n else mP (.bl false)
def mOrV (m n : M D) : M D := mBl m fun b => if b = true then mP (.bl true) else n
def mNotV (m : M D) : M D := mBl m fun b => mP (.bl (!b))
theorem re_one {op} {a : Expr} {pos : Pos} {m : M D} (h : RE X cl tk a m) : RE X cl tk (.BoolOp op [a] pos) m := pe_one h
theorem tM_bl {m : M D} {f : Bool → M D} {σ : St} {φ : List Addr} {G H : Hp} {g : Gm} {S S' : Store} {r : R D} {Qβ : List Addr → Hp → Hp → D → Prop} {Q : VK} (ht : TkOk tk)
    (w : Wd K cl φ S G H) (s : Sl K cl φ G g σ) (e : mBl m f g S = some (r, S')) (k : Ko K cl tk φ G H g r S' Qβ)
    (h : ∀ b φ1 G1 H1 S1, Step φ G H φ1 G1 H1 → Wd K cl φ1 S1 G1 H1 → Sl K cl φ1 G1 g σ → f b g S1 = some (r, S') → Ko K cl tk φ1 G1 H1 g r S' Qβ → Q (.bl b) H1) : tM K cl tk m σ H Q :=
  tM_bind ht w s e k fun d φ1 G1 H1 S1 v st1 w1 s1 hv e1 k1 => by
    cases d <;> first | (cases e1; done) | (simp only [IsD] at hv; subst hv; exact h _ _ _ _ _ st1 w1 s1 e1 k1)
theorem re_and {a b : Expr} {rest : List Expr} {pos : Pos} {m n : M D} (ha : RE X cl tk a m) (hb : RE X cl tk (.BoolOp .And (b :: rest) pos) n) : RE X cl tk (.BoolOp .And (a :: b :: rest) pos) (mAndV m n) := by
  refine pe_imp (pe_and ha hb) fun σ H Q ⟨φ, G, g, S, r, S', w, s, e, k⟩ => ?_
  refine tM_bl T.ok w s e k fun d φ1 G1 H1 S1 st1 w1 s1 e1 k1 => ⟨d, rfl, ?_⟩
  cases d with
  | true =>
    rw [if_pos rfl] at e1 ⊢
    exact ⟨_, _, _, _, _, _, w1, s1, e1, k1⟩
  | false =>
    rw [if_neg Bool.false_ne_true] at e1 ⊢
    cases e1
    exact k1.now w1 _ (by simp only [IsD])
theorem re_or {a b : Expr} {rest : List Expr} {pos : Pos} {m n : M D} (ha : RE X cl tk a m) (hb : RE X cl tk (.BoolOp .Or (b :: rest) pos) n) : RE X cl tk (.BoolOp .Or (a :: b :: rest) pos) (mOrV m n) := by
  refine pe_imp (pe_or ha hb) fun σ H Q ⟨φ, G, g, S, r, S', w, s, e, k⟩ => ?_
  refine tM_bl T.ok w s e k fun d φ1 G1 H1 S1 st1 w1 s1 e1 k1 => ⟨d, rfl, ?_⟩
  cases d with
  | true =>
    rw [if_pos rfl] at e1 ⊢
    cases e1
    exact k1.now w1 _ (by simp only [IsD])
  | false =>
    rw [if_neg Bool.false_ne_true] at e1 ⊢
    exact ⟨_, _, _, _, _, _, w1, s1, e1, k1⟩
theorem re_not {a : Expr} {pos : Pos} {m : M D} (ha : RE X cl tk a m) : RE X cl tk (.UnaryOp .Not a pos) (mNotV m) := by
  refine pe_imp (pe_not ha) fun σ H Q ⟨φ, G, g, S, r, S', w, s, e, k⟩ => ?_
  refine tM_bl T.ok w s e k fun d φ1 G1 H1 S1 st1 w1 s1 e1 k1 => ⟨d, rfl, ?_⟩
  cases e1
  exact k1.now w1 _ (by simp only [IsD])
def mIf (c : M Bool) (m n : M D) : M D := mB c fun b => if b = true then m else n
theorem re_if {c a b : Expr} {pos : Pos} {mc : M Bool} {m n : M D} (hc : RT X cl tk c mc) (ha : RE X cl tk a m) (hb : RE X cl tk b n) : RE X cl tk (.IfExp c a b pos) (mIf mc m n) := by
  refine pe_imp (pe_ifExp hc ha hb) fun σ H Q ⟨φ, G, g, S, r, S', w, s, e, k⟩ => ?_
  refine tMT_bind T.ok w s e k fun d φ1 G1 H1 S1 st1 w1 s1 e1 k1 => ?_
  cases d with
  | true =>
    rw [if_pos rfl] at e1 ⊢
    exact ⟨_, _, _, _, _, _, w1, s1, e1, k1⟩
  | false =>
    rw [if_neg Bool.false_ne_true] at e1 ⊢
    exact ⟨_, _, _, _, _, _, w1, s1, e1, k1⟩

/-! ### argument lists, displays -/
def mNil : M (List D) := mP []
def mCons (m : M D) (n : M (List D)) : M (List D) := mB m fun d => mB n fun ds => mP (d :: ds)
theorem ra_nil : RA X cl tk [] mNil := by
  refine pa_imp pa_nil fun σ H Q ⟨φ, G, g, S, r, S', w, s, e, k⟩ => ?_
  cases e
  exact k.now w _ .nil
theorem ra_cons {a : Expr} {es : List Expr} {m : M D} {n : M (List D)} (ha : RE X cl tk a m) (hr : RA X cl tk es n) (hs : starEach (a :: es) X.env = (false, eval a X.env) :: starEach es X.env := by rfl) : RA X cl tk (a :: es) (mCons m n) := by
  refine pa_imp (pa_cons ha hr hs) fun σ H Q ⟨φ, G, g, S, r, S', w, s, e, k⟩ => ?_
  refine tM_bind T.ok w s e k fun d φ1 G1 H1 S1 x st1 w1 s1 hx e1 k1 => ?_
  refine tMA_bind T.ok w1 s1 e1 k1 fun ds φ2 G2 H2 S2 xs st2 w2 s2 hxs e2 k2 => ?_
  cases e2
  exact k2.now w2 _ (.cons (hx.mono st2.pre st2.ex) hxs)
/-- a bound, not to be run by the kernel -/
noncomputable def cdec (p : Prop) : Bool := @decide p (Classical.propDecidable p)
theorem cdec_iff {p : Prop} : cdec p = true ↔ p := @decide_eq_true_iff p (Classical.propDecidable p)
@[simp] theorem cdec_eq {p : Prop} : (cdec p = true) = p := propext cdec_iff
noncomputable def szOk (n : Nat) : Bool := cdec (n ≤ 16777216)
theorem szOk_le {n : Nat} (h : szOk n = true) : n ≤ sizeLine := by rw [sizeLine_eq]; exact cdec_iff.mp h
noncomputable def fTup : Store → List D → Option D := fun _ ds => if szOk ds.length = true then some (.tup ds) else none
noncomputable def fLst : Store → List D → Option D := fun _ ds => if szOk ds.length = true then some (.lst ds) else none
def mOpA (f : Store → List D → Option D) (m : M (List D)) : M D := mB m fun ds => mL fun S => f S ds
theorem re_tup {es : List Expr} {k : Nat} {pos : Pos} {m : M (List D)} (h : RA X cl tk es m) : RE X cl tk (.Tuple es k pos) (mOpA fTup m) := by
  refine pe_imp (pe_tup h) fun σ H Q ⟨φ, G, g, S, r, S', w, s, e, k⟩ => ?_
  refine tMA_bind T.ok w s e k fun d φ1 G1 H1 S1 x st1 w1 s1 hx e1 k1 => ?_
  obtain ⟨z, ez, rfl, rfl⟩ := mL_ok e1
  unfold fTup at ez
  split at ez
  · rename_i hz
    cases ez
    exact ⟨by rw [← hx.length]; exact szOk_le hz, new_tup w1 hx k1⟩
  · cases ez
theorem re_lst {es : List Expr} {pos : Pos} {m : M (List D)} (h : RA X cl tk es m) : RE X cl tk (.List es pos) (mOpA fLst m) := by
  refine pe_imp (pe_lst h) fun σ H Q ⟨φ, G, g, S, r, S', w, s, e, k⟩ => ?_
  refine tMA_bind T.ok w s e k fun d φ1 G1 H1 S1 x st1 w1 s1 hx e1 k1 => ?_
  obtain ⟨z, ez, rfl, rfl⟩ := mL_ok e1
  unfold fLst at ez
  split at ez
  · rename_i hz
    cases ez
    exact ⟨by rw [← hx.length]; exact szOk_le hz, new_lst w1 hx k1⟩
  · cases ez

/-! ### new cells -/
theorem cell_step (w : Wd K cl φ S G H) {p : Addr} (hp : H p = none) (o : HO) : Step φ G H (φ ++ [p]) G (upd H p o) where
  pre := List.prefix_append _ _
  ex := Ex.refl _
  gn := fun a h => .inl h
  keep := fun a u h _ => Ex.new hp a u h
  new := fun a h => by
    rcases List.mem_append.mp h with h | h
    · exact .inl h
    · rw [List.mem_singleton.mp h]; exact .inr hp
theorem cell_wd {φ : List Addr} {S : Store} {G H : Hp} (w : Wd K cl φ S G H) {p : Addr} (hp : H p = none) {o : HO} {c : Cell} (hc : ∀ φ' G' H', φ <+: φ' → Ex G G' → H' p = some o → CellOk K cl φ' G' H' p c) : Wd K cl (φ ++ [p]) (S ++ [c]) G (upd H p o) where
  len := by simp [w.len]
  iv := w.iv
  sub := fun a u h => Ex.new hp a u (w.sub a u h)
  nd := by
    refine List.nodup_append.mpr ⟨w.nd, by simp, fun a ha b hb e => ?_⟩
    rw [List.mem_singleton.mp hb] at e
    exact w.tr a ha (by rw [e]; exact hp)
  tr := fun a h => by
    by_cases e : a = p
    · subst e; rw [upd_same]; simp
    · rw [upd_ne e]
      rcases List.mem_append.mp h with h | h
      · exact w.tr a h
      · exact absurd (List.mem_singleton.mp h) e
  ap := fun i c' a h1 h2 h3 => by
    by_cases hi : i < S.length
    · rw [List.getElem?_append_left hi] at h1
      rw [List.getElem?_append_left (by rw [w.len]; exact hi)] at h2
      exact w.ap i c' a h1 h2 h3
    · rw [List.getElem?_append_right (by rw [w.len]; omega)] at h2
      have : i - φ.length = 0 := by
        have := (List.getElem?_eq_some_iff.mp h2).1
        simp at this; omega
      rw [this] at h2
      simp at h2; subst h2
      exact w.gnone hp
  ok := fun i c' a h1 h2 => by
    by_cases hi : i < S.length
    · rw [List.getElem?_append_left hi] at h1
      rw [List.getElem?_append_left (by rw [w.len]; exact hi)] at h2
      exact (w.ok i c' a h1 h2).mono (List.prefix_append _ _) (Ex.refl _) (Ex.new hp a)
    · rw [List.getElem?_append_right (by omega)] at h1
      rw [List.getElem?_append_right (by rw [w.len]; omega)] at h2
      have e0 : i - S.length = 0 := by
        have := (List.getElem?_eq_some_iff.mp h1).1
        simp at this; omega
      rw [w.len, e0] at h2
      rw [e0] at h1
      simp at h1 h2; subst h1 h2
      exact hc _ _ _ (List.prefix_append _ _) (Ex.refl _) upd_same
theorem cell_ref {φ : List Addr} {G : Hp} {p : Addr} {n : Nat} (h : φ.length = n) : IsD K (φ ++ [p]) G (.ref n) (.ref p) := by
  simp only [IsD]
  exact ⟨p, rfl, by rw [List.getElem?_append_right (by omega)]; simp [h]⟩
/-- [..] as a cell of the store -/
noncomputable def mNewL (m : M (List D)) : M D := mB m fun ds => fun _ S => if szOk ds.length = true then some (.ok (.ref S.length), S ++ [.lst ds]) else none
theorem re_lstM {es : List Expr} {pos : Pos} {m : M (List D)} (h : RA X cl tk es m) : RE X cl tk (.List es pos) (mNewL m) := by
  refine pe_imp (pe_lst h) fun σ H Q ⟨φ, G, g, S, r, S', w, s, e, k⟩ => ?_
  refine tMA_bind T.ok w s e k fun d φ1 G1 H1 S1 x st1 w1 s1 hx e1 k1 => ?_
  split at e1
  · rename_i hz
    cases e1
    refine ⟨by rw [← hx.length]; exact szOk_le hz, fun p hp => ?_⟩
    exact k1 _ _ _ (cell_step w1 hp _) (cell_wd w1 hp fun φ' G' H' p1 p2 h3 => ⟨_, h3, hx.mono p1 p2⟩) _ (cell_ref w1.len)
  · cases e1

/-! ### subscripts -/
def asL (S : Store) : D → Option (List D)
  | .lst l => some l
  | .tup l => some l
  | .ref i => match S[i]? with
    | some (.lst l) => some l
    | _ => none
  | _ => none
def asLL (S : Store) : D → Option (List D)
  | .lst l => some l
  | .ref i => match S[i]? with
    | some (.lst l) => some l
    | _ => none
  | _ => none
theorem asLL_sq {φ : List Addr} {S : Store} {G H : Hp} (w : Wd K cl φ S G H) {d : D} {v : V} {l : List D} (h : IsD K φ G d v) (e : asLL S d = some l) :
    ∃ a xs, v = .ref a ∧ H a = some (.lst xs) ∧ IsDs K φ G l xs := by
  cases d <;> simp only [asLL] at e <;> try (cases e; done)
  · cases e
    simp only [IsD] at h
    obtain ⟨a, xs, h1, h2, h3⟩ := h
    exact ⟨a, xs, h1, w.sub _ _ h2, h3⟩
  · split at e
    · cases e
      rename_i i l hi
      simp only [IsD] at h
      obtain ⟨a, h1, h2⟩ := h
      obtain ⟨vs, h3, h4⟩ := w.ok _ _ _ hi h2
      exact ⟨a, vs, h1, h3, h4⟩
    · cases e
theorem asL_sq {φ : List Addr} {S : Store} {G H : Hp} (w : Wd K cl φ S G H) {d : D} {v : V} {l : List D} (h : IsD K φ G d v) (e : asL S d = some l) :
    ∃ a xs, v = .ref a ∧ (SqL K H a xs ∨ SqT K H a xs) ∧ IsDs K φ G l xs := by
  cases d <;> simp only [asL] at e <;> try (cases e; done)
  · cases e
    simp only [IsD] at h
    obtain ⟨a, xs, h1, h2, h3⟩ := h
    exact ⟨a, xs, h1, .inr (Ex.t w.sub h2), h3⟩
  · cases e
    simp only [IsD] at h
    obtain ⟨a, xs, h1, h2, h3⟩ := h
    exact ⟨a, xs, h1, .inl (SqL.of (w.sub _ _ h2)), h3⟩
  · split at e
    · cases e
      rename_i i l hi
      simp only [IsD] at h
      obtain ⟨a, h1, h2⟩ := h
      obtain ⟨vs, h3, h4⟩ := w.ok _ _ _ hi h2
      exact ⟨a, vs, h1, .inl (SqL.of h3), h4⟩
    · cases e
noncomputable def fIx : Store → D → D → Option D := fun S d e => match d, e with
  | .str z, .int i => if szOk z.length = true then (atI z.cps.toList i).map fun c => .str ⟨#[c]⟩ else none
  | d, .int i => (asL S d).bind fun l => atI l i
  | _, _ => none
theorem atI_of {l : List D} {xs : List V} {i : Int} {d : D} {φ : List Addr} {G : Hp} (h : IsDs K φ G l xs) (e : atI l i = some d) : ∃ v, atI xs i = some v ∧ IsD K φ G d v := by
  unfold atI at e ⊢
  rw [← h.length]
  cases q : ixN l.length i with
  | none => rw [q] at e; cases e
  | some j =>
    rw [q] at e
    exact h.get e
theorem fIx_ok : OpS K cl (rIx K) fIx := fun φ S G H x y d0 e z Q w h1 h2 h3 k => by
  unfold fIx at h3
  split at h3
  · rename_i z' i
    split at h3
    · rename_i hz
      simp only [IsD] at h1 h2
      subst h1 h2
      cases q : atI z'.cps.toList i with
      | none => rw [q] at h3; cases h3
      | some c =>
        rw [q] at h3
        cases h3
        exact .inr (.inr ⟨z', i, c, rfl, rfl, szOk_le hz, q, k _ _ _ (Step.refl _ _ _) w _ (by simp only [IsD])⟩)
    · cases h3
  · rename_i d i _
    simp only [IsD] at h2
    subst h2
    cases q : asL S d0 with
    | none => rw [q] at h3; cases h3
    | some l =>
      rw [q] at h3
      have h3' : atI l i = some z := h3
      obtain ⟨a, xs, rfl, h4, h5⟩ := asL_sq w h1 q
      obtain ⟨v, h6, h7⟩ := atI_of h5 h3'
      rcases h4 with h4 | h4
      · exact .inl ⟨a, xs, i, v, rfl, rfl, h4, h6, k _ _ _ (Step.refl _ _ _) w _ h7⟩
      · exact .inr (.inl ⟨a, xs, i, v, rfl, rfl, h4, h6, k _ _ _ (Step.refl _ _ _) w _ h7⟩)
  · cases h3
theorem re_ix {a b : Expr} {pos : Pos} {ma mb : M D} (ha : RE X cl tk a ma) (hb : RE X cl tk b mb) (hs : PlainIx b := by exact fun _ _ => rfl) : RE X cl tk (.Subscript a b pos) (mOp2 fIx ma mb) :=
  pe_imp (pe_ix ix_seq ha hb hs) fun _ _ _ h => tOp_of fIx_ok T.ok h

/-! ### slices -/
abbrev RO (X : Cx) (cl : Cl) (tk : WX → Prop) (a : Option Expr) (m : M (Option Int)) : Prop :=
  PO X a fun σ H Q => ∃ φ G g S r S', Wd X.K cl φ S G H ∧ Sl X.K cl φ G g σ ∧ m g S = some (r, S') ∧ Ko X.K cl tk φ G H g r S' fun _ _ H' o => Q o H'
def mPart (m : M D) : M (Option Int) := mB m fun d => mL fun _ => match d with
  | .int i => some (some i)
  | _ => none
theorem po_imp {a : Option Expr} {t t' : TO} (h : PO X a t) (i : ∀ σ H Q, t' σ H Q → t σ H Q) : PO X a t' := ⟨fun pins s σ H Q I q => h.run pins s σ H Q I (i σ H Q q)⟩
theorem ro_none : RO X cl tk none (mP none) := by
  refine po_imp po_none fun σ H Q ⟨φ, G, g, S, r, S', w, s, e, k⟩ => ?_
  cases e
  exact k.now w
theorem ro_some {a : Expr} {m : M D} (h : RE X cl tk a m) : RO X cl tk (some a) (mPart m) := by
  refine po_imp (po_some h) fun σ H Q ⟨φ, G, g, S, r, S', w, s, e, k⟩ => ?_
  refine tM_bind T.ok w s e k fun d φ1 G1 H1 S1 x st1 w1 s1 hx e1 k1 => ?_
  obtain ⟨z, ez, rfl, rfl⟩ := mL_ok e1
  cases d <;> first | (cases ez; done) | skip
  cases ez
  simp only [IsD] at hx
  exact ⟨_, hx, k1.now w1⟩
def cutD (xs : List D) (lo hi : Option Int) : List D := (xs.drop (HT.sIx xs.length 0 lo)).take (HT.sIx xs.length xs.length hi - HT.sIx xs.length 0 lo)
noncomputable def fSl (S : Store) (d : D) (lo hi : Option Int) : Option D := match d with
  | .str z => if szOk z.length = true then some (.str (cutS z lo hi)) else none
  | .tup l => if HT.sIx l.length 0 lo = 0 ∧ HT.sIx l.length l.length hi = l.length then none else some (.tup (cutD l lo hi))
  | d => (asLL S d).map fun l => .lst (cutD l lo hi)
theorem IsDs.cut {φ : List Addr} {G : Hp} {l : List D} {xs : List V} (lo hi : Option Int) (h : IsDs K φ G l xs) : IsDs K φ G (cutD l lo hi) (cutV xs lo hi) := by
  unfold cutD cutV
  rw [← h.length]
  exact (h.drop _).take _
def rSl (K : PySem.W.Frag) : V → Option Int → Option Int → Hp → VK → Prop := fun x lo hi H Q => rSlL K x lo hi H Q ∨ rSlT K x lo hi H Q ∨ rSlS x lo hi H Q
theorem sl_seq : SlR X (rSl X.K) := sl_list.or (sl_tup.or sl_str)
noncomputable def mSl (m : M D) (lo hi : M (Option Int)) : M D := mB m fun d => mB lo fun l => mB hi fun h => mL fun S => fSl S d l h
theorem fSl_ok {φ : List Addr} {S : Store} {G H : Hp} {x : V} {d z : D} {lo hi : Option Int} {Q : VK} (w : Wd K cl φ S G H) (h1 : IsD K φ G d x) (h3 : fSl S d lo hi = some z)
    (k : ∀ φ' G' H', Step φ G H φ' G' H' → Wd K cl φ' S G' H' → ∀ v, IsD K φ' G' z v → Q v H') : rSl K x lo hi H Q := by
  unfold fSl at h3
  split at h3
  · split at h3
    · rename_i hz
      cases h3
      simp only [IsD] at h1
      exact .inr (.inr ⟨_, h1, szOk_le hz, k _ _ _ (Step.refl _ _ _) w _ (by simp only [IsD])⟩)
    · cases h3
  · split at h3
    · cases h3
    · rename_i l hz
      cases h3
      simp only [IsD] at h1
      obtain ⟨a, xs, rfl, h4, h5⟩ := h1
      refine .inr (.inl ⟨a, xs, rfl, Ex.t w.sub h4, by rw [← h5.length]; exact hz, new_tup w (h5.cut lo hi) k⟩)
  · cases q : asLL S d with
    | none => rw [q] at h3; cases h3
    | some l =>
      rw [q] at h3
      cases h3
      obtain ⟨a, xs, rfl, h4, h5⟩ := asLL_sq w h1 q
      exact .inl ⟨a, xs, rfl, SqL.of h4, new_lst w (h5.cut lo hi) k⟩
theorem re_sl {a : Expr} {lo hi : Option Expr} {p2 pos : Pos} {m : M D} {ml mh : M (Option Int)} (ha : RE X cl tk a m) (hl : RO X cl tk lo ml) (hh : RO X cl tk hi mh) : RE X cl tk (.Subscript a (.Slice lo hi none p2) pos) (mSl m ml mh) := by
  refine pe_imp (pe_slice sl_seq ha hl hh) fun σ H Q ⟨φ, G, g, S, r, S', w, s, e, k⟩ => ?_
  refine tM_bind T.ok w s e k fun d φ1 G1 H1 S1 x st1 w1 s1 hx e1 k1 => ?_
  rcases mB_ok e1 with ⟨l, S2, e2, e3⟩ | ⟨c, fs, e2, rfl⟩
  · refine ⟨φ1, G1, g, S1, _, _, w1, s1, e2, fun φ2 G2 H2 st2 w2 => ?_⟩
    rcases mB_ok e3 with ⟨h, S3, e4, e5⟩ | ⟨c, fs, e4, rfl⟩
    · refine ⟨φ2, G2, g, S2, _, _, w2, s1.step st2, e4, fun φ3 G3 H3 st3 w3 => ?_⟩
      obtain ⟨z, ez, rfl, rfl⟩ := mL_ok e5
      exact fSl_ok w3 (hx.mono (st2.trans st3).pre (st2.trans st3).ex) ez (k1.step T.ok (st2.trans st3))
    · exact ⟨φ2, G2, g, S2, _, _, w2, s1.step st2, e4, k1.step T.ok st2⟩
  · exact ⟨φ1, G1, g, S1, _, _, w1, s1, e2, k1⟩
end
end Mi
namespace Mi
open PySem L2
open PyProof.Rows (envOfC)

/-! ### a def's promise -/
/-- def f promises what m gives -/
def spM (K : PySem.W.Frag) (cl : Cl) (m : MF) : Sp := fun vs H Q E => ∃ φ G S ds r S', Wd K cl φ S G H ∧ IsDs K φ G ds vs ∧ m ds S = some (r, S') ∧
  match r with
  | .ok d => ∀ φ' G' H', Step φ G H φ' G' H' → Wd K cl φ' S' G' H' → ∀ v, IsD K φ' G' d v → Q v H'
  | .exc c fs => ∀ cls dd φ' G' H', wE K cl φ G H S' c fs cls dd φ' G' H' → E cls dd H'
/-- N names, the first np the parameters -/
def mFn (N np : Nat) (b : MS) : MF := fun ds S => if ds.length = np then
    match b (ds.map some ++ List.replicate (N - np) none) S with
    | some (.rt d, S') => some (.ok d, S')
    | some (.nx _, S') => some (.ok .non, S')
    | some (.ex _ c fs, S') => some (.exc c fs, S')
    | _ => none
  else none
theorem sl_start {K : PySem.W.Frag} {cl : Cl} (hh : cl.hd = none) {φ : List Addr} {G : Hp} {N : List Str} : ∀ {ds : List D} {vs : List V}, IsDs K φ G ds vs → Sl K cl φ G (ds.map some ++ List.replicate (N.length - vs.length) none) (L2.start N vs) := fun {ds vs} h => by
  unfold L2.start
  refine ⟨by simp [h.length], fun i d e => ?_, fun i a hj => by rw [hh] at hj; cases hj⟩
  by_cases hi : i < ds.length
  · rw [List.getElem?_append_left (by simpa using hi), List.getElem?_map] at e
    rw [List.getElem?_append_left (by simpa [← h.length] using hi), List.getElem?_map]
    cases q : ds[i]? with
    | none => rw [q] at e; cases e
    | some d' =>
      rw [q] at e
      cases e
      obtain ⟨v, h1, h2⟩ := h.get q
      exact ⟨v, by rw [h1]; rfl, h2⟩
  · rw [List.getElem?_append_right (by simpa using hi), List.getElem?_replicate] at e
    split at e <;> cases e
theorem fn_ok {P : Program} {w : World} {K : PySem.W.Frag} {mg : Str → Option Value} {base : Heap} {cl : Cl} {x qual : Str} {st : Stmt} {f : Addr} {fd : FuncData} {N ps : List Str} {k : Nat} {mb : MS}
    (hh : cl.hd = none) (F : Fun K x qual st f fd) (S : FnScope N ps (defScope st))
    (hb : ∀ (cdv : Value) (A : Around) (outer : List Env) (s : Shared) (H : Hp) (E : XK), Room k (A.deeper (envOfC qual (defScope st) s.heap.objs.size f cdv)) →
      RSs (cxOf (L2.CX P w) P w K mg base N qual (defScope st) f cdv A outer s H E) cl (Takes (cxOf (L2.CX P w) P w K mg base N qual (defScope st) f cdv A outer s H E)) (defBody st) mb) :
    FnOk P w K mg base (L2.CX P w) (k + 1) f fd ps (spM K cl (mFn N.length ps.length mb)) := by
  refine F.okX S (fun vs H Q E h => ?_) (fun cdv A outer s H vs Q E hr h => ⟨_, hb cdv A outer s H E hr, ?_⟩)
  · obtain ⟨φ, G, S, ds, r, S', w, hd, e, _⟩ := h
    unfold mFn at e
    split at e
    · rename_i hl; rw [← hd.length]; exact hl
    · cases e
  · obtain ⟨φ, G, S, ds, r, S', w, hd, e, k⟩ := h
    unfold mFn at e
    split at e
    · rename_i hl
      have sl := sl_start (N := N) hh hd
      rw [← hd.length, hl] at sl
      split at e
      · rename_i d S1 q
        cases e
        exact ⟨φ, G, _, S, _, _, w, sl, q, fun φ' G' H' st w' v hv => k φ' G' H' st w' v hv⟩
      · rename_i d S1 q
        cases e
        exact ⟨φ, G, _, S, _, _, w, sl, q, fun φ' G' H' st w' v hv => k φ' G' H' st w' _ (by simp only [IsD])⟩
      · rename_i c fs S1 q
        cases e
        refine ⟨φ, G, _, S, _, _, w, sl, q, ?_⟩
        exact Takes.imp (takes_of (E := E) rfl rfl rfl rfl) fun cls d σ H' ⟨φ', G', hw, _⟩ => k cls d φ' G' H' hw
      · cases e
    · cases e

section
variable {X : Cx} {cl : Cl} {tk : WX → Prop} [T : Tk X tk]
variable {K : PySem.W.Frag}
/-! ### a call -/
def mCall (mf : MF) (ma : M (List D)) : M D := mB ma fun ds => fun _ S => mf ds S
def EofR (K : PySem.W.Frag) (cl : Cl) (φ : List Addr) (G H : Hp) (S' : Store) : R D → XK
  | .ok _ => fun _ _ _ => False
  | .exc c fs => fun cls dd H' => ∃ φ' G', wE K cl φ G H S' c fs cls dd φ' G' H'
theorem run_fnM {k : Nat} {f : Addr} {fd : FuncData} {ps : List Str} {mf : MF} {ds : List D} {us : List Value} {vs : List V} {pins : List (Addr × Obj)} {σ : St} {φ : List Addr} {S S' : Store} {G H : Hp} {s : Shared} {r : R D} {Q : VK}
    (F : FnOk X.prog X.w X.K X.mg X.base (L2.CX X.prog X.w) k f fd ps (spM X.K cl mf)) (hr : Room k X.A) {dsv : List Value} {dvs : List V} {dds : List D} (hb : Binds X.K fd ps dsv) (hd : Vals dvs dsv) (hdd : IsDs X.K φ G dds dvs)
    (I : Inv X pins σ H s) (rv : Vals vs us) {g : Gm} (sl : Sl X.K cl φ G g σ) (w : Wd X.K cl φ S G H) (h : IsDs X.K φ G ds vs) (e : mf (ds ++ dds) S = some (r, S')) (kq : Ko X.K cl tk φ G H g r S' fun φ' G' H' d => ∀ v, IsD X.K φ' G' d v → Q v H') :
    wpAny (model X.prog X.w) X.A (call (.ref f) us) (EP X pins σ Q) X.xe s := by
  have r2 : Vals (vs ++ dvs) (us ++ dsv) := rv.append hd
  let E : XK := EofR X.K cl φ G H S' r
  have sp : spM X.K cl mf (vs ++ dvs) H Q E := by
    refine ⟨φ, G, S, ds ++ dds, r, S', w, h.append hdd, e, ?_⟩
    cases r with
    | ok d => exact kq
    | exc c fs => exact fun cls dd φ' G' H' q => ⟨φ', G', q⟩
  have hl : (us ++ dsv).length = ps.length := by rw [← r2.length]; exact F.len _ _ _ _ sp
  refine wpAny_call (codeAny_mono (F.run X.A X.stack s H ⟨us, []⟩ (us ++ dsv) (vs ++ dvs) Q E hr I.env0 (hb s us I.kIn hl) r2 sp) fun r' s' hq => ?_)
  cases r' with
  | error e' =>
    cases r with
    | ok d =>
      obtain ⟨_, _, _, _, _, _, _, _, _, _, _, _, z⟩ := (show L2.CX X.prog X.w X.stack H s E e' s' from hq)
      exact z.elim
    | exc c fs => exact T.tk _ kq e' s' (XE.of_call (E := EofR X.K cl φ G H S' (.exc c fs)) I (fun cls d H' ⟨φ', G', q⟩ => ⟨φ', G', q, sl.step q.1⟩) hq)
  | ok fl =>
    cases fl with
    | ret u => exact I.after hq
    | next => exact False.elim hq
    | brk => exact False.elim hq
    | cont => exact False.elim hq
/-- the defaults that fill up -/
def withD (mf : MF) (dds : List D) : MF := fun ds S => mf (ds ++ dds) S
theorem re_call {k : Nat} {f : Addr} {fd : FuncData} {ps : List Str} {mf : MF} {x : Str} {p pos : Pos} {e : Expr} {es : List Expr} {ma : M (List D)} {dsv : List Value} {dvs : List V} {dds : List D}
    (F : FnOk X.prog X.w X.K X.mg X.base (L2.CX X.prog X.w) k f fd ps (spM X.K cl mf)) (hr : Room k X.A) (hm : X.mg x = some (.ref f)) (hk : PySem.W.keepIn X.K (.ref f) = true) (hb : Binds X.K fd ps dsv) (hd : Vals dvs dsv) (hdd : ∀ φ G, IsDs X.K φ G dds dvs)
    (ha : RA X cl tk (e :: es) ma) (hg : Gl X x := by rfl) (hdb : (x == ("__debug__" : Str)) = false := by decide) (he : starEach (e :: es) X.env = (false, eval e X.env) :: starEach es X.env := by rfl) (hpl : (backTo pos (starEach es X.env)).any (·.1) = false := by rfl) :
    RE X cl tk (.Call (.Name x p) (e :: es) [] pos) (mCall (withD mf dds) ma) := by
  refine ⟨fun pins s σ H Q I h => ?_⟩
  obtain ⟨φ, G, g, S, r, S', w, sl, e1, kq⟩ := h
  refine wpAny_Call_Name_kw (ld_glob I hg hm ?_ hdb)
  refine PySem.W.callWith_K (h₀ := X.base) I.ok.mod.kin hk (thn (ha.run pos pins s σ H (fun vs H1 => ∃ φ1 G1 S1 ds, Sl X.K cl φ1 G1 g σ ∧ Wd X.K cl φ1 S1 G1 H1 ∧ IsDs X.K φ1 G1 ds vs ∧ withD mf dds ds S1 = some (r, S') ∧ Ko X.K cl tk φ1 G1 H1 g r S' fun φ' G' H' d => ∀ v, IsD X.K φ' G' d v → Q v H') I ?_) fun us s1 ⟨vs, H1, I1, rv, φ1, G1, S1, ds, sl1, w1, hds, e2, k2⟩ => ⟨I1.kIn, ?_⟩) he hpl
  · exact tMA_bind T.ok w sl e1 kq fun d φ1 G1 H1 S1 v st1 w1 s1 hx e2 k2 => ⟨φ1, G1, S1, d, s1, w1, hx, e2, k2⟩
  · exact run_fnM F hr hb hd (hdd _ _) I1 rv sl1 w1 hds e2 k2
theorem re_call0 {k : Nat} {f : Addr} {fd : FuncData} {ps : List Str} {mf : MF} {x : Str} {p pos : Pos} {dsv : List Value} {dvs : List V} {dds : List D}
    (F : FnOk X.prog X.w X.K X.mg X.base (L2.CX X.prog X.w) k f fd ps (spM X.K cl mf)) (hr : Room k X.A) (hm : X.mg x = some (.ref f)) (hk : PySem.W.keepIn X.K (.ref f) = true) (hb : Binds X.K fd ps dsv) (hd : Vals dvs dsv) (hdd : ∀ φ G, IsDs X.K φ G dds dvs)
    (hg : Gl X x := by rfl) (hdb : (x == ("__debug__" : Str)) = false := by decide) :
    RE X cl tk (.Call (.Name x p) [] [] pos) (mCall (withD mf dds) mNil) := by
  refine ⟨fun pins s σ H Q I h => ?_⟩
  obtain ⟨φ, G, g, S, r, S', w, sl, e1, kq⟩ := h
  refine wpAny_Call_Name_kw (ld_glob I hg hm ?_ hdb)
  exact PySem.W.callWith_K0 I.kIn hk (run_fnM (us := []) (vs := []) (ds := []) F hr hb hd (hdd _ _) I .nil sl w .nil e1 kq)

theorem withD_nil (mf : MF) : withD mf [] = mf := by funext ds S; simp [withD]
theorem re_callN {k : Nat} {f : Addr} {fd : FuncData} {ps : List Str} {mf : MF} {x : Str} {p pos : Pos} {e : Expr} {es : List Expr} {ma : M (List D)}
    (F : FnOk X.prog X.w X.K X.mg X.base (L2.CX X.prog X.w) k f fd ps (spM X.K cl mf)) (hr : Room k X.A) (hm : X.mg x = some (.ref f)) (hk : PySem.W.keepIn X.K (.ref f) = true) (hb : Binds X.K fd ps [])
    (ha : RA X cl tk (e :: es) ma) (hg : Gl X x := by rfl) (hdb : (x == ("__debug__" : Str)) = false := by decide) (he : starEach (e :: es) X.env = (false, eval e X.env) :: starEach es X.env := by rfl) (hpl : (backTo pos (starEach es X.env)).any (·.1) = false := by rfl) :
    RE X cl tk (.Call (.Name x p) (e :: es) [] pos) (mCall mf ma) := by
  have h := re_call (T := T) (p := p) F hr hm hk hb .nil (fun _ _ => .nil) ha hg hdb he hpl
  rwa [withD_nil] at h
theorem re_callN0 {k : Nat} {f : Addr} {fd : FuncData} {ps : List Str} {mf : MF} {x : Str} {p pos : Pos}
    (F : FnOk X.prog X.w X.K X.mg X.base (L2.CX X.prog X.w) k f fd ps (spM X.K cl mf)) (hr : Room k X.A) (hm : X.mg x = some (.ref f)) (hk : PySem.W.keepIn X.K (.ref f) = true) (hb : Binds X.K fd ps [])
    (hg : Gl X x := by rfl) (hdb : (x == ("__debug__" : Str)) = false := by decide) : RE X cl tk (.Call (.Name x p) [] [] pos) (mCall mf mNil) := by
  have h := re_call0 (T := T) (cl := cl) (p := p) (pos := pos) F hr hm hk hb .nil (fun _ _ => .nil) hg hdb
  rwa [withD_nil] at h

/-! ### built-ins by name, methods of built-in types -/
theorem tCB_of {r : List V → Hp → VK → Prop} {f : Store → List D → Option D} {ma : M (List D)} (hs : CallS K cl r f) (ht : TkOk tk) {σ : St} {H : Hp} {Q : VK} (h : tM K cl tk (mOpA f ma) σ H Q) : tCB r (tMA K cl tk ma) σ H Q := by
  obtain ⟨φ, G, g, S, r, S', w, s, e, k⟩ := h
  refine tMA_bind ht w s e k fun d φ1 G1 H1 S1 x st1 w1 s1 hx e1 k1 => ?_
  obtain ⟨z, ez, rfl, rfl⟩ := mL_ok e1
  exact hs _ _ _ _ _ _ _ _ w1 hx ez k1
theorem re_callB {x : Str} {id : String} {p pos : Pos} {e : Expr} {es : List Expr} {r : List V → Hp → VK → Prop} {f : Store → List D → Option D} {ma : M (List D)} (hc : CallR X (.builtin id) r) (hs : CallS X.K cl r f) (hm : X.mg x = none) (hv : bootBuiltins x = some (.builtin id))
    (ha : RA X cl tk (e :: es) ma) (hg : Gl X x := by rfl) (hn : x ≠ "__name__" := by decide) (hdb : (x == ("__debug__" : Str)) = false := by decide)
    (he : starEach (e :: es) X.env = (false, eval e X.env) :: starEach es X.env := by rfl) (hpl : (backTo pos (starEach es X.env)).any (·.1) = false := by rfl) : RE X cl tk (.Call (.Name x p) (e :: es) [] pos) (mOpA f ma) :=
  pe_imp (pe_callB hc hg hm hv ha hn hdb he hpl) fun _ _ _ h => tCB_of hs T.ok h
theorem re_callTy {x : Str} {Ty : String} {p pos : Pos} {e : Expr} {es : List Expr} {r : List V → Hp → VK → Prop} {f : Store → List D → Option D} {ma : M (List D)} (hc : CallR X (.type Ty) r) (hs : CallS X.K cl r f) (hm : X.mg x = none) (hv : bootBuiltins x = some (.type Ty))
    (ha : RA X cl tk (e :: es) ma) (hg : Gl X x := by rfl) (hn : x ≠ "__name__" := by decide) (hdb : (x == ("__debug__" : Str)) = false := by decide)
    (he : starEach (e :: es) X.env = (false, eval e X.env) :: starEach es X.env := by rfl) (hpl : (backTo pos (starEach es X.env)).any (·.1) = false := by rfl) : RE X cl tk (.Call (.Name x p) (e :: es) [] pos) (mOpA f ma) :=
  pe_imp (pe_callTy hc hg hm hv ha hn hdb he hpl) fun _ _ _ h => tCB_of hs T.ok h

/-! ### statements -/
theorem rss_nil : RSs X cl tk [] (fun g S => some (.nx g, S)) := by
  refine pss_imp pss_nil fun D σ H ⟨φ, G, g, S, o, S', w, s, e, k⟩ => ?_
  cases e
  exact k φ G H (Step.refl _ _ _) w σ s
def mSeq (m n : MS) : MS := fun g S => match m g S with
  | some (.nx g1, S1) => n g1 S1
  | r => r
theorem rss_cons {st : Stmt} {rest : List Stmt} {m n : MS} (h1 : RS X cl tk st m) (h2 : RSs X cl tk rest n) : RSs X cl tk (st :: rest) (mSeq m n) := by
  refine pss_imp (pss_cons h1 h2) fun D σ H ⟨φ, G, g, S, o, S', w, s, e, k⟩ => ?_
  unfold mSeq at e
  split at e
  · rename_i g1 S1 q
    exact ⟨φ, G, g, S, _, _, w, s, q, fun φ1 G1 H1 st1 w1 σ1 s1 => ⟨φ1, G1, g1, S1, o, S', w1, s1, e, k.step T.ok st1⟩⟩
  · rename_i hn
    refine ⟨φ, G, g, S, o, S', w, s, e, ?_⟩
    cases o with
    | nx g1 => exact absurd e (hn g1 S')
    | rt d => exact k
    | bk g1 => exact k
    | ct g1 => exact k
    | ex g2 c fs => exact k
theorem rss_one {st : Stmt} {m : MS} (h1 : RS X cl tk st m) : RSs X cl tk [st] m := pss_one h1
def mSet (i : Nat) (m : M D) : MS := fun g S => match m g S with
  | some (.ok d, S1) => some (.nx (g.set i (some d)), S1)
  | some (.exc c fs, S1) => some (.ex g c fs, S1)
  | none => none
/-- e, then a statement's rest -/
theorem tM_stmt {m : M D} {f : D → Gm → Store → Option (Out × Store)} {σ : St} {φ : List Addr} {G H : Hp} {g : Gm} {S S' : Store} {o : Out} {Dn : Ends} {Q : VK}
    (w : Wd K cl φ S G H) (s : Sl K cl φ G g σ) (e : (match m g S with | some (.ok d, S1) => f d g S1 | some (.exc c fs, S1) => some (.ex g c fs, S1) | none => none) = some (o, S')) (k : Kos K cl tk φ G H o S' Dn) (ht : TkOk tk)
    (h : ∀ d φ1 G1 H1 S1 v, Step φ G H φ1 G1 H1 → Wd K cl φ1 S1 G1 H1 → Sl K cl φ1 G1 g σ → IsD K φ1 G1 d v → f d g S1 = some (o, S') → Kos K cl tk φ1 G1 H1 o S' Dn → Q v H1) : tM K cl tk m σ H Q := by
  split at e
  · rename_i d S1 q
    exact ⟨φ, G, g, S, _, _, w, s, q, fun φ1 G1 H1 st w1 v hv => h d φ1 G1 H1 S1 v st w1 (s.step st) hv e (k.step ht st)⟩
  · rename_i c fs S1 q
    cases e
    exact ⟨φ, G, g, S, _, _, w, s, q, k⟩
  · cases e
theorem tAsg_of {i : Nat} {m : M D} {Dn : Ends} {σ : St} {H : Hp} (ht : TkOk tk) (h : tMS K cl tk (mSet i m) Dn σ H) : tAsg (tM K cl tk m) (gName i) Dn σ H := by
  obtain ⟨φ, G, g, S, o, S', w, s, e, k⟩ := h
  refine tM_stmt (f := fun d g S1 => some (.nx (g.set i (some d)), S1)) w s e k ht fun d φ1 G1 H1 S1 v st1 w1 s1 hv e1 k1 => ?_
  cases e1
  exact k1 φ1 G1 H1 (Step.refl _ _ _) w1 _ (s1.set hv)
theorem rs_set {i : Nat} {x : Str} {e : Expr} {pos pos' : Pos} {m : M D} (hN : X.N.Nodup) (he : RE X cl tk e m) (hi : X.N[i]? = some x := by rfl) (hx : Loc X.env.scope x := by first | exact Or.inl rfl | exact Or.inr rfl)
    (hs : swapsWith e (some (.Name x pos')) pos.line X.env = pure false := by rfl) (hf : X.fn x = true ∨ X.env.scope.names.lookup x = some .local := by first | exact .inl rfl | exact .inr rfl | assumption) : RS X cl tk (.Assign [.Name x pos'] e pos) (mSet i m) :=
  ps_imp (ps_set hN hi hx he hs hf) fun _ _ _ h => tAsg_of T.ok h
def mEx (m : M D) : MS := fun g S => match m g S with
  | some (.ok _, S1) => some (.nx g, S1)
  | some (.exc c fs, S1) => some (.ex g c fs, S1)
  | none => none
theorem rs_expr {e : Expr} {pos : Pos} {m : M D} (he : RE X cl tk e m) (hs : swapsWith e none pos.line X.env = pure false := by rfl) : RS X cl tk (.Expr e pos) (mEx m) := by
  refine ps_imp (ps_expr he hs) fun Dn σ H ⟨φ, G, g, S, o, S', w, s, e, k⟩ => ?_
  refine tM_stmt (f := fun d g S1 => some (.nx g, S1)) w s e k T.ok fun d φ1 G1 H1 S1 v st1 w1 s1 hv e1 k1 => ?_
  cases e1
  exact k1 φ1 G1 H1 (Step.refl _ _ _) w1 _ s1
def mRet (m : M D) : MS := fun g S => match m g S with
  | some (.ok d, S1) => some (.rt d, S1)
  | some (.exc c fs, S1) => some (.ex g c fs, S1)
  | none => none
theorem rs_ret {e : Expr} {pos : Pos} {m : M D} (he : RE X cl tk e m) : RS X cl tk (.Return (some e) pos) (mRet m) := by
  refine ps_imp (ps_ret he) fun Dn σ H ⟨φ, G, g, S, o, S', w, s, e, k⟩ => ?_
  refine tM_stmt (f := fun d g S1 => some (.rt d, S1)) w s e k T.ok fun d φ1 G1 H1 S1 v st1 w1 s1 hv e1 k1 => ?_
  cases e1
  exact k1 φ1 G1 H1 (Step.refl _ _ _) w1 v hv
theorem rs_retN {pos : Pos} : RS X cl tk (.Return none pos) (fun _ S => some (.rt .non, S)) := by
  refine ps_imp ps_retN fun Dn σ H ⟨φ, G, g, S, o, S', w, s, e, k⟩ => ?_
  cases e
  exact k φ G H (Step.refl _ _ _) w _ (by simp only [IsD])
theorem rs_pass {pos : Pos} : RS X cl tk (.Pass pos) (fun g S => some (.nx g, S)) := by
  refine ps_imp ps_pass fun D σ H ⟨φ, G, g, S, o, S', w, s, e, k⟩ => ?_
  cases e
  exact k φ G H (Step.refl _ _ _) w σ s
theorem rs_break {pos : Pos} : RS X cl tk (.Break pos) (fun g S => some (.bk g, S)) := by
  refine ps_imp ps_break fun D σ H ⟨φ, G, g, S, o, S', w, s, e, k⟩ => ?_
  cases e
  exact k φ G H (Step.refl _ _ _) w σ s
theorem rs_cont {pos : Pos} : RS X cl tk (.Continue pos) (fun g S => some (.ct g, S)) := by
  refine ps_imp ps_continue fun D σ H ⟨φ, G, g, S, o, S', w, s, e, k⟩ => ?_
  cases e
  exact k φ G H (Step.refl _ _ _) w σ s
def mIfS (c : M Bool) (m n : MS) : MS := fun g S => match c g S with
  | some (.ok b, S1) => if b = true then m g S1 else n g S1
  | some (.exc c fs, S1) => some (.ex g c fs, S1)
  | none => none
theorem rs_if {c : Expr} {a b : List Stmt} {pos : Pos} {mc : M Bool} {m n : MS} (hc : RT X cl tk c mc) (ha : RSs X cl tk a m) (hb : RSs X cl tk b n) : RS X cl tk (.If c a b pos) (mIfS mc m n) := by
  refine ps_imp (ps_if hc ha hb) fun Dn σ H ⟨φ, G, g, S, o, S', w, s, e, k⟩ => ?_
  unfold mIfS at e
  split at e
  · rename_i b S1 q
    refine ⟨φ, G, g, S, _, _, w, s, q, fun φ1 G1 H1 st1 w1 => ?_⟩
    cases b with
    | true =>
      rw [if_pos rfl] at e ⊢
      exact ⟨φ1, G1, g, S1, o, S', w1, s.step st1, e, k.step T.ok st1⟩
    | false =>
      rw [if_neg Bool.false_ne_true] at e ⊢
      exact ⟨φ1, G1, g, S1, o, S', w1, s.step st1, e, k.step T.ok st1⟩
  · rename_i c fs S1 q
    cases e
    exact ⟨φ, G, g, S, _, _, w, s, q, k⟩
  · cases e
/-- code that the mirror never comes to -/
def mNo : MS := fun _ _ => none
theorem rss_no {st : List Stmt} : RSs X cl tk st mNo := pss_imp pss_never fun D σ H ⟨φ, G, g, S, o, S', w, s, e, k⟩ => by cases e
theorem rs_no {st : Stmt} : RS X cl tk st mNo := ps_imp ps_never fun D σ H ⟨φ, G, g, S, o, S', w, s, e, k⟩ => by cases e
end
end Mi
namespace Mi
open PySem L2

/-! ### what is walked: its items; a list cell must stand as it is -/
abbrev Src := List D × Option Nat
def srcOk (S : Store) (src : Src) : Prop := match src.2 with
  | none => True
  | some i => S[i]? = some (.lst src.1)
structure WalkD (K : PySem.W.Frag) (cl : Cl) (J : It) (φ : List Addr) (G H : Hp) (src : Src) : Prop where
  ex : ∃ Gd Y, Walk J src.1.length Gd Y ∧
    (∀ φ' S' G' H', Step φ G H φ' G' H' → Wd K cl φ' S' G' H' → srcOk S' src → Gd H') ∧
    (∀ φ' S' G' H' i d x H2, Step φ G H φ' G' H' → Wd K cl φ' S' G' H' → srcOk S' src → src.1[i]? = some d → Y i H' x H2 → ∃ G2, Step φ' G' H' φ' G2 H2 ∧ Wd K cl φ' S' G2 H2 ∧ IsD K φ' G2 d x)
def tI (K : PySem.W.Frag) (cl : Cl) (tk : WX → Prop) (m : M Src) : TI := fun σ H R => ∃ φ G g S r S', Wd K cl φ S G H ∧ Sl K cl φ G g σ ∧ m g S = some (r, S') ∧
  Ko K cl tk φ G H g r S' fun φ1 G1 H1 src => ∀ J, WalkD K cl J φ1 G1 H1 src → R J H1
abbrev RI (X : Cx) (cl : Cl) (tk : WX → Prop) (tg a : Expr) (m : M Src) : Prop := PI X tg a (tI X.K cl tk m)
/-- targets -/
abbrev Bind := D → Gm → Option Gm
def tG (K : PySem.W.Frag) (cl : Cl) (b : Bind) : TG := fun v σ H Q => ∃ φ G g S d g', Wd K cl φ S G H ∧ Sl K cl φ G g σ ∧ IsD K φ G d v ∧ b d g = some g' ∧ ∀ σ', Sl K cl φ G g' σ' → Q σ' H
abbrev RG (X : Cx) (cl : Cl) (tg : Expr) (b : Bind) : Prop := PG X tg (tG X.K cl b)
abbrev Binds := List D → Gm → Option Gm
def tGs (K : PySem.W.Frag) (cl : Cl) (b : Binds) : TGs := fun vs σ H Q => ∃ φ G g S ds g', Wd K cl φ S G H ∧ Sl K cl φ G g σ ∧ IsDs K φ G ds vs ∧ b ds g = some g' ∧ ∀ σ', Sl K cl φ G g' σ' → Q σ' H
abbrev RGs (X : Cx) (cl : Cl) (tg : List Expr) (b : Binds) : Prop := PGs X tg (tGs X.K cl b)
def bN (i : Nat) : Bind := fun d g => some (g.set i (some d))
def bNil : Binds := fun ds g => match ds with
  | [] => some g
  | _ => none
def bCons (b : Bind) (bs : Binds) : Binds := fun ds g => match ds with
  | d :: r => (b d g).bind fun g' => bs r g'
  | [] => none
def bTup (n : Nat) (bs : Binds) : Bind := fun d g => match d with
  | .tup l => if l.length = n then bs l g else none
  | _ => none
theorem pg_imp {X : Cx} {a : Expr} {t t' : TG} (h : PG X a t) (i : ∀ v σ H Q, t' v σ H Q → t v σ H Q) : PG X a t' := ⟨fun pins s σ H v u Q I r q => h.run pins s σ H v u Q I r (i v σ H Q q)⟩
theorem pgs_imp {X : Cx} {a : List Expr} {t t' : TGs} (h : PGs X a t) (i : ∀ v σ H Q, t' v σ H Q → t v σ H Q) : PGs X a t' := ⟨fun pins s σ H v u Q I r q => h.run pins s σ H v u Q I r (i v σ H Q q)⟩
section
variable {X : Cx} {cl : Cl} {tk : WX → Prop} [T : Tk X tk]
variable {K : PySem.W.Frag}
theorem rg_name {i : Nat} {x : Str} {pos : Pos} (hN : X.N.Nodup) (hi : X.N[i]? = some x := by rfl) (hx : Loc X.env.scope x := by first | exact Or.inl rfl | exact Or.inr rfl) (hf : X.fn x = true ∨ X.env.scope.names.lookup x = some .local := by first | exact .inl rfl | exact .inr rfl | assumption) : RG X cl (.Name x pos) (bN i) := by
  refine pg_imp (pg_name hN hi hx hf) fun v σ H Q ⟨φ, G, g, S, d, g', w, s, hv, e, k⟩ => ?_
  cases e
  exact k _ (s.set hv)
theorem rgs_nil : RGs X cl [] bNil := by
  refine pgs_imp pgs_nil fun v σ H Q ⟨φ, G, g, S, d, g', w, s, hv, e, k⟩ => ?_
  cases d <;> cases e
  exact ⟨hv.nil_inv, k _ s⟩
theorem rgs_cons {a : Expr} {es : List Expr} {b : Bind} {bs : Binds} (h1 : RG X cl a b) (h2 : RGs X cl es bs) (hs : (assignEach (a :: es) X.env).map (·.2) = assign a X.env :: (assignEach es X.env).map (·.2) := by rfl) : RGs X cl (a :: es) (bCons b bs) := by
  refine pgs_imp (pgs_cons h1 h2 hs) fun v σ H Q ⟨φ, G, g, S, ds, g', w, s, hv, e, k⟩ => ?_
  cases ds with
  | nil => cases e
  | cons d r =>
    obtain ⟨v1, r1, rfl, h3, h4⟩ := hv.cons_inv
    unfold bCons at e
    cases q : b d g with
    | none => simp only [q] at e; cases e
    | some g1 =>
      simp only [q] at e
      exact ⟨v1, r1, rfl, φ, G, g, S, d, g1, w, s, h3, q, fun σ1 s1 => ⟨φ, G, g1, S, r, g', w, s1, h4, e, k⟩⟩
theorem rg_tup {es : List Expr} {kk : Nat} {pos : Pos} {bs : Binds} {n : Nat} (h : RGs X cl es bs) (hc : X.calm = true := by rfl) (hn : (assignEach es X.env).length = n := by rfl) (hst : (assignEach es X.env).findIdx? (·.1) = none := by rfl) : RG X cl (.Tuple es kk pos) (bTup n bs) := by
  refine pg_imp (pg_tup hc h hn hst) fun v σ H Q ⟨φ, G, g, S, d, g', w, s, hv, e, k⟩ => ?_
  cases d <;> try (cases e; done)
  rename_i l
  unfold bTup at e
  simp only at e
  split at e
  · rename_i hl
    simp only [IsD] at hv
    obtain ⟨a, xs, rfl, h3, h4⟩ := hv
    exact ⟨a, xs, rfl, Ex.t w.sub h3, by rw [← h4.length]; exact hl, φ, G, g, S, l, g', w, s, h4, e, k⟩
  · cases e

/-! ### for -/
open Classical in
noncomputable def forGo (src : Src) (b : Bind) (body : MS) : List D → MS
  | [] => fun g S => if srcOk S src then some (.nx g, S) else none
  | d :: ds => fun g S => if srcOk S src then
      match b d g with
      | none => none
      | some g1 => match body g1 S with
        | some (.nx g2, S2) => forGo src b body ds g2 S2
        | some (.ct g2, S2) => forGo src b body ds g2 S2
        | some (.bk g2, S2) => some (.nx g2, S2)
        | some (.rt d, S2) => some (.rt d, S2)
        | some (.ex g2 c fs, S2) => some (.ex g2 c fs, S2)
        | none => none
    else none
noncomputable def mFor (mi : M Src) (b : Bind) (body : MS) : MS := fun g S => match mi g S with
  | some (.ok src, S1) => forGo src b body src.1 g S1
  | some (.exc c fs, S1) => some (.ex g c fs, S1)
  | none => none
theorem drop_get {α : Type} {l : List α} {i : Nat} {d : α} {r : List α} (h : l.drop i = d :: r) : l[i]? = some d ∧ l.drop (i + 1) = r ∧ i < l.length := by
  have hi : i < l.length := by
    by_cases q : i < l.length
    · exact q
    · rw [List.drop_eq_nil_of_le (by omega)] at h; cases h
  rw [List.drop_eq_getElem_cons hi] at h
  injection h with h1 h2
  exact ⟨by rw [List.getElem?_eq_getElem hi, h1], h2, hi⟩
theorem rs_for {tg iter : Expr} {body : List Stmt} {pos : Pos} {mi : M Src} {b : Bind} {mb : MS} (hp : PassesOwn (model X.prog X.w) X.A X.env X.xe) (hi : RI X cl tk tg iter mi) (hg : RG X cl tg b) (hb : RSs X cl tk body mb)
    (hc : X.calm = true := by rfl) (hs : ∀ x, foldedSetIterable iter X.env x = pure x := by intro _; rfl) : RS X cl tk (.For tg iter body [] pos) (mFor mi b mb) := by
  refine ps_imp (ps_for hp hc hi hg hb hs) fun Dn σ H ⟨φ, G, g, S, o, S', w, s, e, k⟩ => ?_
  unfold mFor at e
  split at e
  · rename_i src S1 q
    refine ⟨φ, G, g, S, _, _, w, s, q, fun φ1 G1 H1 st1 w1 J wj => ?_⟩
    obtain ⟨Gd, Y, wk, hG, hY⟩ := wj.ex
    refine ⟨fun i m σ' H' => m = src.1.length - i ∧ i ≤ src.1.length ∧ ∃ φ' G' g' S2, Step φ1 G1 H1 φ' G' H' ∧ Wd X.K cl φ' S2 G' H' ∧ Sl X.K cl φ' G' g' σ' ∧ forGo src b mb (src.1.drop i) g' S2 = some (o, S'),
      ⟨_, rfl, Nat.zero_le _, φ1, G1, g, S1, Step.refl _ _ _, w1, s.step st1, e⟩, ?_⟩
    rintro i m σ' H' ⟨rfl, hle, φ', G', g', S2, st2, w2, s2, e2⟩
    cases hd : src.1.drop i with
    | nil =>
      have hi : i = src.1.length := by
        have := congrArg List.length hd
        simp at this; omega
      subst hi
      rw [hd] at e2
      unfold forGo at e2
      split at e2
      · rename_i hok
        cases e2
        exact .inl ⟨wk.stops _ (hG _ _ _ _ st2 w2 hok), k.step T.ok (st1.trans st2) φ' G' H' (Step.refl _ _ _) w2 _ s2⟩
      · cases e2
    | cons d ds =>
      obtain ⟨hd1, hd2, hlt⟩ := drop_get hd
      rw [hd] at e2
      unfold forGo at e2
      split at e2
      · rename_i hok
        split at e2
        · cases e2
        · rename_i g1 hb1
          refine .inr ⟨wk.goes _ _ hlt (hG _ _ _ _ st2 w2 hok), fun σ3 H3 => ∃ φ3 G3 g3 S3, Step φ1 G1 H1 φ3 G3 H3 ∧ Wd X.K cl φ3 S3 G3 H3 ∧ Sl X.K cl φ3 G3 g3 σ3 ∧ forGo src b mb ds g3 S3 = some (o, S'), fun σ3 H3 ⟨φ3, G3, g3, S3, a1, a2, a3, a4⟩ => ⟨src.1.length - (i + 1), by omega, rfl, hlt, φ3, G3, g3, S3, a1, a2, a3, by rw [hd2]; exact a4⟩, fun x H3 hy => ?_⟩
          obtain ⟨G3, st3, w3, hx⟩ := hY _ _ _ _ i d x H3 st2 w2 hok hd1 (wk.yields _ _ _ _ hlt (hG _ _ _ _ st2 w2 hok) hy)
          refine ⟨φ', G3, g', S2, d, g1, w3, s2.step st3, hx, hb1, fun σ4 s4 => ?_⟩
          have k3 := k.step T.ok ((st1.trans st2).trans st3)
          split at e2
          · rename_i g2 S3 q3
            exact ⟨φ', G3, g1, S2, _, _, w3, s4, q3, fun φ4 G4 H4 st4 w4 σ5 s5 => ⟨φ4, G4, g2, S3, (st2.trans st3).trans st4, w4, s5, e2⟩⟩
          · rename_i g2 S3 q3
            exact ⟨φ', G3, g1, S2, _, _, w3, s4, q3, fun φ4 G4 H4 st4 w4 σ5 s5 => ⟨φ4, G4, g2, S3, (st2.trans st3).trans st4, w4, s5, e2⟩⟩
          · rename_i g2 S3 q3
            cases e2
            exact ⟨φ', G3, g1, S2, _, _, w3, s4, q3, k3⟩
          · rename_i d2 S3 q3
            cases e2
            exact ⟨φ', G3, g1, S2, _, _, w3, s4, q3, k3⟩
          · rename_i c fs S3 q3
            cases e2
            exact ⟨φ', G3, g1, S2, _, _, w3, s4, q3, k3⟩
          · cases e2
      · cases e2
  · rename_i c fs S1 q
    cases e
    exact ⟨φ, G, g, S, _, _, w, s, q, k⟩
  · cases e

/-! ### while: by fuel -/
def whileGo (c : M Bool) (body : MS) : Nat → MS
  | 0 => fun _ _ => none
  | n + 1 => fun g S => match c g S with
    | some (.ok true, S1) => match body g S1 with
      | some (.nx g2, S2) => whileGo c body n g2 S2
      | some (.ct g2, S2) => whileGo c body n g2 S2
      | some (.bk g2, S2) => some (.nx g2, S2)
      | some (.rt d, S2) => some (.rt d, S2)
      | some (.ex g2 c fs, S2) => some (.ex g2 c fs, S2)
      | none => none
    | some (.ok false, S1) => some (.nx g, S1)
    | some (.exc c fs, S1) => some (.ex g c fs, S1)
    | none => none
theorem rs_while {c : Expr} {body : List Stmt} {pos : Pos} {mc : M Bool} {mb : MS} (n : Nat) (hp : PassesOwn (model X.prog X.w) X.A X.env X.xe) (hc : RT X cl tk c mc) (hb : RSs X cl tk body mb) : RS X cl tk (.While c body [] pos) (whileGo mc mb n) := by
  refine ps_imp (ps_while hp hc hb) fun Dn σ H ⟨φ, G, g, S, o, S', w, s, e, k⟩ => ?_
  refine ⟨fun m σ' H' => ∃ φ' G' g' S2, Step φ G H φ' G' H' ∧ Wd X.K cl φ' S2 G' H' ∧ Sl X.K cl φ' G' g' σ' ∧ whileGo mc mb m g' S2 = some (o, S'), ⟨n, φ, G, g, S, Step.refl _ _ _, w, s, e⟩, ?_⟩
  rintro m σ' H' ⟨φ', G', g', S2, st2, w2, s2, e2⟩
  cases m with
  | zero => cases e2
  | succ m =>
    unfold whileGo at e2
    have k2 := k.step T.ok st2
    split at e2
    · rename_i S3 q
      refine ⟨φ', G', g', S2, _, _, w2, s2, q, fun φ3 G3 H3 st3 w3 => ?_⟩
      show (if true = true then _ else _)
      rw [if_pos rfl]
      have k3 := k2.step T.ok st3
      refine ⟨fun σ4 H4 => ∃ φ4 G4 g4 S4, Step φ G H φ4 G4 H4 ∧ Wd X.K cl φ4 S4 G4 H4 ∧ Sl X.K cl φ4 G4 g4 σ4 ∧ whileGo mc mb m g4 S4 = some (o, S'), fun σ4 H4 q4 => ⟨m, Nat.lt_succ_self _, q4⟩, ?_⟩
      split at e2
      · rename_i g2 S4 q3
        exact ⟨φ3, G3, g', S3, _, _, w3, s2.step st3, q3, fun φ4 G4 H4 st4 w4 σ5 s5 => ⟨φ4, G4, g2, S4, (st2.trans st3).trans st4, w4, s5, e2⟩⟩
      · rename_i g2 S4 q3
        exact ⟨φ3, G3, g', S3, _, _, w3, s2.step st3, q3, fun φ4 G4 H4 st4 w4 σ5 s5 => ⟨φ4, G4, g2, S4, (st2.trans st3).trans st4, w4, s5, e2⟩⟩
      · rename_i g2 S4 q3
        cases e2
        exact ⟨φ3, G3, g', S3, _, _, w3, s2.step st3, q3, k3⟩
      · rename_i g2 S4 q3
        cases e2
        exact ⟨φ3, G3, g', S3, _, _, w3, s2.step st3, q3, k3⟩
      · rename_i c fs S4 q3
        cases e2
        exact ⟨φ3, G3, g', S3, _, _, w3, s2.step st3, q3, k3⟩
      · cases e2
    · rename_i S3 q
      cases e2
      refine ⟨φ', G', g', S2, _, _, w2, s2, q, fun φ3 G3 H3 st3 w3 => ?_⟩
      show (if false = true then _ else _)
      rw [if_neg Bool.false_ne_true]
      exact k2.step T.ok st3 φ3 G3 H3 (Step.refl _ _ _) w3 _ (s2.step st3)
    · rename_i c fs S3 q
      cases e2
      exact ⟨φ', G', g', S2, _, _, w2, s2, q, k2⟩
    · cases e2

/-! ### what may be walked -/
def mSrc (f : D → Option (List D)) (m : M D) : M Src := mB m fun d => mL fun _ => (f d).map fun l => (l, none)
theorem walk_at {J : It} {φ : List Addr} {G H : Hp} {src : Src} {Gd : Hp → Prop} {Y : Nat → Hp → V → Hp → Prop} (wk : Walk J src.1.length Gd Y)
    (hG : ∀ φ' S' G' H', Step φ G H φ' G' H' → Wd K cl φ' S' G' H' → srcOk S' src → Gd H') (hY : ∀ φ' S' G' H' i d x H2, Step φ G H φ' G' H' → Wd K cl φ' S' G' H' → srcOk S' src → src.1[i]? = some d → Y i H' x H2 → H2 = H' ∧ IsD K φ' G' d x) : WalkD K cl J φ G H src :=
  ⟨Gd, Y, wk, hG, fun φ' S' G' H' i d x H2 st w ok hd y => by
    obtain ⟨rfl, h⟩ := hY φ' S' G' H' i d x H2 st w ok hd y
    exact ⟨G', Step.refl _ _ _, w, h⟩⟩
/-- a list: frozen, the script, or a cell -/
def mIL (m : M D) : M Src := mB m fun d => mL fun S => match d with
  | .lst l => some (l, none)
  | .scr l => some (l.map D.int, none)
  | .ref i => match S[i]? with
    | some (.lst l) => some (l, some i)
    | _ => none
  | _ => none
theorem ri_list {tg a : Expr} {m : M D} (h : RE X cl tk a m) : RI X cl tk tg a (mIL m) := by
  refine pi_imp (pi_list h) fun σ H R ⟨φ, G, g, S, r, S', w, s, e, k⟩ => ?_
  refine tM_bind T.ok w s e k fun d φ1 G1 H1 S1 x st1 w1 s1 hx e1 k1 => ?_
  obtain ⟨z, ez, rfl, rfl⟩ := mL_ok e1
  cases d <;> try (cases ez; done)
  · cases ez
    rename_i l
    simp only [IsD] at hx
    obtain ⟨a', xs, rfl, h1, h2⟩ := hx
    refine ⟨a', rfl, ⟨xs, SqL.of (w1.sub _ _ h1)⟩, k1.now w1 _ ?_⟩
    refine walk_at (Gd := fun H => SqL X.K H a' xs) (Y := YAt xs) (by show Walk _ l.length _ _; rw [h2.length]; exact walk_list) (fun φ' S' G' H' st w' _ => SqL.of (w'.sub _ _ (st.ex _ _ h1))) fun φ' S' G' H' i d x H2 st w' _ hd ⟨y1, y2⟩ => ⟨y1, ?_⟩
    obtain ⟨v, h3, h4⟩ := h2.get hd
    rw [y2] at h3; cases h3
    exact h4.mono st.pre st.ex
  · cases ez
    rename_i l
    simp only [IsD] at hx
    obtain ⟨a', rfl, h1⟩ := hx
    refine ⟨a', rfl, ⟨_, Ex.l w1.sub h1⟩, k1.now w1 _ ?_⟩
    refine walk_at (Gd := fun H => SqL X.K H a' (l.map V.int)) (Y := YAt (l.map V.int)) (by show Walk _ (l.map D.int).length _ _; rw [List.length_map, ← List.length_map (f := V.int)]; exact walk_list) (fun φ' S' G' H' st w' _ => Ex.l (st.ex.trans w'.sub) h1) fun φ' S' G' H' i d x H2 st w' _ hd ⟨y1, y2⟩ => ⟨y1, ?_⟩
    simp only [List.getElem?_map] at hd y2
    cases q : l[i]? with
    | none => rw [q] at y2; cases y2
    | some n =>
      rw [q] at y2 hd
      cases y2; cases hd
      simp only [IsD]
  · rename_i i
    simp only [IsD] at hx
    obtain ⟨a', rfl, h1⟩ := hx
    simp only at ez
    split at ez
    · cases ez
      rename_i l hi
      obtain ⟨vs, h3, h4⟩ := w1.ok _ _ _ hi h1
      refine ⟨a', rfl, ⟨vs, SqL.of h3⟩, k1.now w1 _ ?_⟩
      refine ⟨fun H => ∃ ws, SqL X.K H a' ws ∧ ws.length = l.length, fun n H x H' => H' = H ∧ ∀ ws, SqL X.K H a' ws → ws[n]? = some x, ⟨fun n H hn ⟨ws, q1, q2⟩ => ⟨ws, ws[n], q1, by simp [q2, hn]⟩, fun H ⟨ws, q1, q2⟩ => ⟨ws, q1, by show ws.length ≤ l.length; omega⟩, fun n H x H' hn ⟨ws, q1, q2⟩ y => y⟩, fun φ' S' G' H' st w' ok => ?_, fun φ' S' G' H' n d x H2 st w' ok hd ⟨y1, y2⟩ => ?_⟩
      · obtain ⟨us, q1, q2⟩ := w'.ok _ _ _ ok (pre_get st.pre h1)
        exact ⟨us, SqL.of q1, by rw [← q2.length]⟩
      · subst y1
        obtain ⟨us, q1, q2⟩ := w'.ok _ _ _ ok (pre_get st.pre h1)
        obtain ⟨v, h5, h6⟩ := q2.get hd
        rw [y2 us (SqL.of q1)] at h5; cases h5
        exact ⟨G', Step.refl _ _ _, w', h6⟩
    · cases ez
end
end Mi
namespace Mi
open PySem L2
section
variable {X : Cx} {cl : Cl} {tk : WX → Prop} [T : Tk X tk]
variable {K : PySem.W.Frag}

/-! ### anything that may be walked by its value -/
def chars (z : Str) : List D := z.cps.toList.map fun c => .str ⟨#[c]⟩
def mI (m : M D) : M Src := mB m fun d => mL fun S => match d with
  | .lst l => some (l, none)
  | .scr l => some (l.map D.int, none)
  | .tup l => some (l, none)
  | .str z => some (chars z, none)
  | .ref i => match S[i]? with
    | some (.lst l) => some (l, some i)
    | _ => none
  | _ => none
theorem walk_tupD {φ : List Addr} {G H : Hp} {a' : Addr} {xs : List V} {l : List D} (h1 : SqT K G a' xs) (h2 : IsDs K φ G l xs) : WalkD K cl (Itt K a') φ G H (l, none) :=
  walk_at (Gd := fun H => SqT K H a' xs) (Y := YAt xs) (by show Walk _ l.length _ _; rw [h2.length]; exact walk_tup) (fun φ' S' G' H' st w' _ => Ex.t (st.ex.trans w'.sub) h1) fun φ' S' G' H' i d x H2 st w' _ hd ⟨y1, y2⟩ => ⟨y1, by
    obtain ⟨v, h3, h4⟩ := h2.get hd
    rw [y2] at h3; cases h3
    exact h4.mono st.pre st.ex⟩
theorem walk_strD {φ : List Addr} {G H : Hp} {z : Str} : WalkD K cl (Its z) φ G H (chars z, none) :=
  walk_at (src := (chars z, none)) (Gd := fun _ => True) (Y := fun i H v H' => H' = H ∧ ∃ c, z.cps[i]? = some c ∧ v = .str ⟨#[c]⟩) (by have e : (chars z).length = z.cps.size := by simp [chars]
                                                                                                                                       show Walk _ (chars z).length _ _; rw [e]; exact walk_str) (fun _ _ _ _ _ _ _ => trivial) fun φ' S' G' H' i d x H2 st w' _ hd ⟨y1, c, y2, y3⟩ => ⟨y1, by
    have hd' : (chars z)[i]? = some d := hd
    unfold chars at hd'
    rw [List.getElem?_map, Array.getElem?_toList, y2] at hd'
    cases hd'
    subst y3
    simp only [IsD]⟩
theorem ri_any {tg a : Expr} {m : M D} (h : RE X cl tk a m) : RI X cl tk tg a (mI m) := by
  refine ⟨fun pins s σ H R I q => ?_⟩
  obtain ⟨φ, G, g, S, r, S', w, sl, e, k⟩ := q
  have lst : mIL m g S = some (r, S') → wpAny (model X.prog X.w) X.A (eval a X.env) (fun v s1 => wpAny (model X.prog X.w) X.A (pyIter v) (PIE X pins σ tg R) X.xe s1) X.xe s := fun e' =>
    (ri_list h).run pins s σ H R I ⟨φ, G, g, S, r, S', w, sl, e', k⟩
  rcases mB_ok e with ⟨d, S1, e1, e2⟩ | ⟨c, fs, e1, rfl⟩
  · obtain ⟨z, ez, rfl, rfl⟩ := mL_ok e2
    cases d with
    | lst l => exact lst (by unfold mIL mB; rw [e1]; exact e2)
    | scr l => exact lst (by unfold mIL mB; rw [e1]; exact e2)
    | ref i => exact lst (by unfold mIL mB; rw [e1]; exact e2)
    | tup l =>
      cases ez
      refine (pi_tup h).run pins s σ H R I ⟨φ, G, g, S, _, _, w, sl, e1, fun φ1 G1 H1 st1 w1 v hv => ?_⟩
      simp only [IsD] at hv
      obtain ⟨a', xs, rfl, h1, h2⟩ := hv
      exact ⟨a', rfl, ⟨xs, Ex.t w1.sub h1⟩, k φ1 G1 H1 st1 w1 _ (walk_tupD h1 h2)⟩
    | str z =>
      cases ez
      refine (pi_str h).run pins s σ H R I ⟨φ, G, g, S, _, _, w, sl, e1, fun φ1 G1 H1 st1 w1 v hv => ?_⟩
      simp only [IsD] at hv
      exact ⟨z, hv, k φ1 G1 H1 st1 w1 _ walk_strD⟩
    | non => cases ez
    | bl b => cases ez
    | int b => cases ez
  · exact lst (by unfold mIL mB; rw [e1])
/-- range -/
def rngD (lo : Int) (n : Nat) : List D := (List.range n).map fun (i : Nat) => .int (lo + (i : Int))
theorem walk_rngD {φ : List Addr} {G H : Hp} {lo : Int} {n : Nat} : WalkD K cl (Itr lo n) φ G H (rngD lo n, none) :=
  walk_at (src := (rngD lo n, none)) (Gd := fun _ => True) (Y := YFn fun i => .int (lo + i)) (by have e : (rngD lo n).length = n := by simp [rngD]
                                                                                                 show Walk _ (rngD lo n).length _ _; rw [e]; exact walk_range) (fun _ _ _ _ _ _ _ => trivial) fun φ' S' G' H' i d x H2 st w' _ hd ⟨y1, y2⟩ => ⟨y1, by
    have hd' : (rngD lo n)[i]? = some d := hd
    unfold rngD at hd'
    rw [List.getElem?_map] at hd'
    cases q : (List.range n)[i]? with
    | none => rw [q] at hd'; cases hd'
    | some j =>
      rw [q] at hd'
      cases hd'
      obtain ⟨h1, h2⟩ := List.getElem?_eq_some_iff.mp q
      simp at h2
      subst h2 y2
      simp only [IsD]⟩
noncomputable def big62 (i : Int) : Bool := cdec (-(2 ^ 62) ≤ i ∧ i < 2 ^ 62)
noncomputable def mRng (m : M (List D)) : M Src := mB m fun ds => mL fun _ => match ds with
  | [.int j] => if big62 j = true then some (rngD 0 j.toNat, none) else none
  | [.int i, .int j] => if big62 i = true ∧ big62 j = true then some (rngD i (j - i).toNat, none) else none
  | _ => none
theorem ri_range1 {tg a : Expr} {p pos : Pos} {m : M (List D)} (hm : X.mg "range" = none) (h : RA X cl tk [a] m) (hl : ∀ g S r S', m g S = some (.ok r, S') → r.length = 1) (hg : Gl X "range" := by rfl) (hs : starEach [a] X.env = [(false, eval a X.env)] := by rfl) : RI X cl tk tg (.Call (.Name "range" p) [a] [] pos) (mRng m) := by
  refine pi_imp (pi_range1 hg hm h hs) fun σ H R ⟨φ, G, g, S, r, S', w, s, e, k⟩ => ?_
  rcases mB_ok e with ⟨ds, S1, e1, e2⟩ | ⟨c, fs, e1, rfl⟩
  · refine ⟨φ, G, g, S, _, _, w, s, e1, fun φ1 G1 H1 st1 w1 vs hv => ?_⟩
    obtain ⟨z, ez, rfl, rfl⟩ := mL_ok e2
    have hl1 := hl _ _ _ _ e1
    split at ez
    · split at ez
      · rename_i j hj
        cases ez
        obtain ⟨v, t, rfl, h1, h2⟩ := hv.cons_inv
        rw [h2.nil_inv]
        simp only [IsD] at h1
        subst h1
        have hb := cdec_iff.mp hj
        exact ⟨j, rfl, hb.1, hb.2, k φ1 G1 H1 st1 w1 _ walk_rngD⟩
      · cases ez
    · cases hl1
    · cases ez
  · exact ⟨φ, G, g, S, _, _, w, s, e1, k⟩
theorem ri_range2 {tg a b : Expr} {p pos : Pos} {m : M (List D)} (hm : X.mg "range" = none) (h : RA X cl tk [a, b] m) (hl : ∀ g S r S', m g S = some (.ok r, S') → r.length = 2) (hg : Gl X "range" := by rfl) (hs : starEach [a, b] X.env = [(false, eval a X.env), (false, eval b X.env)] := by rfl) (hs2 : starEach [b] X.env = [(false, eval b X.env)] := by rfl) :
    RI X cl tk tg (.Call (.Name "range" p) [a, b] [] pos) (mRng m) := by
  refine pi_imp (pi_range2 hg hm h hs hs2) fun σ H R ⟨φ, G, g, S, r, S', w, s, e, k⟩ => ?_
  rcases mB_ok e with ⟨ds, S1, e1, e2⟩ | ⟨c, fs, e1, rfl⟩
  · refine ⟨φ, G, g, S, _, _, w, s, e1, fun φ1 G1 H1 st1 w1 vs hv => ?_⟩
    obtain ⟨z, ez, rfl, rfl⟩ := mL_ok e2
    have hl1 := hl _ _ _ _ e1
    split at ez
    · cases hl1
    · split at ez
      · rename_i i j hj
        cases ez
        obtain ⟨v, t, rfl, h1, h2⟩ := hv.cons_inv
        obtain ⟨v2, t2, rfl, h3, h4⟩ := h2.cons_inv
        rw [h4.nil_inv]
        simp only [IsD] at h1 h3
        subst h1 h3
        have hb := cdec_iff.mp hj.1
        have hb2 := cdec_iff.mp hj.2
        exact ⟨i, j, rfl, ⟨hb.1, hb.2, hb2.1, hb2.2⟩, k φ1 G1 H1 st1 w1 _ walk_rngD⟩
      · cases ez
    · cases ez
  · exact ⟨φ, G, g, S, _, _, w, s, e1, k⟩
theorem len_cons {m : M D} {n : M (List D)} {k : Nat} (h : ∀ g S r S', n g S = some (.ok r, S') → r.length = k) : ∀ g S r S', mCons m n g S = some (.ok r, S') → r.length = k + 1 := fun g S r S' e => by
  rcases mB_ok e with ⟨d, S1, e1, e2⟩ | ⟨c, fs, e1, q⟩
  · rcases mB_ok e2 with ⟨ds, S2, e3, e4⟩ | ⟨c, fs, e3, q⟩
    · cases e4
      rw [List.length_cons, h _ _ _ _ e3]
    · cases q
  · cases q
theorem len_nil : ∀ g S r S', mNil g S = some (.ok r, S') → r.length = 0 := fun g S r S' e => by cases e; rfl
/-- enumerate of a list -/
def enumD (l : List D) : List D := (List.range l.length).zipWith (fun (i : Nat) d => .tup [.int i, d]) l

/-! ### a comprehension -/
open Classical in
noncomputable def lcGo (src : Src) (b : Bind) (mt : M Bool) (me : M D) (g0 : Gm) : List D → List D → Store → Option (List D × Store)
  | [], acc, S => if srcOk S src then some (acc, S) else none
  | d :: ds, acc, S => if srcOk S src then
      match b d g0 with
      | none => none
      | some g1 => match mt g1 S with
        | some (.ok true, S1) => match me g1 S1 with
          | some (.ok z, S2) => if szOk (acc.length + 1) = true then lcGo src b mt me g0 ds (acc ++ [z]) S2 else none
          | _ => none
        | some (.ok false, S1) => lcGo src b mt me g0 ds acc S1
        | _ => none
    else none
def wipeG (g : Gm) : List Nat → Gm
  | [] => g
  | v :: vs => (wipeG g vs).set v none
noncomputable def mLc (vs : List Nat) (mi : M Src) (b : Bind) (mt : M Bool) (me : M D) : M D := mB mi fun src => fun g S =>
  match lcGo src b mt me (wipeG g vs) src.1 [] S with
  | some (l, S1) => some (.ok (.lst l), S1)
  | none => none
theorem sl_wipe (hh : cl.hd = none) {φ : List Addr} {G : Hp} {g : Gm} {σ : St} (s : Sl K cl φ G g σ) : ∀ vs : List Nat, Sl K cl φ G (wipeG g vs) (wipe σ vs)
  | [] => s
  | v :: vs => (sl_wipe hh s vs).wipe hh
theorem wipe_get (σ : St) (i : Nat) : ∀ vs : List Nat, (wipe σ vs)[i]? = if i ∈ vs then (σ[i]?).map (fun _ => none) else σ[i]?
  | [] => by simp [wipe]
  | v :: vs => by
    unfold wipe
    rw [List.getElem?_set]
    by_cases h : v = i
    · subst h
      rw [if_pos rfl, if_pos List.mem_cons_self, wipe_length]
      by_cases hl : v < σ.length
      · rw [if_pos hl, List.getElem?_eq_getElem hl]; rfl
      · rw [if_neg hl, List.getElem?_eq_none (by omega)]; rfl
    · rw [if_neg h, wipe_get σ i vs]
      have e : (i ∈ v :: vs) ↔ i ∈ vs := by simp [Ne.symm h]
      simp only [e]
theorem wipe_twice (σ : St) (vs : List Nat) : wipe (wipe σ vs) vs = wipe σ vs := by
  apply List.ext_getElem?
  intro i
  rw [wipe_get, wipe_get]
  split
  · cases σ[i]? <;> rfl
  · rfl
theorem wipe_set (σ : St) (vs : List Nat) {i : Nat} (x : Option V) (h : i ∈ vs) : wipe (σ.set i x) vs = wipe σ vs := by
  apply List.ext_getElem?
  intro j
  rw [wipe_get, wipe_get]
  split
  · rw [List.getElem?_set]
    split
    · rename_i e; subst e
      split
      · rename_i hl; rw [List.getElem?_eq_getElem hl]; rfl
      · rename_i hl; rw [List.getElem?_eq_none (by omega)]
    · rfl
  · rename_i hn
    rw [List.getElem?_set_ne (fun e : i = j => hn (by rw [← e]; exact h))]
/-- targets of a block: the block's own names alone -/
def tGw (K : PySem.W.Frag) (cl : Cl) (vs : List Nat) (b : Bind) : TG := fun v σ H Q => ∃ φ G g S d g', Wd K cl φ S G H ∧ Sl K cl φ G g σ ∧ IsD K φ G d v ∧ b d g = some g' ∧ ∀ σ', Sl K cl φ G g' σ' → wipe σ' vs = wipe σ vs → Q σ' H
def tGsw (K : PySem.W.Frag) (cl : Cl) (vs : List Nat) (b : Binds) : TGs := fun v σ H Q => ∃ φ G g S d g', Wd K cl φ S G H ∧ Sl K cl φ G g σ ∧ IsDs K φ G d v ∧ b d g = some g' ∧ ∀ σ', Sl K cl φ G g' σ' → wipe σ' vs = wipe σ vs → Q σ' H
abbrev RGw (X : Cx) (cl : Cl) (vs : List Nat) (tg : Expr) (b : Bind) : Prop := PG X tg (tGw X.K cl vs b)
abbrev RGsw (X : Cx) (cl : Cl) (vs : List Nat) (tg : List Expr) (b : Binds) : Prop := PGs X tg (tGsw X.K cl vs b)
theorem rgw_name {vs : List Nat} {i : Nat} {x : Str} {pos : Pos} (hN : X.N.Nodup) (hv : i ∈ vs := by decide) (hi : X.N[i]? = some x := by rfl) (hx : Loc X.env.scope x := by first | exact Or.inl rfl | exact Or.inr rfl) (hf : X.fn x = true ∨ X.env.scope.names.lookup x = some .local := by first | exact .inl rfl | exact .inr rfl | assumption) : RGw X cl vs (.Name x pos) (bN i) := by
  refine pg_imp (pg_name hN hi hx hf) fun v σ H Q ⟨φ, G, g, S, d, g', w, s, hv', e, k⟩ => ?_
  cases e
  exact k _ (s.set hv') (wipe_set _ _ _ hv)
theorem rgsw_nil {vs : List Nat} : RGsw X cl vs [] bNil := by
  refine pgs_imp pgs_nil fun v σ H Q ⟨φ, G, g, S, d, g', w, s, hv, e, k⟩ => ?_
  cases d <;> cases e
  exact ⟨hv.nil_inv, k _ s rfl⟩
theorem rgsw_cons {vs : List Nat} {a : Expr} {es : List Expr} {b : Bind} {bs : Binds} (h1 : RGw X cl vs a b) (h2 : RGsw X cl vs es bs) (hs : (assignEach (a :: es) X.env).map (·.2) = assign a X.env :: (assignEach es X.env).map (·.2) := by rfl) : RGsw X cl vs (a :: es) (bCons b bs) := by
  refine pgs_imp (pgs_cons h1 h2 hs) fun v σ H Q ⟨φ, G, g, S, ds, g', w, s, hv, e, k⟩ => ?_
  cases ds with
  | nil => cases e
  | cons d r =>
    obtain ⟨v1, r1, rfl, h3, h4⟩ := hv.cons_inv
    unfold bCons at e
    cases q : b d g with
    | none => simp only [q] at e; cases e
    | some g1 =>
      simp only [q] at e
      exact ⟨v1, r1, rfl, φ, G, g, S, d, g1, w, s, h3, q, fun σ1 s1 w1 => ⟨φ, G, g1, S, r, g', w, s1, h4, e, fun σ2 s2 w2 => k σ2 s2 (w2.trans w1)⟩⟩
theorem rgw_tup {vs : List Nat} {es : List Expr} {kk : Nat} {pos : Pos} {bs : Binds} {n : Nat} (h : RGsw X cl vs es bs) (hc : X.calm = true := by rfl) (hn : (assignEach es X.env).length = n := by rfl) (hst : (assignEach es X.env).findIdx? (·.1) = none := by rfl) : RGw X cl vs (.Tuple es kk pos) (bTup n bs) := by
  refine pg_imp (pg_tup hc h hn hst) fun v σ H Q ⟨φ, G, g, S, d, g', w, s, hv, e, k⟩ => ?_
  cases d <;> try (cases e; done)
  rename_i l
  unfold bTup at e
  simp only at e
  split at e
  · rename_i hl
    simp only [IsD] at hv
    obtain ⟨a, xs, rfl, h3, h4⟩ := hv
    exact ⟨a, xs, rfl, Ex.t w.sub h3, by rw [← h4.length]; exact hl, φ, G, g, S, l, g', w, s, h4, e, k⟩
  · cases e
structure LcSt (K : PySem.W.Frag) (cl : Cl) (φ1 : List Addr) (G1 H1 : Hp) (S : Store) (acc : List D) (L : Addr) (H : Hp) (φ : List Addr) (G : Hp) : Prop where
  st : Step φ1 G1 H1 φ G H
  w : Wd K cl φ S G H
  g : G L = none
  nφ : L ∉ φ
  at_ : ∃ vs, H L = some (.lst vs) ∧ IsDs K φ G acc vs
theorem LcSt.step {φ1 : List Addr} {G1 H1 : Hp} {S S' : Store} {acc : List D} {L : Addr} {H H' : Hp} {φ φ' : List Addr} {G G' : Hp} (a : LcSt K cl φ1 G1 H1 S acc L H φ G) (st : Step φ G H φ' G' H') (w : Wd K cl φ' S' G' H') : LcSt K cl φ1 G1 H1 S' acc L H' φ' G' := by
  obtain ⟨vs, h1, h2⟩ := a.at_
  refine ⟨a.st.trans st, w, ?_, fun h => ?_, vs, st.keep _ _ h1 a.nφ, h2.mono st.pre st.ex⟩
  · cases q : G' L with
    | none => rfl
    | some o =>
      rcases st.gn L (by rw [q]; simp) with h | h | h
      · exact absurd a.g h
      · rw [h1] at h; cases h
      · exact absurd h a.nφ
  · rcases st.new L h with h | h
    · exact a.nφ h
    · rw [h1] at h; cases h
theorem LcSt.app {φ1 : List Addr} {G1 H1 : Hp} {S : Store} {acc : List D} {L : Addr} {H : Hp} {φ : List Addr} {G : Hp} (hL : H1 L = none) (a : LcSt K cl φ1 G1 H1 S acc L H φ G) {d : D} {v : V} (hv : IsD K φ G d v) :
    ∃ vs, H L = some (.lst vs) ∧ vs.length = acc.length ∧ LcSt K cl φ1 G1 H1 S (acc ++ [d]) L (upd H L (.lst (vs ++ [v]))) φ G := by
  obtain ⟨vs, h1, h2⟩ := a.at_
  refine ⟨vs, h1, h2.length.symm, ⟨a.st.pre, a.st.ex, a.st.gn, fun x o h hx => ?_, a.st.new⟩, ⟨a.w.len, fun x o h => ?_, a.w.nd, fun x hx => ?_, a.w.ap, fun i c x q1 q2 => ?_, a.w.iv⟩, a.g, a.nφ, _, upd_same, h2.append (.cons hv .nil)⟩
  · have ne : x ≠ L := fun z => by rw [z, hL] at h; cases h
    rw [upd_ne ne]; exact a.st.keep x o h hx
  · have ne : x ≠ L := fun z => by rw [z, a.g] at h; cases h
    rw [upd_ne ne]; exact a.w.sub x o h
  · have ne : x ≠ L := fun z => by rw [z] at hx; exact a.nφ hx
    rw [upd_ne ne]; exact a.w.tr x hx
  · have ne : x ≠ L := fun z => by rw [z] at q2; exact a.nφ (List.mem_of_getElem? q2)
    exact (a.w.ok i c x q1 q2).mono (List.prefix_refl _) (Ex.refl _) fun o h => by rw [upd_ne ne]; exact h
/-- the list becomes stable -/
theorem LcSt.fin {φ1 : List Addr} {G1 H1 : Hp} {S : Store} {acc : List D} {L : Addr} {H : Hp} {φ : List Addr} {G : Hp} (hL : H1 L = none) (a : LcSt K cl φ1 G1 H1 S acc L H φ G) :
    ∃ vs, H L = some (.lst vs) ∧ Step φ1 G1 H1 φ (upd G L (.lst vs)) H ∧ Wd K cl φ S (upd G L (.lst vs)) H ∧ IsD K φ (upd G L (.lst vs)) (.lst acc) (.ref L) := by
  obtain ⟨vs, h1, h2⟩ := a.at_
  have ex : Ex G (upd G L (.lst vs)) := Ex.new a.g
  refine ⟨vs, h1, ⟨a.st.pre, a.st.ex.trans ex, fun x h => ?_, a.st.keep, a.st.new⟩, ⟨a.w.len, fun x o h => ?_, a.w.nd, a.w.tr, fun i c x q1 q2 q3 => ?_, fun i c x q1 q2 => (a.w.ok i c x q1 q2).mono (List.prefix_refl _) ex fun o h => h, cl.mono _ _ ex a.w.iv⟩, ?_⟩
  · by_cases e : x = L
    · subst e; exact .inr (.inl hL)
    · rw [upd_ne e] at h; exact a.st.gn x h
  · by_cases e : x = L
    · subst e; rw [upd_same] at h; rw [← h]; exact h1
    · rw [upd_ne e] at h; exact a.w.sub x o h
  · have ne : x ≠ L := fun z => by rw [z] at q2; exact a.nφ (List.mem_of_getElem? q2)
    rw [upd_ne ne]; exact a.w.ap i c x q1 q2 q3
  · simp only [IsD]
    exact ⟨L, vs, rfl, upd_same, h2.mono (List.prefix_refl _) ex⟩
theorem tLc_of (hh : cl.hd = none) {vs : List Nat} {mi : M Src} {b : Bind} {mt : M Bool} {me : M D} (ht : TkOk tk) {σ : St} {H : Hp} {Q : VK}
    (h : tM K cl tk (mLc vs mi b mt me) σ H Q) : tLc (tI K cl tk mi) (tGw K cl vs b) (tMT K cl (fun _ => False) mt) (tM K cl (fun _ => False) me) vs σ H Q := by
  obtain ⟨φ, G, g, S, r, S', w, s, e, k⟩ := h
  rcases mB_ok e with ⟨src, S1, e1, e2⟩ | ⟨c, fs, e1, rfl⟩
  · refine ⟨φ, G, g, S, _, _, w, s, e1, fun φ1 G1 H1 st1 w1 J wj L hL => ?_⟩
    obtain ⟨Gd, Y, wk, hG, hY⟩ := wj.ex
    have k1 := k.step ht st1
    split at e2
    · rename_i l S2 q
      cases e2
      refine ⟨fun i m H' => m = src.1.length - i ∧ i ≤ src.1.length ∧ ∃ φ' G' S2 acc, LcSt K cl φ1 G1 H1 S2 acc L H' φ' G' ∧ lcGo src b mt me (wipeG g vs) (src.1.drop i) acc S2 = some (l, S'), ⟨_, rfl, Nat.zero_le _, φ1, G1, S1, [], ?_, q⟩, ?_⟩
      · refine ⟨⟨List.prefix_refl _, Ex.refl _, fun x h => .inl h, fun x o h _ => Ex.new hL x o h, fun x h => .inl h⟩, ⟨w1.len, w1.sub.trans (Ex.new hL), w1.nd, fun x hx => ?_, w1.ap, fun i c x q1 q2 => (w1.ok i c x q1 q2).mono (List.prefix_refl _) (Ex.refl _) (Ex.new hL x), w1.iv⟩, w1.gnone hL, fun h => w1.tr L h hL, [], upd_same, .nil⟩
        by_cases e : x = L
        · subst e; rw [upd_same]; simp
        · rw [upd_ne e]; exact w1.tr x hx
      · rintro i m H' ⟨rfl, hle, φ', G', S2, acc, a, e3⟩
        cases hd : src.1.drop i with
        | nil =>
          have hi : i = src.1.length := by
            have := congrArg List.length hd
            simp at this; omega
          subst hi
          rw [hd] at e3
          unfold lcGo at e3
          split at e3
          · rename_i hok
            cases e3
            obtain ⟨us, h1, h2, h3, h4⟩ := a.fin hL
            exact .inl ⟨wk.stops _ (hG _ _ _ _ a.st a.w hok), k1 _ _ _ h2 h3 _ h4⟩
          · cases e3
        | cons d ds =>
          obtain ⟨hd1, hd2, hlt⟩ := drop_get hd
          rw [hd] at e3
          unfold lcGo at e3
          split at e3
          · rename_i hok
            split at e3
            · cases e3
            · rename_i g1 hb1
              refine .inr ⟨wk.goes _ _ hlt (hG _ _ _ _ a.st a.w hok), fun H3 => ∃ φ3 G3 S3 acc3, LcSt K cl φ1 G1 H1 S3 acc3 L H3 φ3 G3 ∧ lcGo src b mt me (wipeG g vs) ds acc3 S3 = some (l, S'), fun H3 ⟨φ3, G3, S3, acc3, a1, a2⟩ => ⟨src.1.length - (i + 1), by omega, rfl, hlt, φ3, G3, S3, acc3, a1, by rw [hd2]; exact a2⟩, fun x H3 hy => ?_⟩
              obtain ⟨G3, st3, w3, hx⟩ := hY _ _ _ _ i d x H3 a.st a.w hok hd1 (wk.yields _ _ _ _ hlt (hG _ _ _ _ a.st a.w hok) hy)
              have a3 := a.step st3 w3
              refine ⟨φ', G3, wipeG g vs, S2, d, g1, w3, sl_wipe hh (s.step (st1.trans a3.st)) vs, hx, hb1, fun σ4 s4 hw4 => ?_⟩
              refine ⟨?_, ?_⟩
              · rw [hw4]
                exact wipe_twice σ vs
              split at e3
              · rename_i S3 q3
                refine ⟨φ', G3, g1, S2, _, _, w3, s4, q3, fun φ4 G4 H4 st4 w4 => ?_⟩
                show (if true = true then _ else _)
                rw [if_pos rfl]
                split at e3
                · rename_i z S4 q4
                  refine ⟨φ4, G4, g1, S3, _, _, w4, s4.step st4, q4, fun φ5 G5 H5 st5 w5 v hv => ?_⟩
                  split at e3
                  · rename_i hz
                    have a5 := (a3.step st4 w4).step st5 w5
                    obtain ⟨us, h1, h2, a6⟩ := a5.app hL hv
                    exact ⟨us, h1, by rw [h2]; exact Nat.lt_of_lt_of_le (Nat.lt_succ_self _) (szOk_le hz), φ5, G5, S4, acc ++ [z], a6, e3⟩
                  · cases e3
                · cases e3
              · rename_i S3 q3
                refine ⟨φ', G3, g1, S2, _, _, w3, s4, q3, fun φ4 G4 H4 st4 w4 => ?_⟩
                show (if false = true then _ else _)
                rw [if_neg Bool.false_ne_true]
                exact ⟨φ4, G4, S3, acc, a3.step st4 w4, e3⟩
              · cases e3
          · cases e3
    · cases e2
  · exact ⟨φ, G, g, S, _, _, w, s, e1, k⟩
theorem re_lc {elt tg iter : Expr} {ifs : List Expr} {scope : Scope} {own : List (Str × Nat)} {pos : Pos} {mi : M Src} {b : Bind} {mt : M Bool} {me : M D} (hN : X.N.Nodup) (hi : RI X cl tk tg iter mi) (ok : BlkOk X.N X.env.scope scope own)
    (hg : ∀ (s : Shared) (H : Hp) (C : Addr) (cc : List (Str × Addr)) (fp : List Addr), RGw (X.blk s H scope (compEnvC scope cc C X.env) fp) cl (own.map (·.2)) tg b)
    (ht : ∀ (s : Shared) (H : Hp) (C : Addr) (cc : List (Str × Addr)) (fp : List Addr), PTs (X.blk s H scope (compEnvC scope cc C X.env) fp) ifs (tMT X.K cl (fun _ => False) mt))
    (he : ∀ (s : Shared) (H : Hp) (C : Addr) (cc : List (Str × Addr)) (fp : List Addr), RE (X.blk s H scope (compEnvC scope cc C X.env) fp) cl (fun _ => False) elt me) (hc : X.calm = true := by rfl) (hs : ∀ x, foldedSetIterable iter X.env x = pure x := by intro _; rfl) (hh : cl.hd = none := by rfl) :
    RE X cl tk (.ListComp elt [⟨tg, iter, ifs, 0⟩] scope pos) (mLc (own.map (·.2)) mi b mt me) :=
  pe_imp (pe_lc hc hN hi ok hg ht he hs) fun _ _ _ h => tLc_of hh T.ok h
/-- y = [..] on one line -/
theorem rs_setLc {i : Nat} {y : Str} {py : Pos} {elt tg iter : Expr} {ifs : List Expr} {scope : Scope} {own : List (Str × Nat)} {pos spos : Pos} {mi : M Src} {b : Bind} {mt : M Bool} {me : M D} (hN : X.N.Nodup) (hi : RI X cl tk tg iter mi) (ok : BlkOk X.N X.env.scope scope own)
    (hg : ∀ (s : Shared) (H : Hp) (C : Addr) (cc : List (Str × Addr)) (fp : List Addr), RGw (X.blk s H scope (compEnvC scope cc C X.env) fp) cl (own.map (·.2)) tg b)
    (ht : ∀ (s : Shared) (H : Hp) (C : Addr) (cc : List (Str × Addr)) (fp : List Addr), PTs (X.blk s H scope (compEnvC scope cc C X.env) fp) ifs (tMT X.K cl (fun _ => False) mt))
    (he : ∀ (s : Shared) (H : Hp) (C : Addr) (cc : List (Str × Addr)) (fp : List Addr), RE (X.blk s H scope (compEnvC scope cc C X.env) fp) cl (fun _ => False) elt me) (hsw : swapsWith (.ListComp elt [⟨tg, iter, ifs, 0⟩] scope pos) (some (.Name y py)) spos.line X.env = pure true)
    (hy : X.N[i]? = some y := by rfl) (hyl : X.env.scope.names.lookup y = some .local := by rfl) (hc : X.calm = true := by rfl) (hs : ∀ x, foldedSetIterable iter X.env x = pure x := by intro _; rfl) (hh : cl.hd = none := by rfl) :
    RS X cl tk (.Assign [.Name y py] (.ListComp elt [⟨tg, iter, ifs, 0⟩] scope pos) spos) (mSet i (mLc (own.map (·.2)) mi b mt me)) := by
  refine ps_imp (ps_setLc (g := tGw X.K cl (own.map (·.2)) b) (te := tM X.K cl (fun _ => False) me) hc hN hy hyl hsw hi ok hg ht he hs) fun Dn σ H ⟨φ, G, g, S, o, S', w, s, e, k⟩ => ?_
  show tLc _ _ _ _ _ _ _ _
  refine tLc_of hh T.ok ?_
  refine tM_stmt (f := fun d g S1 => some (.nx (g.set i (some d)), S1)) w s e k T.ok fun d φ1 G1 H1 S1 v st1 w1 s1 hv e1 k1 => ?_
  cases e1
  exact k1 φ1 G1 H1 (Step.refl _ _ _) w1 _ (s1.set hv)
theorem rts_nil : PTs X [] (tMT X.K cl tk (mP true)) := ⟨fun pins s σ H Q I h => pts_nil.run pins s σ H Q I (by
  obtain ⟨φ, G, g, S, r, S', w, sl, e, k⟩ := h
  cases e
  exact k.now w)⟩
theorem rts_one {c : Expr} {m : M Bool} (h : RT X cl tk c m) : PTs X [c] (tMT X.K cl tk m) := pts_one h

/-! ### a cell is written -/
theorem set_get {α : Type} {l : List α} {i j : Nat} {c d : α} (h : (l.set i c)[j]? = some d) : (j = i ∧ d = c) ∨ (j ≠ i ∧ l[j]? = some d) := by
  by_cases e : j = i
  · subst e
    rw [List.getElem?_set] at h
    simp at h
    exact .inl ⟨rfl, h.2.symm⟩
  · rw [List.getElem?_set_ne (Ne.symm e)] at h
    exact .inr ⟨e, h⟩
theorem write_step {φ : List Addr} {S : Store} {G H : Hp} (w : Wd K cl φ S G H) {i : Nat} {a : Addr} (hi : φ[i]? = some a) (o : HO) : Step φ G H φ G (upd H a o) where
  pre := List.prefix_refl _
  ex := Ex.refl _
  gn := fun _ h => .inl h
  keep := fun x u h hx => by
    have ne : x ≠ a := fun z => hx (by rw [z]; exact List.mem_of_getElem? hi)
    rw [upd_ne ne]; exact h
  new := fun _ h => .inl h
theorem nodup_at {l : List Addr} (nd : l.Nodup) {i j : Nat} {a : Addr} (h1 : l[i]? = some a) (h2 : l[j]? = some a) : i = j := by
  obtain ⟨p, q⟩ := List.getElem?_eq_some_iff.mp h1
  obtain ⟨p', q'⟩ := List.getElem?_eq_some_iff.mp h2
  exact (List.getElem_inj nd).mp (q.trans q'.symm)
theorem write_wd {φ : List Addr} {S : Store} {G H : Hp} (w : Wd K cl φ S G H) {i : Nat} {a : Addr} {c c' : Cell} (hS : S[i]? = some c') (hl : c' ≠ .dead) (hi : φ[i]? = some a) {o : HO} (hc : CellOk K cl φ G (upd H a o) a c) : Wd K cl φ (S.set i c) G (upd H a o) where
  len := by rw [List.length_set]; exact w.len
  iv := w.iv
  sub := fun x u h => by
    have ne : x ≠ a := fun z => by
      have := w.ap i _ a hS hi hl
      rw [z, this] at h; cases h
    rw [upd_ne ne]; exact w.sub x u h
  nd := w.nd
  tr := fun x h => by
    by_cases e : x = a
    · subst e; rw [upd_same]; simp
    · rw [upd_ne e]; exact w.tr x h
  ap := fun j d x h1 h2 h3 => by
    rcases set_get h1 with ⟨rfl, rfl⟩ | ⟨ne, h1⟩
    · rw [hi] at h2; cases h2
      exact w.ap _ _ _ hS hi hl
    · exact w.ap j d x h1 h2 h3
  ok := fun j d x h1 h2 => by
    rcases set_get h1 with ⟨rfl, rfl⟩ | ⟨ne, h1⟩
    · rw [hi] at h2; cases h2
      exact hc
    · have nx : x ≠ a := fun z => ne (nodup_at w.nd h2 (by rw [z]; exact hi))
      exact (w.ok j d x h1 h2).mono (List.prefix_refl _) (Ex.refl _) fun o h => by rw [upd_ne nx]; exact h
/-- a list cell -/
def atC (S : Store) (d : D) : Option (Nat × List D) := match d with
  | .ref i => match S[i]? with
    | some (.lst l) => some (i, l)
    | _ => none
  | _ => none
theorem atC_ok {φ : List Addr} {S : Store} {G H : Hp} (w : Wd K cl φ S G H) {d : D} {v : V} {i : Nat} {l : List D} (h : IsD K φ G d v) (e : atC S d = some (i, l)) : S[i]? = some (.lst l) ∧ ∃ a xs, v = .ref a ∧ φ[i]? = some a ∧ H a = some (.lst xs) ∧ IsDs K φ G l xs := by
  unfold atC at e
  split at e
  · split at e
    · rename_i i' l' hi
      cases e
      simp only [IsD] at h
      obtain ⟨a, h1, h2⟩ := h
      obtain ⟨vs, h3, h4⟩ := w.ok _ _ _ hi h2
      exact ⟨hi, a, vs, h1, h2, h3, h4⟩
    · cases e
  · cases e
noncomputable def mApp (mo me : M D) : M D := mB mo fun d => mB (mL fun S => atC S d) fun _ => mB me fun e => fun _ S => match atC S d with
  | some (i, l) => if szOk (l.length + 1) = true then some (.ok .non, S.set i (.lst (l ++ [e]))) else none
  | none => none
theorem re_app {o e : Expr} {apos cpos : Pos} {mo me : M D} (ho : RE X cl tk o mo) (he : RE X cl tk e me)
    (hbase : attributeBase o "append" X.env (eval o X.env) = eval o X.env := by rfl)
    (hfew : ((backTo cpos (starEach [e] X.env)).all (fun x => !x.1) && (backToKw cpos (keywordEach [] X.env)).all (fun x => x.1.isSome)
      && decide ([e].length + ([] : List Keyword).length + (if ([] : List Keyword).isEmpty then 0 else 1) < 30)) = true := by rfl)
    (hline : (apos.endLine == cpos.line) = true := by rfl) (hs : starEach [e] X.env = (false, eval e X.env) :: starEach [] X.env := by rfl) (hplain : (backTo cpos (starEach [] X.env)).any (·.1) = false := by rfl) :
    RE X cl tk (.Call (.Attribute o "append" apos) [e] [] cpos) (mApp mo me) := by
  refine pe_imp (pe_bm PySem.F.plainAttrs_list PySem.F.slot_list_append PySem.F.type_list_append mt_append ho (pa_cons he pa_nil hs) hbase hfew hline hs hplain) fun σ H Q ⟨φ, G, g, S, r, S', w, s, e', k⟩ => ?_
  refine tM_bind T.ok w s e' k fun d φ1 G1 H1 S1 x st1 w1 s1 hx e1 k1 => ?_
  rcases mB_ok e1 with ⟨u, S2, e2, e3⟩ | ⟨c, fs, e2, rfl⟩
  · obtain ⟨⟨i0, l0⟩, ez, _, rfl⟩ := mL_ok e2
    obtain ⟨_, a, xs, rfl, hφ, hH, _⟩ := atC_ok w1 hx ez
    refine ⟨.inl ⟨rfl, _, SqL.of hH⟩, ?_⟩
    refine tM_bind T.ok w1 s1 e3 k1 fun y φ2 G2 H2 S3 v st2 w2 s2 hv e4 k2 => ?_
    split at e4
    · rename_i i l q
      split at e4
      · rename_i hz
        cases e4
        obtain ⟨h0, a', xs', e5, h1, h2, h3⟩ := atC_ok w2 (hx.mono st2.pre st2.ex) q
        cases e5
        refine ⟨a, xs', v, rfl, rfl, h2, by rw [← h3.length]; exact Nat.lt_of_lt_of_le (Nat.lt_succ_self _) (szOk_le hz), ?_⟩
        exact k2 _ _ _ (write_step w2 h1 _) (write_wd w2 h0 (fun z => nomatch z) h1 ⟨_, upd_same, h3.append (.cons hv .nil)⟩) _ (by simp only [IsD])
      · cases e4
    · cases e4
  · obtain ⟨_, _, q, _⟩ := mL_ok e2
    cases q
end
end Mi
namespace Mi
open PySem L2
section
variable {X : Cx} {cl : Cl} {tk : WX → Prop} [T : Tk X tk]
variable {K : PySem.W.Frag}
/-! ### numbers -/
def f2I (C : Int → Int → Bool) (g : Int → Int → D) : Store → D → D → Option D := fun _ d e => match d, e with
  | .int i, .int j => if C i j = true then some (g i j) else none
  | _, _ => none
theorem f2I_inv {C : Int → Int → Bool} {g : Int → Int → D} {S : Store} {d e z : D} (h : f2I C g S d e = some z) : ∃ i j, d = .int i ∧ e = .int j ∧ C i j = true ∧ z = g i j := by
  unfold f2I at h
  split at h
  · split at h
    · rename_i hc; cases h; exact ⟨_, _, rfl, rfl, hc, rfl⟩
    · cases h
  · cases h
theorem s2I {P : Int → Int → Prop} {C : Int → Int → Bool} {g : Int → Int → V} {g' : Int → Int → D} (hC : ∀ i j, C i j = true → P i j) (hg : ∀ i j φ G, IsD K φ G (g' i j) (g i j)) : OpS K cl (rI P g) (f2I C g') := fun φ S G H x y d e z Q w h1 h2 h3 k => by
  obtain ⟨i, j, rfl, rfl, hc, rfl⟩ := f2I_inv h3
  simp only [IsD] at h1 h2
  exact ⟨i, j, h1, h2, hC i j hc, k _ _ _ (Step.refl _ _ _) w _ (hg i j _ _)⟩
theorem s2I0 {g : Int → Int → V} {g' : Int → Int → D} (hg : ∀ i j φ G, IsD K φ G (g' i j) (g i j)) : OpS K cl (rI0 g) (f2I (fun _ _ => true) g') := fun φ S G H x y d e z Q w h1 h2 h3 k => by
  obtain ⟨i, j, rfl, rfl, hc, rfl⟩ := f2I_inv h3
  simp only [IsD] at h1 h2
  exact ⟨i, j, h1, h2, k _ _ _ (Step.refl _ _ _) w _ (hg i j _ _)⟩
def cTrue : Int → Int → Bool := fun _ _ => true
noncomputable def cMul : Int → Int → Bool := fun i j => cdec ((-(2 ^ 64) < i ∧ i < 2 ^ 64) ∨ (-(2 ^ 64) < j ∧ j < 2 ^ 64))
noncomputable def cDiv : Int → Int → Bool := fun i j => cdec (0 < j ∧ j < 1073741824)
noncomputable def cMod : Int → Int → Bool := fun i j => cdec (0 < j)
noncomputable def cPow : Int → Int → Bool := fun i j => cdec (0 ≤ j ∧ j ≤ 1000000 ∧ i.natAbs < 2 ^ 64)
/-- int + int, str + str, list + list -/
noncomputable def fAdd : Store → D → D → Option D := fun S d e => match d, e with
  | .int i, .int j => some (.int (i + j))
  | .str x, .str y => if szOk (x.length + y.length) = true then some (.str (x ++ y)) else none
  | .tup x, .tup y => if x ≠ [] ∧ y ≠ [] ∧ szOk (x.length + y.length) = true then some (.tup (x ++ y)) else none
  | d, e => match asLL S d, asLL S e with
    | some x, some y => if szOk (x.length + y.length) = true then some (.lst (x ++ y)) else none
    | _, _ => none
def rAddA (K : PySem.W.Frag) : R2 := fun x y H Q => (rI0 fun i j => .int (i + j)) x y H Q ∨ (fun x y H Q => ∃ i j, x = .str i ∧ y = .str j ∧ i.length + j.length ≤ sizeLine ∧ Q (.str (i ++ j)) H) x y H Q ∨ rCat x y H Q ∨ rCatT K x y H Q
theorem op_addA : OpR X (binaryOp .Add) (rAddA X.K) := op_add.or (op_add_str.or (op_cat.or op_catT))
theorem fAdd_ok : OpS K cl (rAddA K) fAdd := fun φ S G H x y d0 e0 z Q w h1 h2 h3 k => by
  unfold fAdd at h3
  split at h3
  · cases h3
    simp only [IsD] at h1 h2
    exact .inl ⟨_, _, h1, h2, k _ _ _ (Step.refl _ _ _) w _ (by simp only [IsD])⟩
  · split at h3
    · rename_i hz
      cases h3
      simp only [IsD] at h1 h2
      exact .inr (.inl ⟨_, _, h1, h2, szOk_le hz, k _ _ _ (Step.refl _ _ _) w _ (by simp only [IsD])⟩)
    · cases h3
  · split at h3
    · rename_i x' y' hz
      cases h3
      simp only [IsD] at h1 h2
      obtain ⟨a, xs, e1, e2, e3⟩ := h1
      obtain ⟨b, ys, e4, e5, e6⟩ := h2
      have n0 : xs ≠ [] := fun q => hz.1 (List.length_eq_zero_iff.mp (by rw [e3.length, q]; rfl))
      refine .inr (.inr (.inr ⟨a, b, xs, ys, e1, e4, Ex.t w.sub e2, Ex.t w.sub e5, n0, ?_, ?_⟩))
      · rw [← e3.length, ← e6.length]; exact szOk_le hz.2.2
      · refine ⟨fun q => absurd (List.length_eq_zero_iff.mp (by rw [e6.length, q]; rfl)) hz.2.1, fun _ => new_tup w (e3.append e6) k⟩
    · cases h3
  · split at h3
    · rename_i x' y' q1 q2
      split at h3
      · rename_i hz
        cases h3
        obtain ⟨a, xs, e1, e2, e3⟩ := asLL_sq w h1 q1
        obtain ⟨b, ys, e4, e5, e6⟩ := asLL_sq w h2 q2
        exact .inr (.inr (.inl ⟨a, b, xs, ys, e1, e4, e2, e5, by rw [← e3.length, ← e6.length]; exact szOk_le hz, new_lst w (e3.append e6) k⟩))
      · cases h3
    · cases h3

/-! ### comparisons -/
def flV : D → Option V
  | .non => some .non
  | .bl b => some (.bl b)
  | .int i => some (.int i)
  | .str x => some (.str x)
  | _ => none
theorem flV_ok {φ : List Addr} {G : Hp} {d : D} {v x : V} (h : IsD K φ G d v) (e : flV d = some x) : v = x := by
  cases d <;> simp only [flV] at e <;> first | (cases e; done) | skip
  all_goals (cases e; simp only [IsD] at h; exact h)
mutual
def toP : D → Option PyData
  | .non => some .none
  | .bl b => some (.bool b)
  | .int i => some (.int i)
  | .str x => some (.str x)
  | .tup l => (toPs l).map .tuple
  | .lst l => (toPs l).map .list
  | _ => none
def toPs : List D → Option (List PyData)
  | [] => some []
  | d :: ds => (toP d).bind fun p => (toPs ds).map fun ps => p :: ps
end
mutual
theorem toP_ok {φ : List Addr} {G H : Hp} (e : Ex G H) : ∀ {d : D} {v : V} {p : PyData}, IsD K φ G d v → toP d = some p → Dp K H v p
  | .non, _, _, h, q => by
    simp only [IsD] at h; simp only [toP] at q; cases q; subst h; exact .non
  | .bl b, _, _, h, q => by
    simp only [IsD] at h; simp only [toP] at q; cases q; subst h; exact .bl _
  | .int b, _, _, h, q => by
    simp only [IsD] at h; simp only [toP] at q; cases q; subst h; exact .int _
  | .str b, _, _, h, q => by
    simp only [IsD] at h; simp only [toP] at q; cases q; subst h; exact .str _
  | .tup l, _, _, h, q => by
    simp only [IsD] at h; simp only [toP] at q
    obtain ⟨a, xs, rfl, h1, h2⟩ := h
    cases r : toPs l with
    | none => rw [r] at q; cases q
    | some ps => rw [r] at q; cases q; exact .tup (e.t h1) (toPs_ok e h2 r)
  | .lst l, _, _, h, q => by
    simp only [IsD] at h; simp only [toP] at q
    obtain ⟨a, xs, rfl, h1, h2⟩ := h
    cases r : toPs l with
    | none => rw [r] at q; cases q
    | some ps => rw [r] at q; cases q; exact .lst (SqL.of (e _ _ h1)) (toPs_ok e h2 r)
  | .scr l, _, _, h, q => by simp only [toP] at q; cases q
  | .ref l, _, _, h, q => by simp only [toP] at q; cases q
theorem toPs_ok {φ : List Addr} {G H : Hp} (e : Ex G H) : ∀ {ds : List D} {vs : List V} {ps : List PyData}, IsDs K φ G ds vs → toPs ds = some ps → DpAll K H vs ps
  | [], _, _, h, q => by
    rw [h.nil_inv]; simp only [toPs] at q; cases q; exact .nil
  | d :: ds, _, _, h, q => by
    obtain ⟨v, r, rfl, h1, h2⟩ := h.cons_inv
    simp only [toPs] at q
    cases a : toP d with
    | none => rw [a] at q; cases q
    | some p =>
      rw [a] at q
      cases b : toPs ds with
      | none => simp only [b] at q; cases q
      | some ps => simp only [b] at q; cases q; exact .cons (toP_ok e h1 a) (toPs_ok e h2 b)
end
/-- .. a list cell too, at the head -/
def toPS (S : Store) (d : D) : Option PyData := match atC S d with
  | some (_, l) => (toPs l).map .list
  | none => toP d
theorem toPS_ok {φ : List Addr} {S : Store} {G H : Hp} (w : Wd K cl φ S G H) {d : D} {v : V} {p : PyData} (h : IsD K φ G d v) (e : toPS S d = some p) : Dp K H v p := by
  unfold toPS at e
  split at e
  · rename_i i l q
    obtain ⟨_, a, xs, rfl, h1, h2, h3⟩ := atC_ok w h q
    cases r : toPs l with
    | none => rw [r] at e; cases e
    | some ps => rw [r] at e; cases e; exact .lst (SqL.of h2) (toPs_ok w.sub h3 r)
  · exact toP_ok w.sub h e
def eqB (S : Store) (d e : D) : Option Bool := match flV d, flV e with
  | some x, some y => if scal x y = true then some (decide (x = y)) else none
  | _, _ => match toPS S d, toPS S e with
    | some p, some q => if SeqAt.shaped p = true ∧ SeqAt.shaped q = true then some (PyData.eqv p q) else none
    | _, _ => none
def fEq : Store → D → D → Option D := fun S d e => (eqB S d e).map .bl
def fNe : Store → D → D → Option D := fun S d e => (eqB S d e).map fun b => .bl (!b)
def rEqA (K : PySem.W.Frag) : R2 := fun x y H Q => rEq x y H Q ∨ rEqD K x y H Q
def rNeA (K : PySem.W.Frag) : R2 := fun x y H Q => rNe x y H Q ∨ rNeD K x y H Q
theorem op_eqA (hr : Room k X.A) : OpR X (compareOp .Eq) (rEqA X.K) := op_eq.or (op_eqD hr.units)
theorem op_neA (hr : Room k X.A) : OpR X (compareOp .NotEq) (rNeA X.K) := op_ne.or (op_neD hr.units)
theorem fEq_rel : RelS K cl (rEqA K) fEq := fun φ S G H x y d e z Q w h1 h2 h3 => by
  unfold fEq at h3
  cases q : eqB S d e with
  | none => rw [q] at h3; cases h3
  | some b =>
    rw [q] at h3; cases h3
    refine ⟨b, rfl, fun k => ?_⟩
    unfold eqB at q
    split at q
    · rename_i x' y' q1 q2
      split at q
      · rename_i hs
        cases q
        rw [flV_ok h1 q1, flV_ok h2 q2]
        exact .inl ⟨hs, k⟩
      · cases q
    · split at q
      · rename_i p1 p2 q1 q2
        split at q
        · rename_i hs
          cases q
          exact .inr ⟨_, _, toPS_ok w h1 q1, toPS_ok w h2 q2, hs.1, hs.2, k⟩
        · cases q
      · cases q
theorem fNe_rel : RelS K cl (rNeA K) fNe := fun φ S G H x y d e z Q w h1 h2 h3 => by
  unfold fNe at h3
  cases q : eqB S d e with
  | none => rw [q] at h3; cases h3
  | some b =>
    rw [q] at h3; cases h3
    refine ⟨!b, rfl, fun k => ?_⟩
    unfold eqB at q
    split at q
    · rename_i x' y' q1 q2
      split at q
      · rename_i hs
        cases q
        rw [flV_ok h1 q1, flV_ok h2 q2]
        exact .inl ⟨hs, k⟩
      · cases q
    · split at q
      · rename_i p1 p2 q1 q2
        split at q
        · rename_i hs
          cases q
          exact .inr ⟨_, _, toPS_ok w h1 q1, toPS_ok w h2 q2, hs.1, hs.2, k⟩
        · cases q
      · cases q
theorem f2B_rel {g : Int → Int → Bool} : RelS K cl (rI0 fun i j => .bl (g i j)) (f2I cTrue fun i j => .bl (g i j)) := fun φ S G H x y d e z Q w h1 h2 h3 => by
  obtain ⟨i, j, rfl, rfl, hc, rfl⟩ := f2I_inv h3
  simp only [IsD] at h1 h2
  exact ⟨_, rfl, fun k => ⟨i, j, h1, h2, k⟩⟩
def fLt : Store → D → D → Option D := f2I cTrue fun i j => .bl (decide (i < j))
def fLe : Store → D → D → Option D := f2I cTrue fun i j => .bl (decide (i ≤ j))
def fGt : Store → D → D → Option D := f2I cTrue fun i j => .bl (decide (j < i))
def fGe : Store → D → D → Option D := f2I cTrue fun i j => .bl (decide (j ≤ i))
/-- is None: the second is None -/
def isNon : D → Bool
  | .non => true
  | _ => false
def fIsN : Store → D → D → Option D := fun _ d e => match e with
  | .non => some (.bl (isNon d))
  | _ => none
theorem isN_dec {φ : List Addr} {G : Hp} {d : D} {v : V} (h : IsD K φ G d v) : decide (v = .non) = isNon d := by
  cases d <;> simp only [IsD] at h <;> simp only [isNon] <;> first | (subst h; simp) | (obtain ⟨a, _, rfl, _⟩ := h; simp) | (obtain ⟨a, rfl, _⟩ := h; simp)
theorem fIsN_rel : RelS K cl (fun x y H Q => y = .non ∧ Q (.bl (decide (x = .non))) H) fIsN := fun φ S G H x y d e z Q w h1 h2 h3 => by
  unfold fIsN at h3
  split at h3
  · cases h3
    simp only [IsD] at h2
    exact ⟨_, rfl, fun k => ⟨h2, by rw [isN_dec h1]; exact k⟩⟩
  · cases h3
def fNotN : Store → D → D → Option D := fun _ d e => match e with
  | .non => some (.bl (!isNon d))
  | _ => none
theorem fNotN_rel : RelS K cl (fun x y H Q => y = .non ∧ Q (.bl (!decide (x = .non))) H) fNotN := fun φ S G H x y d e z Q w h1 h2 h3 => by
  unfold fNotN at h3
  split at h3
  · cases h3
    simp only [IsD] at h2
    exact ⟨_, rfl, fun k => ⟨h2, by rw [isN_dec h1]; exact k⟩⟩
  · cases h3
/-- in: a sign in a text; in a tuple of flat values; in a list of any data -/
def allFl : List D → Option (List V)
  | [] => some []
  | d :: ds => (flV d).bind fun v => (allFl ds).map fun vs => v :: vs
theorem allFl_ok {φ : List Addr} {G : Hp} : ∀ {ds : List D} {vs ws : List V}, IsDs K φ G ds vs → allFl ds = some ws → vs = ws
  | [], _, _, h, q => by rw [h.nil_inv]; simp only [allFl] at q; cases q; rfl
  | d :: ds, _, _, h, q => by
    obtain ⟨v, r, rfl, h1, h2⟩ := h.cons_inv
    simp only [allFl] at q
    cases a : flV d with
    | none => rw [a] at q; cases q
    | some p =>
      rw [a] at q
      cases b : allFl ds with
      | none => simp only [b] at q; cases q
      | some ps => simp only [b] at q; cases q; rw [flV_ok h1 a, allFl_ok h2 b]
theorem flV_flat {d : D} {v : V} (h : flV d = some v) : flatV v = true := by
  cases d <;> simp only [flV] at h <;> first | (cases h; done) | (cases h; rfl)
theorem allFl_flat : ∀ {ds : List D} {ws : List V}, allFl ds = some ws → ws.all flatV = true
  | [], _, q => by simp only [allFl] at q; cases q; rfl
  | d :: ds, _, q => by
    simp only [allFl] at q
    cases a : flV d with
    | none => rw [a] at q; cases q
    | some p =>
      rw [a] at q
      cases b : allFl ds with
      | none => simp only [b] at q; cases q
      | some ps => simp only [b] at q; cases q; rw [List.all_cons, flV_flat a, allFl_flat b]; rfl
def inB (S : Store) (d e : D) : Option Bool := match d, e with
  | .str x, .str z => if x.cps.size = 1 then some (decide (x.cps.getD 0 0 ∈ z.cps.toList)) else none
  | d, .tup l => (flV d).bind fun v => (allFl l).map fun vs => inV v vs
  | d, e => match toPS S d, toPS S e with
    | some p, some (.list qs) => if SeqAt.shaped p = true ∧ SeqAt.shaped (.list qs) = true then some (qs.any fun z => PyData.eqv z p) else none
    | _, _ => none
def fIn : Store → D → D → Option D := fun S d e => (inB S d e).map .bl
def fNotIn : Store → D → D → Option D := fun S d e => (inB S d e).map fun b => .bl (!b)
def rInA (K : PySem.W.Frag) : R2 := fun x y H Q => (fun x y H Q => ∃ (c : Nat) (z : Str), x = .str ⟨#[c]⟩ ∧ y = .str z ∧ Q (.bl (decide (c ∈ z.cps.toList))) H) x y H Q ∨ rIn K false x y H Q ∨ rInD K x y H Q
def rNotInA (K : PySem.W.Frag) : R2 := fun x y H Q => (fun x y H Q => ∃ (c : Nat) (z : Str), x = .str ⟨#[c]⟩ ∧ y = .str z ∧ Q (.bl (!decide (c ∈ z.cps.toList))) H) x y H Q ∨ rIn K true x y H Q ∨ rNotInD K x y H Q
theorem op_inA (hr : Room k X.A) : OpR X (compareOp .In) (rInA X.K) := op_in_sign.or (op_in_seq.or (op_inD (by have := hr.un; omega)))
theorem op_notInA (hr : Room k X.A) : OpR X (compareOp .NotIn) (rNotInA X.K) := op_notIn_sign.or (op_notIn_seq.or (op_notInD (by have := hr.un; omega)))
theorem one_sign {x : Str} (h : x.cps.size = 1) : x = ⟨#[x.cps.getD 0 0]⟩ := by
  obtain ⟨⟨l⟩⟩ := x
  match l, h with
  | [c], _ => rfl
theorem inB_rel {neg : Bool} {φ : List Addr} {S : Store} {G H : Hp} {x y : V} {d0 e0 : D} {b : Bool} {Q : VK} (w : Wd K cl φ S G H) (h1 : IsD K φ G d0 x) (h2 : IsD K φ G e0 y) (q : inB S d0 e0 = some b) (k : Q (.bl (if neg then !b else b)) H) :
    (∃ (c : Nat) (z : Str), x = .str ⟨#[c]⟩ ∧ y = .str z ∧ Q (.bl (if neg then !decide (c ∈ z.cps.toList) else decide (c ∈ z.cps.toList))) H) ∨ rIn K neg x y H Q ∨
      (∃ d ds, Dp K H x d ∧ Dp K H y (.list ds) ∧ SeqAt.shaped d = true ∧ SeqAt.shaped (.list ds) = true ∧ Q (.bl (if neg then !ds.any fun z => PyData.eqv z d else ds.any fun z => PyData.eqv z d)) H) := by
  unfold inB at q
  split at q
  · split at q
    · rename_i hs
      cases q
      simp only [IsD] at h1 h2
      exact .inl ⟨_, _, by rw [h1]; exact congrArg V.str (one_sign hs), h2, k⟩
    · cases q
  · rename_i l
    cases a : flV d0 with
    | none => rw [a] at q; cases q
    | some v =>
      rw [a] at q
      cases b' : allFl l with
      | none => simp only [b'] at q; cases q
      | some vs =>
        simp only [b'] at q
        cases q
        simp only [IsD] at h2
        obtain ⟨p, xs, rfl, e1, e2⟩ := h2
        rw [allFl_ok e2 b'] at e1
        refine .inr (.inl ⟨p, vs, rfl, .inr (Ex.t w.sub e1), ?_, allFl_flat b', ?_⟩)
        · rw [flV_ok h1 a]; exact flV_flat a
        · rw [flV_ok h1 a]; exact k
  · split at q
    · rename_i p qs q1 q2
      split at q
      · rename_i hs
        cases q
        exact .inr (.inr ⟨p, qs, toPS_ok w h1 q1, toPS_ok w h2 q2, hs.1, hs.2, k⟩)
      · cases q
    · cases q
theorem fIn_rel : RelS K cl (rInA K) fIn := fun φ S G H x y d e z Q w h1 h2 h3 => by
  unfold fIn at h3
  cases q : inB S d e with
  | none => rw [q] at h3; cases h3
  | some b =>
    rw [q] at h3; cases h3
    exact ⟨b, rfl, fun k => inB_rel (neg := false) w h1 h2 q k⟩
theorem fNotIn_rel : RelS K cl (rNotInA K) fNotIn := fun φ S G H x y d e z Q w h1 h2 h3 => by
  unfold fNotIn at h3
  cases q : inB S d e with
  | none => rw [q] at h3; cases h3
  | some b =>
    rw [q] at h3; cases h3
    exact ⟨!b, rfl, fun k => inB_rel (neg := true) w h1 h2 q k⟩
end
end Mi
namespace Mi
open PySem L2
section
variable {X : Cx} {cl : Cl} {tk : WX → Prop} [T : Tk X tk]
variable {K : PySem.W.Frag}
/-! ### built-ins -/
def flat1 {φ : List Addr} {G : Hp} {d : D} {xs : List V} (h : IsDs K φ G [d] xs) : ∃ v, xs = [v] ∧ IsD K φ G d v := by
  obtain ⟨v, r, rfl, h1, h2⟩ := h.cons_inv
  rw [h2.nil_inv]
  exact ⟨v, rfl, h1⟩
noncomputable def cLen : Store → List D → Option D := fun S ds => match ds with
  | [.str z] => if szOk z.length = true then some (.int z.length) else none
  | [d] => (asL S d).map fun l => .int l.length
  | _ => none
def rLenA (K : PySem.W.Frag) : List V → Hp → VK → Prop := fun xs H Q => (∃ p ys, xs = [.ref p] ∧ (SqL K H p ys ∨ SqT K H p ys) ∧ Q (.int ys.length) H) ∨ (∃ z, xs = [.str z] ∧ z.length ≤ sizeLine ∧ Q (.int z.length) H)
theorem call_lenA : CallR X (.builtin "len") (rLenA X.K) := call_len_seq.or call_len_str
theorem cLen_ok : CallS K cl (rLenA K) cLen := fun φ S G H xs ds z Q w h1 h3 k => by
  unfold cLen at h3
  split at h3
  · split at h3
    · rename_i hz
      cases h3
      obtain ⟨v, rfl, h4⟩ := flat1 h1
      simp only [IsD] at h4
      exact .inr ⟨_, by rw [h4], szOk_le hz, k _ _ _ (Step.refl _ _ _) w _ (by simp only [IsD])⟩
    · cases h3
  · rename_i d _
    cases q : asL S d with
    | none => rw [q] at h3; cases h3
    | some l =>
      rw [q] at h3; cases h3
      obtain ⟨v, rfl, h4⟩ := flat1 h1
      obtain ⟨a, ys, rfl, h5, h6⟩ := asL_sq w h4 q
      exact .inl ⟨a, ys, rfl, h5, by rw [← h6.length]; exact k _ _ _ (Step.refl _ _ _) w _ (by simp only [IsD])⟩
  · cases h3
def cAbs : Store → List D → Option D := fun _ ds => match ds with
  | [.int i] => some (.int (if i < 0 then -i else i))
  | _ => none
theorem cAbs_ok : CallS K cl (fun xs H Q => ∃ i, xs = [.int i] ∧ Q (.int (if i < 0 then -i else i)) H) cAbs := fun φ S G H xs ds z Q w h1 h3 k => by
  unfold cAbs at h3
  split at h3
  · cases h3
    obtain ⟨v, rfl, h4⟩ := flat1 h1
    simp only [IsD] at h4
    exact ⟨_, by rw [h4], k _ _ _ (Step.refl _ _ _) w _ (by simp only [IsD])⟩
  · cases h3
noncomputable def cInt : Store → List D → Option D := fun _ ds => match ds with
  | [.int i] => some (.int i)
  | [.str a] => if cdec (a.length ≤ 640) = true then (PySem.intText? a).map .int else none
  | _ => none
def rIntA : List V → Hp → VK → Prop := fun xs H Q => ((∃ i, xs = [.int i] ∧ Q (.int i) H) ∨ ∃ k, xs = [.bl k] ∧ Q (.int (if k then 1 else 0)) H) ∨ (∃ a n, xs = [.str a] ∧ PySem.intText? a = some n ∧ a.length ≤ 640 ∧ Q (.int n) H)
theorem call_intA : CallR X (.type "int") rIntA := call_int1.or call_int_str
theorem cInt_ok : CallS K cl rIntA cInt := fun φ S G H xs ds z Q w h1 h3 k => by
  unfold cInt at h3
  split at h3
  · cases h3
    obtain ⟨v, rfl, h4⟩ := flat1 h1
    simp only [IsD] at h4
    exact .inl (.inl ⟨_, by rw [h4], k _ _ _ (Step.refl _ _ _) w _ (by simp only [IsD])⟩)
  · rename_i a
    split at h3
    · rename_i hl
      cases q : PySem.intText? a with
      | none => rw [q] at h3; cases h3
      | some n =>
        rw [q] at h3; cases h3
        obtain ⟨v, rfl, h4⟩ := flat1 h1
        simp only [IsD] at h4
        exact .inr ⟨a, n, by rw [h4], q, cdec_iff.mp hl, k _ _ _ (Step.refl _ _ _) w _ (by simp only [IsD])⟩
    · cases h3
  · cases h3
noncomputable def cStr : Store → List D → Option D := fun _ ds => match ds with
  | [.int i] => if cdec (i.natAbs.log2 < 1920) = true then some (.str (Str.ofString (toString i))) else none
  | [.str a] => some (.str a)
  | _ => none
def rStrA : List V → Hp → VK → Prop := fun xs H Q => (∃ i, xs = [.int i] ∧ i.natAbs.log2 < 1920 ∧ Q (.str (toString i)) H) ∨ (∃ a, xs = [.str a] ∧ Q (.str a) H)
theorem call_strA : CallR X (.type "str") rStrA := call_str_int.or SkE.call_str_str
theorem cStr_ok : CallS K cl rStrA cStr := fun φ S G H xs ds z Q w h1 h3 k => by
  unfold cStr at h3
  split at h3
  · split at h3
    · rename_i hz
      cases h3
      obtain ⟨v, rfl, h4⟩ := flat1 h1
      simp only [IsD] at h4
      exact .inl ⟨_, by rw [h4], cdec_iff.mp hz, k _ _ _ (Step.refl _ _ _) w _ (by simp only [IsD])⟩
    · cases h3
  · cases h3
    obtain ⟨v, rfl, h4⟩ := flat1 h1
    simp only [IsD] at h4
    exact .inr ⟨_, by rw [h4], k _ _ _ (Step.refl _ _ _) w _ (by simp only [IsD])⟩
  · cases h3
def intsOf : List D → Option (List Int)
  | [] => some []
  | .int i :: ds => (intsOf ds).map fun r => i :: r
  | _ => none
theorem intsOf_eq : ∀ {ds : List D} {ns : List Int}, intsOf ds = some ns → ds = ns.map .int
  | [], _, h => by cases h; rfl
  | .int i :: ds, _, h => by
    simp only [intsOf] at h
    cases q : intsOf ds with
    | none => rw [q] at h; cases h
    | some r => rw [q] at h; cases h; rw [intsOf_eq q]; rfl
  | .non :: ds, _, h => by cases h
  | .bl _ :: ds, _, h => by cases h
  | .str _ :: ds, _, h => by cases h
  | .tup _ :: ds, _, h => by cases h
  | .lst _ :: ds, _, h => by cases h
  | .scr _ :: ds, _, h => by cases h
  | .ref _ :: ds, _, h => by cases h
def blsOf : List D → Option (List Bool)
  | [] => some []
  | .bl i :: ds => (blsOf ds).map fun r => i :: r
  | _ => none
theorem blsOf_eq : ∀ {ds : List D} {ns : List Bool}, blsOf ds = some ns → ds = ns.map .bl
  | [], _, h => by cases h; rfl
  | .bl i :: ds, _, h => by
    simp only [blsOf] at h
    cases q : blsOf ds with
    | none => rw [q] at h; cases h
    | some r => rw [q] at h; cases h; rw [blsOf_eq q]; rfl
  | .non :: ds, _, h => by cases h
  | .int _ :: ds, _, h => by cases h
  | .str _ :: ds, _, h => by cases h
  | .tup _ :: ds, _, h => by cases h
  | .lst _ :: ds, _, h => by cases h
  | .scr _ :: ds, _, h => by cases h
  | .ref _ :: ds, _, h => by cases h
def strsOf : List D → Option (List Str)
  | [] => some []
  | .str i :: ds => (strsOf ds).map fun r => i :: r
  | _ => none
theorem strsOf_eq : ∀ {ds : List D} {ns : List Str}, strsOf ds = some ns → ds = ns.map .str
  | [], _, h => by cases h; rfl
  | .str i :: ds, _, h => by
    simp only [strsOf] at h
    cases q : strsOf ds with
    | none => rw [q] at h; cases h
    | some r => rw [q] at h; cases h; rw [strsOf_eq q]; rfl
  | .non :: ds, _, h => by cases h
  | .int _ :: ds, _, h => by cases h
  | .bl _ :: ds, _, h => by cases h
  | .tup _ :: ds, _, h => by cases h
  | .lst _ :: ds, _, h => by cases h
  | .scr _ :: ds, _, h => by cases h
  | .ref _ :: ds, _, h => by cases h
def cSum : Store → List D → Option D := fun S ds => match ds with
  | [d] => ((asLL S d).bind intsOf).map fun ns => .int ns.sum
  | _ => none
theorem cSum_ok : CallS K cl (rSum K) cSum := fun φ S G H xs ds z Q w h1 h3 k => by
  unfold cSum at h3
  split at h3
  · rename_i d
    cases q : asLL S d with
    | none => rw [q] at h3; cases h3
    | some l =>
      rw [q] at h3
      cases q2 : intsOf l with
      | none => simp only [Option.bind_some, q2] at h3; cases h3
      | some ns =>
        simp only [Option.bind_some, q2] at h3
        cases h3
        obtain ⟨v, rfl, h4⟩ := flat1 h1
        obtain ⟨a, ys, rfl, h5, h6⟩ := asLL_sq w h4 q
        rw [intsOf_eq q2] at h6
        rw [h6.ints] at h5
        exact ⟨a, ns, rfl, SqL.of h5, k _ _ _ (Step.refl _ _ _) w _ (by simp only [IsD])⟩
  · cases h3
def cAll : Store → List D → Option D := fun S ds => match ds with
  | [d] => ((asLL S d).bind blsOf).map fun ns => .bl (ns.all id)
  | _ => none
theorem cAll_ok : CallS K cl (rAll K) cAll := fun φ S G H xs ds z Q w h1 h3 k => by
  unfold cAll at h3
  split at h3
  · rename_i d
    cases q : asLL S d with
    | none => rw [q] at h3; cases h3
    | some l =>
      rw [q] at h3
      cases q2 : blsOf l with
      | none => simp only [Option.bind_some, q2] at h3; cases h3
      | some ns =>
        simp only [Option.bind_some, q2] at h3
        cases h3
        obtain ⟨v, rfl, h4⟩ := flat1 h1
        obtain ⟨a, ys, rfl, h5, h6⟩ := asLL_sq w h4 q
        rw [blsOf_eq q2] at h6
        rw [h6.bls] at h5
        exact ⟨a, ns, rfl, SqL.of h5, k _ _ _ (Step.refl _ _ _) w _ (by simp only [IsD])⟩
  · cases h3
def cAny : Store → List D → Option D := fun S ds => match ds with
  | [d] => ((asLL S d).bind blsOf).map fun ns => .bl (ns.any id)
  | _ => none
theorem cAny_ok : CallS K cl (rAny K) cAny := fun φ S G H xs ds z Q w h1 h3 k => by
  unfold cAny at h3
  split at h3
  · rename_i d
    cases q : asLL S d with
    | none => rw [q] at h3; cases h3
    | some l =>
      rw [q] at h3
      cases q2 : blsOf l with
      | none => simp only [Option.bind_some, q2] at h3; cases h3
      | some ns =>
        simp only [Option.bind_some, q2] at h3
        cases h3
        obtain ⟨v, rfl, h4⟩ := flat1 h1
        obtain ⟨a, ys, rfl, h5, h6⟩ := asLL_sq w h4 q
        rw [blsOf_eq q2] at h6
        rw [h6.bls] at h5
        exact ⟨a, ns, rfl, SqL.of h5, k _ _ _ (Step.refl _ _ _) w _ (by simp only [IsD])⟩
  · cases h3
/-- list(x): a stable list -/
def cList : Store → List D → Option D := fun S ds => match ds with
  | [d] => (asL S d).map .lst
  | _ => none
theorem cList_ok : CallS K cl (fun xs H Q => ∃ p ys, xs = [.ref p] ∧ (SqL K H p ys ∨ SqT K H p ys) ∧ ∀ l, H l = none → Q (.ref l) (upd H l (.lst ys))) cList := fun φ S G H xs ds z Q w h1 h3 k => by
  unfold cList at h3
  split at h3
  · rename_i d
    cases q : asL S d with
    | none => rw [q] at h3; cases h3
    | some l =>
      rw [q] at h3; cases h3
      obtain ⟨v, rfl, h4⟩ := flat1 h1
      obtain ⟨a, ys, rfl, h5, h6⟩ := asL_sq w h4 q
      exact ⟨a, ys, rfl, h5, new_lst w h6 k⟩
  · cases h3
def cTuple : Store → List D → Option D := fun S ds => match ds with
  | [.tup l] => some (.tup l)
  | [d] => (asLL S d).map .tup
  | _ => none
theorem cTuple_ok : CallS K cl (fun xs H Q => ∃ p ys, xs = [.ref p] ∧ ((SqL K H p ys ∧ ∀ l, H l = none → Q (.ref l) (upd H l (.tup ys))) ∨ (SqT K H p ys ∧ Q (.ref p) H))) cTuple := fun φ S G H xs ds z Q w h1 h3 k => by
  unfold cTuple at h3
  split at h3
  · cases h3
    obtain ⟨v, rfl, h4⟩ := flat1 h1
    have h5 := h4
    simp only [IsD] at h4
    obtain ⟨a, ys, rfl, h6, h7⟩ := h4
    exact ⟨a, ys, rfl, .inr ⟨Ex.t w.sub h6, k _ _ _ (Step.refl _ _ _) w _ h5⟩⟩
  · rename_i d _
    cases q : asLL S d with
    | none => rw [q] at h3; cases h3
    | some l =>
      rw [q] at h3; cases h3
      obtain ⟨v, rfl, h4⟩ := flat1 h1
      obtain ⟨a, ys, rfl, h5, h6⟩ := asLL_sq w h4 q
      exact ⟨a, ys, rfl, .inl ⟨SqL.of h5, new_tup w h6 k⟩⟩
  · cases h3
/-- isinstance(x, T), T a built-in class -/
inductive TyT where
  | non | bl | int | str | tup | lst | dct
def TyT.nm : TyT → String
  | .non => "NoneType"
  | .bl => "bool"
  | .int => "int"
  | .str => "str"
  | .tup => "tuple"
  | .lst => "list"
  | .dct => "dict"
def tyN (S : Store) : D → Option TyT
  | .non => some .non
  | .bl _ => some .bl
  | .int _ => some .int
  | .str _ => some .str
  | .tup _ => some .tup
  | .lst _ => some .lst
  | .ref i => match S[i]? with
    | some (.lst _) => some .lst
    | some (.dK _) => some .dct
    | _ => none
  | .scr _ => none
theorem tyN_ok {φ : List Addr} {S : Store} {G H : Hp} (w : Wd K cl φ S G H) {d : D} {v : V} {n : TyT} (h : IsD K φ G d v) (e : tyN S d = some n) : TyX K H v (.type n.nm) := by
  cases d <;> simp only [tyN] at e <;> try (cases e; done)
  · cases e; simp only [IsD] at h; subst h; exact .base .non
  · cases e; simp only [IsD] at h; subst h; exact .base (.bl _)
  · cases e; simp only [IsD] at h; subst h; exact .base (.int _)
  · cases e; simp only [IsD] at h; subst h; exact .base (.str _)
  · cases e; simp only [IsD] at h
    obtain ⟨a, xs, rfl, h1, h2⟩ := h
    rcases Ex.t w.sub h1 with h3 | ⟨o, its, n, h3, h4, _⟩
    · rcases h3 with h3 | ⟨o, h3⟩
      · exact .base (.tup h3)
      · exact .fTuple h3
    · exact .kTuple h3 h4
  · cases e; simp only [IsD] at h
    obtain ⟨a, xs, rfl, h1, h2⟩ := h
    exact .base (.lst (w.sub _ _ h1))
  · simp only [IsD] at h
    obtain ⟨a, rfl, h1⟩ := h
    split at e
    · rename_i hi
      cases e
      obtain ⟨vs, h3, _⟩ := w.ok _ _ _ hi h1
      exact .base (.lst h3)
    · rename_i hi
      cases e
      obtain ⟨vs, h3, _⟩ := w.ok _ _ _ hi h1
      exact .base (.dK h3)
    · cases e
def isiB : TyT → TyT → Bool
  | .non, .non => true
  | .bl, .bl => true
  | .bl, .int => true
  | .int, .int => true
  | .str, .str => true
  | .tup, .tup => true
  | .lst, .lst => true
  | .dct, .dct => true
  | _, _ => false
def fIsi (Ty : TyT) : Store → D → Option D := fun S d => (tyN S d).map fun n => .bl (isiB n Ty)
def isiTab (Ty : TyT) : Bool := [TyT.non, .bl, .int, .str, .tup, .lst, .dct].all fun n => decide (kitB n.nm Ty.nm = some (isiB n Ty))
theorem ty_mem (n : TyT) : n ∈ [TyT.non, .bl, .int, .str, .tup, .lst, .dct] := by cases n <;> simp
theorem re_isi {x : Expr} {Ty : TyT} {nm : Str} {p q pos : Pos} {m : M D} (hm : X.mg "isinstance" = none) (hm2 : X.mg nm = none) (hv : bootBuiltins nm = some (.type Ty.nm)) (ht : isiTab Ty = true) (hx : RE X cl tk x m)
    (hg : Gl X "isinstance" := by rfl) (hg2 : Gl X nm := by rfl) (hn : nm ≠ "__name__" := by decide) (hd : (nm == ("__debug__" : Str)) = false := by decide)
    (hs1 : starEach [x, .Name nm q] X.env = (false, eval x X.env) :: starEach [.Name nm q] X.env := by rfl) (hs2 : starEach [.Name nm q] X.env = (false, eval (.Name nm q) X.env) :: starEach [] X.env := by rfl)
    (hpl : (backTo pos (starEach [.Name nm q] X.env)).any (·.1) = false := by rfl) : RE X cl tk (.Call (.Name "isinstance" p) [x, .Name nm q] [] pos) (mOp1 (fIsi Ty) m) := by
  refine pe_imp (pe_callB call_isi hg hm PyProof.Rows.boot_isinstance (pa_cons hx (pa_cons (pe_bltn (v := .ty Ty.nm) hg2 hm2 hv rfl hn hd) pa_nil hs2) hs1) (by decide) (by decide) hs1 hpl) fun σ H Q ⟨φ, G, g, S, r, S', w, s, e, k⟩ => ?_
  refine tM_bind T.ok w s e k fun d φ1 G1 H1 S1 v st1 w1 s1 hv' e1 k1 => ?_
  obtain ⟨z, ez, rfl, rfl⟩ := mL_ok e1
  unfold fIsi at ez
  cases q : tyN S' d with
  | none => rw [q] at ez; cases ez
  | some n =>
    rw [q] at ez
    cases ez
    refine ⟨v, .ty Ty.nm, .type n.nm, .type Ty.nm, isiB n Ty, rfl, .ty Ty.nm, tyN_ok w1 hv' q, kit_ty ?_, k1.now w1 _ (by simp only [IsD])⟩
    exact of_decide_eq_true (List.all_eq_true.mp ht n (ty_mem n))

/-! ### texts -/
noncomputable def fJoin : Store → D → D → Option D := fun S d e => match d with
  | .str a => ((asL S e).bind strsOf).bind fun ys => if szOk ((ys.map (·.length)).sum + ys.length * a.length) = true then some (.str (Txt.join a ys)) else none
  | _ => none
theorem tM1_of {r : V → List V → Hp → VK → Prop} {f : Store → D → D → Option D} {chk : D → Bool} {ma mb : M D} (ht : TkOk tk) (hc : ∀ S d e z, f S d e = some z → ∃ a, d = .str a)
    (hs : ∀ (φ : List Addr) (S : Store) (G H : Hp) (x y : V) (d e z : D) (Q : VK), Wd K cl φ S G H → IsD K φ G d x → IsD K φ G e y → f S d e = some z →
      (∀ φ' G' H', Step φ G H φ' G' H' → Wd K cl φ' S G' H' → ∀ v, IsD K φ' G' z v → Q v H') → r x [y] H Q) {σ : St} {H : Hp} {Q : VK}
    (h : tM K cl tk (mB ma fun d => mB (mL fun _ => match d with | .str _ => some () | _ => none) fun _ => mB mb fun e => mL fun S => f S d e) σ H Q) : tM1 r (tM K cl tk ma) (tM K cl tk mb) σ H Q := by
  obtain ⟨φ, G, g, S, r, S', w, s, e, k⟩ := h
  refine tM_bind ht w s e k fun d φ1 G1 H1 S1 x st1 w1 s1 hx e1 k1 => ?_
  rcases mB_ok e1 with ⟨u, S2, e2, e3⟩ | ⟨c, fs, e2, rfl⟩
  · obtain ⟨_, ez, _, rfl⟩ := mL_ok e2
    split at ez
    · have hx' := hx
      simp only [IsD] at hx'
      refine ⟨⟨_, hx'⟩, ?_⟩
      refine tM_bind ht w1 s1 e3 k1 fun d2 φ2 G2 H2 S2 y st2 w2 s2 hy e4 k2 => ?_
      obtain ⟨z, ez, rfl, rfl⟩ := mL_ok e4
      exact hs _ _ _ _ _ _ _ _ _ _ w2 (hx.mono st2.pre st2.ex) hy ez k2
    · cases ez
  · obtain ⟨_, _, q, _⟩ := mL_ok e2
    cases q
def mStr1 (f : Store → D → D → Option D) (ma mb : M D) : M D := mB ma fun d => mB (mL fun _ => match d with | .str _ => some () | _ => none) fun _ => mB mb fun e => mL fun S => f S d e
theorem re_join {o e : Expr} {apos pos : Pos} {mo me : M D} (ho : RE X cl tk o mo) (he : RE X cl tk e me) (hs : starEach [e] X.env = [(false, eval e X.env)] := by rfl) (hbase : attributeBase o "join" X.env (eval o X.env) = eval o X.env := by rfl) (hline : (apos.endLine == pos.line) = true := by rfl) :
    RE X cl tk (.Call (.Attribute o "join" apos) [e] [] pos) (mStr1 fJoin mo me) :=
  pe_imp (pe_join ho he hs hbase hline) fun _ _ _ h => tM1_of (chk := fun _ => true) (f := fJoin) T.ok (fun S d e z h => by unfold fJoin at h; split at h; exact ⟨_, rfl⟩; cases h) (fun φ S G H x y d e z Q w h1 h2 h3 k => by
    unfold fJoin at h3
    split at h3
    · rename_i a
      cases q : asL S e with
      | none => rw [q] at h3; cases h3
      | some l =>
        rw [q] at h3
        cases q2 : strsOf l with
        | none => simp only [Option.bind_some, q2] at h3; cases h3
        | some ys =>
          simp only [Option.bind_some, q2] at h3
          split at h3
          · rename_i hz
            cases h3
            simp only [IsD] at h1
            obtain ⟨p, xs, rfl, h5, h6⟩ := asL_sq w h2 q
            rw [strsOf_eq q2] at h6
            rw [h6.strs] at h5
            exact ⟨a, p, ys, h1, rfl, h5, cdec_iff.mp hz, k _ _ _ (Step.refl _ _ _) w _ (by simp only [IsD])⟩
          · cases h3
    · cases h3) h
noncomputable def fSplit : Store → D → D → Option D := fun S d e => match d, e with
  | .str a, .str b => if (b.length == 0) = false ∧ szOk (a.length + 2) = true then some (.lst ((Txt.split a b).map .str)) else none
  | _, _ => none
theorem re_split {o e : Expr} {apos pos : Pos} {mo me : M D} (ho : RE X cl tk o mo) (he : RE X cl tk e me) (hs : starEach [e] X.env = [(false, eval e X.env)] := by rfl) (hbase : attributeBase o "split" X.env (eval o X.env) = eval o X.env := by rfl) (hline : (apos.endLine == pos.line) = true := by rfl) :
    RE X cl tk (.Call (.Attribute o "split" apos) [e] [] pos) (mStr1 fSplit mo me) :=
  pe_imp (pe_split ho he hs hbase hline) fun _ _ _ h => tM1_of (chk := fun _ => true) (f := fSplit) T.ok (fun S d e z h => by unfold fSplit at h; split at h; exact ⟨_, rfl⟩; cases h) (fun φ S G H x y d e z Q w h1 h2 h3 k => by
    unfold fSplit at h3
    split at h3
    · split at h3
      · rename_i a b hz
        cases h3
        simp only [IsD] at h1 h2
        refine ⟨a, b, h1, by rw [h2], hz.1, szOk_le hz.2, fun p hp => ?_⟩
        exact new_lst w (IsDs.of_strs _) k p hp
      · cases h3
    · cases h3) h
end
end Mi
namespace Mi
open PySem L2
/-! ### match over sequences of written texts and names -/
inductive PatE where
  | val (s : Str) | cap (i : Nat)
inductive PatOk (X : Cx) : Pattern → PatE → Prop where
  | val {s : Str} {k : Nat} {p q : Pos} : PatOk X (.MatchValue (.Constant (.str s) k p) q) (.val s)
  | cap {n : Str} {i : Nat} {p : Pos} (hi : X.N[i]? = some n) (hx : Loc X.env.scope n) (hf : X.fn n = true ∨ X.env.scope.names.lookup n = some .local) : PatOk X (.MatchAs none (some n) p) (.cap i)
def matchSeqD : List PatE → List D → Option (Option (List (Nat × D)))
  | [], [] => some (some [])
  | .val s :: ps, d :: ds => match flV d with
    | some x => if scal x (.str s) = true then (if x = .str s then matchSeqD ps ds else some none) else none
    | none => none
  | .cap i :: ps, d :: ds => match matchSeqD ps ds with
    | some (some bs) => some (some ((i, d) :: bs))
    | r => r
  | _, _ => none
def BsOk (X : Cx) (φ : List Addr) (G : Hp) : List (Nat × D) → List (Str × Value) → Prop
  | [], bvs => bvs = []
  | (i, d) :: bs, bvs => ∃ n u r v, bvs = (n, u) :: r ∧ X.N[i]? = some n ∧ Loc X.env.scope n ∧ (X.fn n = true ∨ X.env.scope.names.lookup n = some .local) ∧ RelV v u ∧ IsD X.K φ G d v ∧ BsOk X φ G bs r
def bindAll (bs : List (Nat × D)) (g : Gm) : Gm := bs.foldl (fun g p => g.set p.1 (some p.2)) g
/-- the cases, by the subject's data -/
abbrev MC := D → MS
structure RCs (X : Cx) (cl : Cl) (tk : WX → Prop) (cases : List MatchCase) (m : MC) : Prop where
  run : ∀ (first : Bool) (pins : List (Addr × Obj)) (s : Shared) (σ : L2.St) (H : Hp) (Dn : Ends) (v : V) (u : Value) (φ : List Addr) (G : Hp) (g : Gm) (S : Store) (d : D) (o : Out) (S' : Store), Inv X pins σ H s → RelV v u →
    Wd X.K cl φ S G H → Sl X.K cl φ G g σ → IsD X.K φ G d v → m d g S = some (o, S') → Kos X.K cl tk φ G H o S' Dn → wpAny (model X.prog X.w) X.A (matchCases cases X.env u first) (SP X pins Dn) X.xe s
section
variable {X : Cx} {cl : Cl} {tk : WX → Prop} [T : Tk X tk]
theorem matchEach_ok {pins : List (Addr × Obj)} {σ : L2.St} {H : Hp} {φ : List Addr} {G : Hp} {E : Value → Shared → Prop} : ∀ {ps : List Pattern} {pes : List PatE} {ds : List D} {vs : List V} {us : List Value} {r : Option (List (Nat × D))} {s : Shared} {Q : Option (List (Str × Value)) → Shared → Prop},
    Paired (PatOk X) ps pes → IsDs X.K φ G ds vs → Vals vs us → matchSeqD pes ds = some r → Inv X pins σ H s → (∀ s', Inv X pins σ H s' → match r with
      | none => Q none s'
      | some bs => ∀ bvs, BsOk X φ G bs bvs → Q (some bvs) s') → wpAny (model X.prog X.w) X.A (matchEach ps X.env us) Q E s
  | _, _, [], _, _, _, _, _, .nil, hd, hv, e, I, k => by
    rw [hd.nil_inv] at hv
    cases hv
    simp only [matchSeqD] at e
    cases e
    exact wpAny_matchEach_nil (k _ I [] (by simp only [BsOk]))
  | _, _, [], _, _, _, _, _, .cons a _, hd, hv, e, I, k => by
    cases a <;> simp only [matchSeqD] at e <;> cases e
  | _, _, d :: ds, _, _, _, _, _, .nil, hd, hv, e, I, k => by
    simp only [matchSeqD] at e
    cases e
  | _, _, d :: ds, _, _, r, s, Q, .cons a rest, hd, hv, e, I, k => by
    obtain ⟨v, vr, rfl, h1, h2⟩ := hd.cons_inv
    cases hv with
    | cons rv rr =>
      cases a with
      | val =>
        simp only [matchSeqD] at e
        split at e
        · rename_i x fx
          split at e
          · rename_i hs
            have ev := flV_ok h1 fx
            subst ev
            refine wpAny_matchEach_cons (wpAny_matchPattern_Value (Calls.Constant_str ?_))
            refine wpAny_mono ((op_eq (X := X.wish E)) pins _ σ H v (.str _) _ _ (fun y H' => y = .bl (decide (v = .str _)) ∧ H' = H) ((I.tok _).wish E) rv ⟨_, rfl⟩ ⟨hs, rfl, rfl⟩) (fun c s2 ⟨y, H', I2, ry, q1, q2⟩ => ?_) fun _ _ z => z
            subst q1 q2
            cases ry
            refine wpAny_truthy_bool ?_
            split at e
            · rename_i hx
              rw [decide_eq_true hx, if_pos rfl]
              show wpAny _ _ _ _ _ _
              refine matchEach_ok rest h2 rr e I2.unwish fun s' I' => ?_
              have k' := k s' I'
              cases r with
              | none => exact k'
              | some bs => exact fun bvs hb => k' _ hb
            · rename_i hx
              cases e
              rw [decide_eq_false hx, if_neg Bool.false_ne_true]
              exact k s2 I2.unwish
          · cases e
        · cases e
      | cap hi hx hf =>
        simp only [matchSeqD] at e
        refine wpAny_matchEach_cons (wpAny_matchPattern_Capture ?_)
        show wpAny _ _ _ _ _ _
        cases q : matchSeqD _ ds with
        | none => rw [q] at e; cases e
        | some r' =>
          rw [q] at e
          refine matchEach_ok rest h2 rr q I fun s' I' => ?_
          have k' := k s' I'
          cases r' with
          | none => cases e; exact k'
          | some bs =>
            cases e
            exact fun bvs hb => k' _ ⟨_, _, _, v, rfl, hi, hx, hf, rv, h1, hb⟩
theorem bind_ok {pins : List (Addr × Obj)} {H : Hp} {φ : List Addr} {G : Hp} (hN : X.N.Nodup) : ∀ {bs : List (Nat × D)} {bvs : List (Str × Value)} {g : Gm} {σ : L2.St} {s : Shared} {Q : Unit → Shared → Prop}, BsOk X φ G bs bvs → Sl X.K cl φ G g σ → Inv X pins σ H s →
    (∀ σ' s', Inv X pins σ' H s' → Sl X.K cl φ G (bindAll bs g) σ' → Q () s') → wpAny (model X.prog X.w) X.A (assignInOrder (bvs.map fun (n, _) => bindName X.env n) (bvs.map (·.2))) Q X.xe s
  | [], _, g, σ, s, Q, hb, sl, I, k => by
    simp only [BsOk] at hb
    subst hb
    exact wpAny_assignInOrder_none (k σ s I sl)
  | (i, d) :: bs, _, g, σ, s, Q, hb, sl, I, k => by
    simp only [BsOk] at hb
    obtain ⟨n, u, r, v, rfl, hi, hx, hf, rv, hd, hb⟩ := hb
    refine wpAny_assignInOrder_more (wpAny_bindName (store_ok I hN hi hx rv (fun s2 I2 => ?_) hf))
    exact bind_ok hN hb (sl.set hd) I2 k
def mcNil : MC := fun _ g S => some (.nx g, S)
def mcCons (ps : List PatE) (body : MS) (rest : MC) : MC := fun d g S => match asL S d with
  | some l => if l.length = ps.length then match matchSeqD ps l with
      | some (some bs) => body (bindAll bs g) S
      | some none => rest d g S
      | none => none
    else rest d g S
  | none => none
theorem rcs_nil : RCs X cl tk [] mcNil := ⟨fun first pins s σ H Dn v u φ G g S d o S' I r w sl hd e k => by
  cases e
  exact wpAny_matchCases_nil ⟨σ, H, I, k φ G H (Step.refl _ _ _) w σ sl⟩⟩
theorem rcs_cons {ps : List Pattern} {pes : List PatE} {pos : Pos} {body : List Stmt} {rest : List MatchCase} {mb : MS} {mr : MC} (hN : X.N.Nodup) (hp : Paired (PatOk X) ps pes) (hb : RSs X cl tk body mb) (hr : RCs X cl tk rest mr) (hc : X.calm = true := by rfl)
    (hstar : ps.findIdx? (·.isStar) = none := by rfl) (hwild : (ps.all fun p => p.isWildcard || (p.isStar && p.names.isEmpty)) = false := by rfl) : RCs X cl tk (⟨.MatchSequence ps pos, none, body⟩ :: rest) (mcCons pes mb mr) := ⟨fun first pins s σ H Dn v u φ G g S d o S' I r w sl hd e k => by
  unfold mcCons at e
  split at e
  · rename_i l q
    obtain ⟨a, xs, rfl, h1, h2⟩ := asL_sq w hd q
    cases r
    have hpl : ps.length = pes.length := hp.length
    have hxl := h2.length
    refine wpAny_matchCases_cons ?_
    have go : ∀ (its : List Value) (s1 : Shared), Vals xs its → Inv X pins σ H s1 → l.length = pes.length → wpAny (model X.prog X.w) X.A (matchEach ps X.env its) (fun r s₁ => match r with
          | none => wpAny (model X.prog X.w) X.A (matchCases rest X.env (.ref a) false) (SP X pins Dn) X.xe s₁
          | some bs => wpAny (model X.prog X.w) X.A (assignInOrder (bs.map fun (n, _) => bindName X.env n) (bs.map (·.2))) (fun _ s₂ => wpAny (model X.prog X.w) X.A (execs body X.env) (SP X pins Dn) X.xe s₂) X.xe s₁) X.xe s1 := fun its s1 rv I1 hl => by
      rw [if_pos hl] at e
      split at e
      · rename_i bs q2
        refine matchEach_ok hp h2 rv q2 I1 fun s' I' => fun bvs hbv => ?_
        refine bind_ok hN hbv sl I' fun σ2 s2 I2 sl2 => ?_
        exact hb.run pins s2 σ2 H Dn I2 ⟨φ, G, _, S, o, S', w, sl2, e, k⟩
      · rename_i q2
        refine matchEach_ok hp h2 rv q2 I1 fun s' I' => ?_
        exact hr.run false pins s' σ H Dn (.ref a) (.ref a) φ G g S d o S' I' rfl w sl hd e k
      · cases e
    rcases h1 with h1 | h1
    · obtain ⟨its, rv, pl, hz⟩ := I.list h1
      have hl' : s.heap.IsList a its.toArray := by
        obtain ⟨o, m, e, c, d, q⟩ := pl
        exact ⟨o, e, c, m, q⟩
      have hfit : ((its.toArray.size : Nat) : Int) < 2 ^ 63 := by
        have := rv.length
        have h3 := line63
        simp
        have : (its.length : Int) ≤ (sizeLine : Nat) := by omega
        omega
      have hsz : its.toArray.size = l.length := by simp [← rv.length, hxl]
      by_cases hl : l.length = pes.length
      · refine PyProof.Rows.matchSeq_list_hit hl' hfit (by rw [hsz, hl, hpl]) ?_ hstar hwild
        rw [show ps.length = its.toArray.size by rw [hsz, hl, hpl]]
        refine PySem.W.kun_itemsOf (I.ok.hd hc) hl' fun h' hx => ?_
        have I1 : Inv X pins σ H { s with heap := h', toks := s.toks + 1 + 1 } := I.kept (t' := s.toks + 1 + 1) fun b o e => hx b o (Nat.ne_of_lt (Heap.lt_size e)) e
        exact go its _ rv I1 hl
      · refine PyProof.Rows.matchSeq_list_miss hl' hfit (by rw [hsz, hpl]; exact hl) ?_ hstar hwild
        rw [if_neg hl] at e
        exact hr.run false pins _ σ H Dn (.ref a) (.ref a) φ G g S d o S' (I.tok _) rfl w sl hd e k
    · obtain ⟨its, rv, pl, hz⟩ := I.tuple h1
      have hfit : ((its.toArray.size : Nat) : Int) < 2 ^ 63 := by
        have := rv.length
        have h3 := line63
        simp
        have : (its.length : Int) ≤ (sizeLine : Nat) := by omega
        omega
      have hsz : its.toArray.size = l.length := by simp [← rv.length, hxl]
      by_cases hl : l.length = pes.length
      · refine PyProof.Rows.matchSeq_tuple_hit pl hfit (by rw [hsz, hl, hpl]) ?_ hstar hwild
        rw [show ps.length = its.toArray.size by rw [hsz, hl, hpl]]
        refine PyProof.Rows.unpackItems_tuple (I.ok.hd hc) (pl.keeps fun b o e => e) fun h' hx => ?_
        have I1 : Inv X pins σ H { s with heap := h', toks := s.toks + 1 + 1 } := I.kept (t' := s.toks + 1 + 1) fun b o e => hx b o (Nat.ne_of_lt (Heap.lt_size e)) e
        exact go its _ rv I1 hl
      · refine PyProof.Rows.matchSeq_tuple_miss pl hfit (by rw [hsz, hpl]; exact hl) ?_ hstar hwild
        rw [if_neg hl] at e
        exact hr.run false pins _ σ H Dn (.ref a) (.ref a) φ G g S d o S' (I.tok _) rfl w sl hd e k
  · cases e⟩
def mMatch (m : M D) (mc : MC) : MS := fun g S => match m g S with
  | some (.ok d, S1) => mc d g S1
  | some (.exc c fs, S1) => some (.ex g c fs, S1)
  | none => none
theorem rs_match {subject : Expr} {cases : List MatchCase} {pos : Pos} {m : M D} {mc : MC} (he : RE X cl tk subject m) (hc : RCs X cl tk cases mc) : RS X cl tk (.Match subject cases pos) (mMatch m mc) := by
  refine ⟨fun pins s σ H Dn I ⟨φ, G, g, S, o, S', w, sl, e, k⟩ => ?_⟩
  refine wpAny_Match (thn (he.run pins s σ H (fun v H1 => ∃ φ1 G1 S1 d, Wd X.K cl φ1 S1 G1 H1 ∧ Sl X.K cl φ1 G1 g σ ∧ IsD X.K φ1 G1 d v ∧ mc d g S1 = some (o, S') ∧ Kos X.K cl tk φ1 G1 H1 o S' Dn) I ?_) fun u s1 ⟨v, H1, I1, rv, φ1, G1, S1, d, w1, sl1, hd, e1, k1⟩ => ?_)
  · exact tM_stmt (f := fun d g S1 => mc d g S1) w sl e k T.ok fun d φ1 G1 H1 S1 v st1 w1 s1 hv e1 k1 => ⟨φ1, G1, S1, d, w1, s1, hv, e1, k1⟩
  · exact hc.run true pins s1 σ H1 Dn v u φ1 G1 g S1 d o S' I1 rv w1 sl1 hd e1 k1
end
end Mi
namespace Mi
open PySem L2
/-! ### cells of a call that nothing leads to are forgotten -/
mutual
def refsLt (n : Nat) : D → Bool
  | .tup l => refsLts n l
  | .lst l => refsLts n l
  | .ref i => decide (i < n)
  | _ => true
def refsLts (n : Nat) : List D → Bool
  | [] => true
  | d :: ds => refsLt n d && refsLts n ds
end
def cellLt (n : Nat) : Cell → Bool
  | .lst l => refsLts n l
  | .dK kvs => refsLts n (kvs.map (·.2))
  | .ins _ fs => refsLts n (fs.map (·.2))
  | .dead => true
section
variable {K : PySem.W.Frag} {cl : Cl} {φ : List Addr} {G H : Hp} {n : Nat}
mutual
theorem IsD.cut : ∀ {d : D} {v : V}, IsD K φ G d v → refsLt n d = true → IsD K (φ.take n) G d v
  | .non, _, h, _ => by simpa only [IsD] using h
  | .bl _, _, h, _ => by simpa only [IsD] using h
  | .int _, _, h, _ => by simpa only [IsD] using h
  | .str _, _, h, _ => by simpa only [IsD] using h
  | .scr _, _, h, _ => by simpa only [IsD] using h
  | .tup ds, v, h, e => by
    simp only [IsD] at h ⊢
    simp only [refsLt] at e
    obtain ⟨a, xs, h1, h2, h3⟩ := h
    exact ⟨a, xs, h1, h2, IsDs.cutR h3 e⟩
  | .lst ds, v, h, e => by
    simp only [IsD] at h ⊢
    simp only [refsLt] at e
    obtain ⟨a, xs, h1, h2, h3⟩ := h
    exact ⟨a, xs, h1, h2, IsDs.cutR h3 e⟩
  | .ref i, v, h, e => by
    simp only [IsD] at h ⊢
    simp only [refsLt] at e
    obtain ⟨a, h1, h2⟩ := h
    exact ⟨a, h1, by rw [List.getElem?_take_of_lt (of_decide_eq_true e)]; exact h2⟩
theorem IsDs.cutR : ∀ {ds : List D} {vs : List V}, IsDs K φ G ds vs → refsLts n ds = true → IsDs K (φ.take n) G ds vs
  | [], _, h, _ => by simpa only [IsDs] using h
  | d :: ds, vs, h, e => by
    simp only [IsDs] at h ⊢
    simp only [refsLts, Bool.and_eq_true] at e
    obtain ⟨v, r, h1, h2, h3⟩ := h
    exact ⟨v, r, h1, IsD.cut h2 e.1, IsDs.cutR h3 e.2⟩
end
theorem FsD.cut : ∀ {fs : List (Str × D)} {vs : List (Str × V)}, FsD K φ G fs vs → refsLts n (fs.map (·.2)) = true → FsD K (φ.take n) G fs vs
  | [], _, h, _ => h
  | (m, d) :: fs, _, ⟨v, r, h1, h2, h3⟩, e => by
    simp only [List.map_cons, refsLts, Bool.and_eq_true] at e
    exact ⟨v, r, h1, h2.cut e.1, FsD.cut h3 e.2⟩
theorem KsD.cut : ∀ {fs : List (Key × D)} {vs : List (Key × V)}, KsD K φ G fs vs → refsLts n (fs.map (·.2)) = true → KsD K (φ.take n) G fs vs
  | [], _, h, _ => h
  | (m, d) :: fs, _, ⟨v, r, h1, h2, h3⟩, e => by
    simp only [List.map_cons, refsLts, Bool.and_eq_true] at e
    exact ⟨v, r, h1, h2.cut e.1, KsD.cut h3 e.2⟩
theorem CellOk.cut {a : Addr} {c : Cell} (h : CellOk K cl φ G H a c) (e : cellLt n c = true) : CellOk K cl (φ.take n) G H a c := by
  cases c with
  | lst l => obtain ⟨vs, h1, h2⟩ := h; exact ⟨vs, h1, h2.cutR e⟩
  | dK l => obtain ⟨vs, h1, h2⟩ := h; exact ⟨vs, h1, h2.cut e⟩
  | ins c l => obtain ⟨dx, vs, h1, h2⟩ := h; exact ⟨dx, vs, h1, h2.cut e⟩
  | dead => trivial
theorem Wd.cut {S : Store} (w : Wd K cl φ S G H) (e : (S.take n).all (cellLt n) = true) : Wd K cl (φ.take n) (S.take n) G H where
  len := by rw [List.length_take, List.length_take, w.len]
  iv := w.iv
  sub := w.sub
  nd := w.nd.sublist (List.take_sublist _ _)
  tr := fun a h => w.tr a (List.mem_of_mem_take h)
  ap := fun i c a h1 h2 h3 => by
    rw [List.getElem?_take] at h1 h2
    split at h1
    · rename_i hi
      rw [if_pos hi] at h2
      exact w.ap i c a h1 h2 h3
    · cases h1
  ok := fun i c a h1 h2 => by
    have hc : cellLt n c = true := List.all_eq_true.mp e c (List.mem_of_getElem? h1)
    rw [List.getElem?_take] at h1 h2
    split at h1
    · rename_i hi
      rw [if_pos hi] at h2
      exact (w.ok i c a h1 h2).cut hc
    · cases h1
theorem Step.cut {φ0 : List Addr} {G0 H0 : Hp} (s : Step φ0 G0 H0 φ G H) (e : φ0.length = n) : Step φ0 G0 H0 (φ.take n) G H where
  pre := by
    obtain ⟨t, rfl⟩ := s.pre
    rw [← e, List.take_left]
    exact List.prefix_refl _
  ex := s.ex
  gn := s.gn
  keep := s.keep
  new := fun a h => s.new a (List.mem_of_mem_take h)
def mTrim (m : MF) : MF := fun ds S => match m ds S with
  | some (.ok d, S1) => if refsLt S.length d = true ∧ (S1.take S.length).all (cellLt S.length) = true then some (.ok d, S1.take S.length) else none
  | some (.exc c fs, S1) => if (S1.take S.length).all (cellLt S.length) = true then some (.exc c fs, S1.take S.length) else none
  | none => none
theorem sp_trim {m : MF} {vs : List V} {Q : VK} {E : XK} (h : spM K cl (mTrim m) vs H Q E) : spM K cl m vs H Q E := by
  obtain ⟨φ, G, S, ds, r, S', w, hd, e, k⟩ := h
  unfold mTrim at e
  split at e
  · rename_i d S1 q
    split at e
    · rename_i hc
      cases e
      refine ⟨φ, G, S, ds, _, S1, w, hd, q, fun φ' G' H' st w' v hv => ?_⟩
      exact k _ G' H' (st.cut w.len) (w'.cut hc.2) v (hv.cut hc.1)
    · cases e
  · rename_i c fs S1 q
    split at e
    · rename_i hc
      cases e
      refine ⟨φ, G, S, ds, _, S1, w, hd, q, fun cls dd φ' G' H' ⟨h1, h2, h3⟩ => k cls dd _ G' H' ⟨h1.cut w.len, h2.cut hc, h3⟩⟩
    · cases e
  · cases e
theorem fn_trim {P : Program} {w : World} {mg : Str → Option Value} {base : Heap} {CX : CXT} {k : Nat} {f : Addr} {fd : FuncData} {ps : List Str} {m : MF} (F : FnOk P w K mg base CX k f fd ps (spM K cl m)) : FnOk P w K mg base CX k f fd ps (spM K cl (mTrim m)) :=
  F.imp fun _ _ _ _ h => sp_trim h
end

/-! ### a list cell becomes stable -/
section
variable {X : Cx} {cl : Cl} {tk : WX → Prop} [T : Tk X tk]
variable {K : PySem.W.Frag}
def mVarF (i : Nat) : M D := fun g S => match g[i]? with
  | some (some d) => match atC S d with
    | some (j, l) => some (.ok (.lst l), S.set j .dead)
    | none => none
  | _ => none
theorem frz_step {φ : List Addr} {S : Store} {G H : Hp} (w : Wd K cl φ S G H) {i : Nat} {a : Addr} {l : List D} {vs : List V} (hS : S[i]? = some (.lst l)) (hi : φ[i]? = some a) (hH : H a = some (.lst vs)) (hv : IsDs K φ G l vs) :
    Step φ G H φ (upd G a (.lst vs)) H ∧ Wd K cl φ (S.set i .dead) (upd G a (.lst vs)) H ∧ IsD K φ (upd G a (.lst vs)) (.lst l) (.ref a) := by
  have g0 : G a = none := w.ap i _ a hS hi (fun z => nomatch z)
  have ex : Ex G (upd G a (.lst vs)) := Ex.new g0
  refine ⟨⟨List.prefix_refl _, ex, fun x h => ?_, fun x o h _ => h, fun x h => .inl h⟩, ⟨by rw [List.length_set]; exact w.len, fun x o h => ?_, w.nd, w.tr, fun j c x h1 h2 h3 => ?_, fun j c x h1 h2 => ?_, cl.mono _ _ ex w.iv⟩, ?_⟩
  · by_cases e : x = a
    · subst e; exact .inr (.inr (List.mem_of_getElem? hi))
    · rw [upd_ne e] at h; exact .inl h
  · by_cases e : x = a
    · subst e; rw [upd_same] at h; rw [← h]; exact hH
    · rw [upd_ne e] at h; exact w.sub x o h
  · rcases set_get h1 with ⟨rfl, rfl⟩ | ⟨ne, h1⟩
    · exact absurd rfl h3
    · have nx : x ≠ a := fun z => ne (nodup_at w.nd h2 (by rw [z]; exact hi))
      rw [upd_ne nx]; exact w.ap j c x h1 h2 h3
  · rcases set_get h1 with ⟨rfl, rfl⟩ | ⟨ne, h1⟩
    · trivial
    · exact (w.ok j c x h1 h2).mono (List.prefix_refl _) ex fun o h => h
  · simp only [IsD]
    exact ⟨a, vs, rfl, upd_same, hv.mono (List.prefix_refl _) ex⟩
theorem re_varF {i : Nat} {x : Str} {pos : Pos} (hN : X.N[i]? = some x := by rfl) (hv : Vis X.env.scope x := by first | exact Or.inl rfl | exact Or.inr (Or.inl rfl) | exact Or.inr (Or.inr rfl)) (hd : (x == ("__debug__" : Str)) = false := by decide)
    (hcd : (x == ("__classdict__" : Str)) = false := by decide) : RE X cl tk (.Name x pos) (mVarF i) := by
  refine pe_imp (pe_var hN hv hd hcd) fun σ H Q ⟨φ, G, g, S, r, S', w, s, e, k⟩ => ?_
  unfold mVarF at e
  split at e
  · rename_i d hd
    split at e
    · rename_i j l q
      cases e
      obtain ⟨v, h1, h2⟩ := s.at_ _ _ hd
      obtain ⟨h3, a, xs, rfl, h4, h5, h6⟩ := atC_ok w h2 q
      obtain ⟨e1, e2, e3⟩ := frz_step w h3 h4 h5 h6
      exact ⟨_, h1, k _ _ _ e1 e2 _ e3⟩
    · cases e
  · cases e
/-! ### arithmetic's rows -/
def fSub : Store → D → D → Option D := f2I cTrue fun i j => .int (i - j)
noncomputable def fMul : Store → D → D → Option D := f2I cMul fun i j => .int (i * j)
noncomputable def fDiv : Store → D → D → Option D := f2I cDiv fun i j => .int (i / j)
noncomputable def fMod : Store → D → D → Option D := f2I cMod fun i j => .int (i % j)
noncomputable def fPow : Store → D → D → Option D := f2I cPow fun i j => .int (i ^ j.toNat)
theorem fSub_ok : OpS K cl (rI0 fun i j => .int (i - j)) fSub := s2I0 fun i j φ G => by simp only [IsD]
theorem fMul_ok : OpS K cl (rI CMul fun i j => .int (i * j)) fMul := s2I (P := CMul) (fun i j h => cdec_iff.mp h) fun i j φ G => by simp only [IsD]
theorem fDiv_ok : OpS K cl (rI CDiv fun i j => .int (i / j)) fDiv := s2I (P := CDiv) (fun i j h => cdec_iff.mp h) fun i j φ G => by simp only [IsD]
theorem fMod_ok : OpS K cl (rI (fun _ j => 0 < j) fun i j => .int (i % j)) fMod := s2I (P := fun _ j => 0 < j) (fun i j h => cdec_iff.mp h) fun i j φ G => by simp only [IsD]
theorem fPow_ok : OpS K cl (rI CPow fun i j => .int (i ^ j.toNat)) fPow := s2I (P := CPow) (fun i j h => cdec_iff.mp h) fun i j φ G => by simp only [IsD]
def fNeg : Store → D → Option D := fun _ d => match d with
  | .int i => some (.int (-i))
  | _ => none
theorem fNeg_ok : UnS K cl (rU fun i => .int (-i)) fNeg := fun φ S G H x d z Q w h1 h3 k => by
  unfold fNeg at h3
  split at h3
  · cases h3
    simp only [IsD] at h1
    exact ⟨_, h1, k _ _ _ (Step.refl _ _ _) w _ (by simp only [IsD])⟩
  · cases h3
theorem fLt_rel : RelS K cl (rI0 fun i j => .bl (decide (i < j))) fLt := f2B_rel
theorem fLe_rel : RelS K cl (rI0 fun i j => .bl (decide (i ≤ j))) fLe := f2B_rel
theorem fGt_rel : RelS K cl (rI0 fun i j => .bl (decide (j < i))) fGt := f2B_rel (g := fun i j => decide (j < i))
theorem fGe_rel : RelS K cl (rI0 fun i j => .bl (decide (j ≤ i))) fGe := f2B_rel (g := fun i j => decide (j ≤ i))
end
section
variable {X : Cx} {cl : Cl} {tk : WX → Prop} [T : Tk X tk]
theorem re_gstr {x z : Str} {t : Tok} {pos : Pos} (h : X.mg x = some (.str z t)) (hg : Gl X x := by rfl) (hdb : (x == ("__debug__" : Str)) = false := by decide) : RE X cl tk (.Name x pos) (mP (.str z)) :=
  re_glob (v := .str z) h ⟨t, rfl⟩ (fun _ _ => by simp only [Mi.IsD]) hg hdb
end
/-! ### the ends -/
theorem fn_none {P : Program} {w : World} {K : PySem.W.Frag} {mg : Str → Option Value} {base : Heap} {CX : CXT} {cl : Cl} {k : Nat} {f : Addr} {fd : FuncData} {ps : List Str} : FnOk P w K mg base CX k f fd ps (spM K cl fun _ _ => none) :=
  ⟨fun _ _ _ _ ⟨_, _, _, _, _, _, _, _, e, _⟩ => (by cases e), fun _ _ _ _ _ _ _ _ _ _ _ _ _ ⟨_, _, _, _, _, _, _, _, e, _⟩ => (by cases e)⟩
theorem cx_never {P : Program} {w : World} {outer : List Env} {H : Hp} {s : Shared} {e : Value} {s' : Shared} (h : L2.CX P w outer H s (fun _ _ _ => False) e s') : False := by
  obtain ⟨_, _, _, _, _, _, _, _, _, _, _, _, z⟩ := h
  exact z
/-- the law's promise, from its mirror at the script -/
def clT (f : Nat → Addr) : Cl := ⟨f, fun _ => True, fun _ _ _ _ => trivial, none⟩
theorem law_of {K : PySem.W.Frag} {f : Nat → Addr} {m : MF} {ns : List Int} {S' : Store} (e : m [.scr ns] [] = some (.ok (.bl true), S')) {H : Hp} {a : Addr} (hS : SqL K H a (ns.map V.int)) : spM K (clT f) m [.ref a] H (fun v _ => v = .bl true) fun _ _ _ => False := by
  refine ⟨[], H, [], [.scr ns], _, S', ⟨rfl, Ex.refl _, List.nodup_nil, fun _ h => (nomatch h), fun i c a h => (by simp at h), fun i c a h => (by simp at h), trivial⟩, .cons ?_ .nil, e, fun φ' G' H' _ _ v hv => ?_⟩
  · simp only [IsD]; exact ⟨a, rfl, hS⟩
  · simpa only [IsD] using hv
def mSkip : MS := fun g S => some (.nx g, S)
def mRetN : MS := fun _ S => some (.rt .non, S)
def mBrk : MS := fun g S => some (.bk g, S)
def mCnt : MS := fun g S => some (.ct g, S)
@[simp] theorem v_skip (g : Gm) (S : Store) : mSkip g S = some (.nx g, S) := id rfl
@[simp] theorem v_retN (g : Gm) (S : Store) : mRetN g S = some (.rt .non, S) := id rfl
@[simp] theorem v_brk (g : Gm) (S : Store) : mBrk g S = some (.bk g, S) := id rfl
@[simp] theorem v_cnt (g : Gm) (S : Store) : mCnt g S = some (.ct g, S) := id rfl
end Mi
/-! MiEval: what the mirrors' words give, for simp. -/
namespace Mi
open PySem L2
theorem sz_ok {n : Nat} (h : n ≤ 16777216) : szOk n = true := cdec_iff.mpr h
theorem sz_iff {n : Nat} : szOk n = true ↔ n ≤ 16777216 := cdec_iff
theorem big_ok {i : Int} (h : -1000000000 ≤ i ∧ i ≤ 1000000000) : big62 i = true := cdec_iff.mpr ⟨by omega, by omega⟩
section
variable {α β : Type} {g : Gm} {S S1 : Store}
@[simp] theorem v_P (a : α) : mP a g S = some (.ok a, S) := id rfl
theorem v_B {m : M α} {f : α → M β} {a : α} (h : m g S = some (.ok a, S1)) : mB m f g S = f a g S1 := by simp only [mB, h]
@[simp] theorem v_Beq (m : M α) (f : α → M β) : mB m f g S = match m g S with
  | some (.ok a, S1) => f a g S1
  | some (.exc c fs, S1) => some (.exc c fs, S1)
  | none => none := id rfl
@[simp] theorem v_L (f : Store → Option α) : mL f g S = (f S).map fun a => (.ok a, S) := id rfl
@[simp] theorem v_op1 (f : Store → D → Option D) (m : M D) : mOp1 f m g S = mB m (fun d => mL fun S => f S d) g S := id rfl
@[simp] theorem v_op2 (f : Store → D → D → Option D) (m n : M D) : mOp2 f m n g S = mB m (fun d => mB n fun e => mL fun S => f S d e) g S := id rfl
@[simp] theorem v_opA (f : Store → List D → Option D) (m : M (List D)) : mOpA f m g S = mB m (fun ds => mL fun S => f S ds) g S := id rfl
@[simp] theorem v_nil : mNil g S = some (.ok [], S) := id rfl
@[simp] theorem v_cons (m : M D) (n : M (List D)) : mCons m n g S = mB m (fun d => mB n fun ds => mP (d :: ds)) g S := id rfl
@[simp] theorem v_var (i : Nat) : mVar i g S = match g[i]? with
  | some (some d) => some (.ok d, S)
  | _ => none := id rfl
@[simp] theorem v_T (m : M D) : mT m g S = mB m (fun d => mL fun _ => match d with
  | .bl b => some b
  | _ => none) g S := id rfl
@[simp] theorem v_call (mf : MF) (m : M (List D)) : mCall mf m g S = mB m (fun ds => fun _ S => mf ds S) g S := id rfl
@[simp] theorem v_withD (mf : MF) : withD mf [] = mf := by funext ds S; simp [withD]
@[simp] theorem v_set (i : Nat) (m : M D) : mSet i m g S = match m g S with
  | some (.ok d, S1) => some (.nx (g.set i (some d)), S1)
  | some (.exc c fs, S1) => some (.ex g c fs, S1)
  | none => none := id rfl
@[simp] theorem v_ret (m : M D) : mRet m g S = match m g S with
  | some (.ok d, S1) => some (.rt d, S1)
  | some (.exc c fs, S1) => some (.ex g c fs, S1)
  | none => none := id rfl
@[simp] theorem v_ex (m : M D) : mEx m g S = match m g S with
  | some (.ok _, S1) => some (.nx g, S1)
  | some (.exc c fs, S1) => some (.ex g c fs, S1)
  | none => none := id rfl
@[simp] theorem v_seq (m n : MS) : mSeq m n g S = match m g S with
  | some (.nx g1, S1) => n g1 S1
  | r => r := id rfl
@[simp] theorem v_ifS (c : M Bool) (m n : MS) : mIfS c m n g S = match c g S with
  | some (.ok b, S1) => if b = true then m g S1 else n g S1
  | some (.exc c fs, S1) => some (.ex g c fs, S1)
  | none => none := id rfl
@[simp] theorem v_and (m n : M Bool) : mAndT m n g S = mB m (fun b => if b = true then n else mP false) g S := id rfl
@[simp] theorem v_or (m n : M Bool) : mOrT m n g S = mB m (fun b => if b = true then mP true else n) g S := id rfl
@[simp] theorem v_not (m : M Bool) : mNotT m g S = mB m (fun b => mP (!b)) g S := id rfl
@[simp] theorem v_bl (m : M D) (f : Bool → M D) : mBl m f g S = mB m (fun d => match d with
  | .bl b => f b
  | _ => fun _ _ => none) g S := id rfl
@[simp] theorem v_andV (m n : M D) : mAndV m n g S = mBl m (fun b => if b = true then n else mP (.bl false)) g S := id rfl
@[simp] theorem v_orV (m n : M D) : mOrV m n g S = mBl m (fun b => if b = true then mP (.bl true) else n) g S := id rfl
@[simp] theorem v_notV (m : M D) : mNotV m g S = mBl m (fun b => mP (.bl (!b))) g S := id rfl
@[simp] theorem v_if (c : M Bool) (m n : M D) : mIf c m n g S = mB c (fun b => if b = true then m else n) g S := id rfl
@[simp] theorem v_ch (f f' : Store → D → D → Option D) (ma mb mc : M D) : mCh f f' ma mb mc g S = mB ma (fun x => mB mb fun y => mB (mL fun S => f S x y) fun z => match z with
  | .bl true => mB mc fun u => mL fun S => f' S y u
  | .bl false => mP (.bl false)
  | _ => fun _ _ => none) g S := id rfl
@[simp] theorem v_part (m : M D) : mPart m g S = mB m (fun d => mL fun _ => match d with
  | .int i => some (some i)
  | _ => none) g S := id rfl
@[simp] theorem v_sl (m : M D) (lo hi : M (Option Int)) : mSl m lo hi g S = mB m (fun d => mB lo fun l => mB hi fun h => mL fun S => fSl S d l h) g S := id rfl
@[simp] theorem v_fn (N np : Nat) (b : MS) (ds : List D) : mFn N np b ds S = if ds.length = np then
    match b (ds.map some ++ List.replicate (N - np) none) S with
    | some (.rt d, S') => some (.ok d, S')
    | some (.nx _, S') => some (.ok .non, S')
    | some (.ex _ c fs, S') => some (.exc c fs, S')
    | _ => none
  else none := id rfl
@[simp] theorem v_for (mi : M Src) (b : Bind) (body : MS) : mFor mi b body g S = match mi g S with
  | some (.ok src, S1) => forGo src b body src.1 g S1
  | some (.exc c fs, S1) => some (.ex g c fs, S1)
  | none => none := id rfl
@[simp] theorem v_str1 (f : Store → D → D → Option D) (m n : M D) : mStr1 f m n g S = mB m (fun d => mB (mL fun _ => match d with | .str _ => some () | _ => none) fun _ => mB n fun e => mL fun S => f S d e) g S := id rfl
@[simp] theorem v_newL (m : M (List D)) : mNewL m g S = mB m (fun ds => fun _ S => if szOk ds.length = true then some (.ok (.ref S.length), S ++ [.lst ds]) else none) g S := id rfl
@[simp] theorem v_rng (m : M (List D)) : mRng m g S = mB m (fun ds => mL fun _ => match ds with
  | [.int j] => if big62 j = true then some (rngD 0 j.toNat, none) else none
  | [.int i, .int j] => if big62 i = true ∧ big62 j = true then some (rngD i (j - i).toNat, none) else none
  | _ => none) g S := id rfl
theorem v_lc {vs : List Nat} {mi : M Src} {b : Bind} {mt : M Bool} {me : M D} {src : Src} {l : List D} {S2 : Store} (h1 : mi g S = some (.ok src, S1)) (h2 : lcGo src b mt me (wipeG g vs) src.1 [] S1 = some (l, S2)) : mLc vs mi b mt me g S = some (.ok (.lst l), S2) := by
  unfold mLc mB
  rw [h1]
  show (match lcGo src b mt me (wipeG g vs) src.1 [] S1 with
    | some (l, S1) => some ((.ok (.lst l) : R D), S1)
    | none => none) = _
  rw [h2]
@[simp] theorem v_I (m : M D) : mI m g S = mB m (fun d => mL fun S => match d with
  | .lst l => some (l, none)
  | .scr l => some (l.map D.int, none)
  | .tup l => some (l, none)
  | .str z => some (chars z, none)
  | .ref i => match S[i]? with
    | some (.lst l) => some (l, some i)
    | _ => none
  | _ => none) g S := id rfl
@[simp] theorem v_bN (i : Nat) (d : D) : bN i d g = some (g.set i (some d)) := id rfl
@[simp] theorem v_app (mo me : M D) : mApp mo me g S = mB mo (fun d => mB (mL fun S => atC S d) fun _ => mB me fun e => fun _ S => match atC S d with
  | some (i, l) => if szOk (l.length + 1) = true then some (.ok .non, S.set i (.lst (l ++ [e]))) else none
  | none => none) g S := id rfl
@[simp] theorem v_varF (i : Nat) : mVarF i g S = match g[i]? with
  | some (some d) => match atC S d with
    | some (j, l) => some (.ok (.lst l), S.set j .dead)
    | none => none
  | _ => none := id rfl
@[simp] theorem v_match (m : M D) (mc : MC) : mMatch m mc g S = match m g S with
  | some (.ok d, S1) => mc d g S1
  | some (.exc c fs, S1) => some (.ex g c fs, S1)
  | none => none := id rfl
@[simp] theorem v_mcNil (d : D) : mcNil d g S = some (.nx g, S) := id rfl
@[simp] theorem v_mcCons (ps : List PatE) (body : MS) (rest : MC) (d : D) : mcCons ps body rest d g S = match asL S d with
  | some l => if l.length = ps.length then match matchSeqD ps l with
      | some (some bs) => body (bindAll bs g) S
      | some none => rest d g S
      | none => none
    else rest d g S
  | none => none := id rfl
end
/-! numbers -/
@[simp] theorem v_add (S : Store) (i j : Int) : fAdd S (.int i) (.int j) = some (.int (i + j)) := id rfl
@[simp] theorem v_adds (S : Store) (x y : Str) : fAdd S (.str x) (.str y) = if szOk (x.length + y.length) = true then some (.str (x ++ y)) else none := id rfl
@[simp] theorem v_sub (S : Store) (i j : Int) : fSub S (.int i) (.int j) = some (.int (i - j)) := id rfl
theorem v_mul (S : Store) (i j : Int) (h : (-(2 ^ 64) < i ∧ i < 2 ^ 64) ∨ (-(2 ^ 64) < j ∧ j < 2 ^ 64)) : fMul S (.int i) (.int j) = some (.int (i * j)) := by
  show (if cdec _ = true then _ else _) = _
  rw [if_pos (cdec_iff.mpr h)]
theorem v_mod (S : Store) (i j : Int) (h : 0 < j) : fMod S (.int i) (.int j) = some (.int (i % j)) := by
  show (if cdec _ = true then _ else _) = _
  rw [if_pos (cdec_iff.mpr h)]
theorem v_div (S : Store) (i j : Int) (h : 0 < j ∧ j < 1073741824) : fDiv S (.int i) (.int j) = some (.int (i / j)) := by
  show (if cdec _ = true then _ else _) = _
  rw [if_pos (cdec_iff.mpr h)]
theorem v_pow (S : Store) (i j : Int) (h : 0 ≤ j ∧ j ≤ 1000000 ∧ i.natAbs < 2 ^ 64) : fPow S (.int i) (.int j) = some (.int (i ^ j.toNat)) := by
  show (if cdec _ = true then _ else _) = _
  rw [if_pos (cdec_iff.mpr h)]
@[simp] theorem v_lt (S : Store) (i j : Int) : fLt S (.int i) (.int j) = some (.bl (decide (i < j))) := id rfl
@[simp] theorem v_le (S : Store) (i j : Int) : fLe S (.int i) (.int j) = some (.bl (decide (i ≤ j))) := id rfl
@[simp] theorem v_gt (S : Store) (i j : Int) : fGt S (.int i) (.int j) = some (.bl (decide (j < i))) := id rfl
@[simp] theorem v_ge (S : Store) (i j : Int) : fGe S (.int i) (.int j) = some (.bl (decide (j ≤ i))) := id rfl
@[simp] theorem v_abs (S : Store) (i : Int) : cAbs S [.int i] = some (.int (if i < 0 then -i else i)) := id rfl
@[simp] theorem v_cint (S : Store) (i : Int) : cInt S [.int i] = some (.int i) := id rfl
@[simp] theorem v_lenL (S : Store) (l : List D) : cLen S [.lst l] = some (.int l.length) := id rfl
@[simp] theorem v_lenT (S : Store) (l : List D) : cLen S [.tup l] = some (.int l.length) := id rfl
theorem v_lenS (S : Store) (z : Str) (h : z.length ≤ 16777216) : cLen S [.str z] = some (.int z.length) := by
  show (if szOk z.length = true then _ else _) = _
  rw [if_pos (show szOk z.length = true from cdec_iff.mpr h)]
@[simp] theorem v_ixL (S : Store) (l : List D) (i : Int) : fIx S (.lst l) (.int i) = atI l i := id rfl
@[simp] theorem v_ixT (S : Store) (l : List D) (i : Int) : fIx S (.tup l) (.int i) = atI l i := id rfl
@[simp] theorem v_slL (S : Store) (l : List D) (lo hi : Option Int) : fSl S (.lst l) lo hi = some (.lst (cutD l lo hi)) := id rfl
theorem intsOf_map : ∀ l : List Int, intsOf (l.map D.int) = some l
  | [] => rfl
  | i :: l => by simp only [List.map_cons, intsOf, intsOf_map l]; rfl
theorem blsOf_map : ∀ l : List Bool, blsOf (l.map D.bl) = some l
  | [] => rfl
  | i :: l => by simp only [List.map_cons, blsOf, blsOf_map l]; rfl
theorem strsOf_map : ∀ l : List Str, strsOf (l.map D.str) = some l
  | [] => rfl
  | i :: l => by simp only [List.map_cons, strsOf, strsOf_map l]; rfl
theorem v_sum (S : Store) (l : List Int) : cSum S [.lst (l.map D.int)] = some (.int l.sum) := by
  show ((some (l.map D.int)).bind intsOf).map _ = _
  rw [Option.bind_some, intsOf_map]; rfl
theorem v_all (S : Store) (l : List Bool) : cAll S [.lst (l.map D.bl)] = some (.bl (l.all id)) := by
  show ((some (l.map D.bl)).bind blsOf).map _ = _
  rw [Option.bind_some, blsOf_map]; rfl
theorem v_any (S : Store) (l : List Bool) : cAny S [.lst (l.map D.bl)] = some (.bl (l.any id)) := by
  show ((some (l.map D.bl)).bind blsOf).map _ = _
  rw [Option.bind_some, blsOf_map]; rfl
theorem atI_natD {l : List D} {i : Int} {j : Nat} (h : i = j) (hj : j < l.length) : atI l i = some l[j] := by
  subst h; exact atI_nat (List.getElem?_eq_getElem hj)
theorem atI_ints {l : List Int} {i : Int} (h0 : 0 ≤ i) (h1 : i < l.length) : atI (l.map D.int) i = some (.int (l.getD i.toNat 0)) := by
  have e : i = (i.toNat : Nat) := by omega
  have hj : i.toNat < l.length := by omega
  rw [e, atI_nat (v := .int (l.getD i.toNat 0))]
  · rfl
  · simp [List.getD, hj]
/-! ### the draws of a law -/
def drawF (l : List Int) (k many : Int) : Int := if k < l.length then l.getD k.toNat 0 % many else (k * 7919 + (l.take 40).sum * 31 + 3) % 1009 % many
theorem drawF_ge (l : List Int) (k : Int) {many : Int} (h : 0 < many) : 0 ≤ drawF l k many := by
  unfold drawF; split <;> exact Int.emod_nonneg _ (by omega)
theorem drawF_lt (l : List Int) (k : Int) {many : Int} (h : 0 < many) : drawF l k many < many := by
  unfold drawF; split <;> exact Int.emod_lt_of_pos _ h
theorem cut40 (l : List Int) : cutD (l.map D.int) none (some 40) = (l.take 40).map D.int := by
  unfold cutD
  have e : HT.sIx (l.map D.int).length 0 none = 0 := rfl
  have e2 : HT.sIx (l.map D.int).length (l.map D.int).length (some 40) = min 40 (l.map D.int).length := HT.sIx_nat _ _ 40
  rw [e, e2, List.drop_zero, Nat.sub_zero, List.length_map, ← List.map_take]
  congr 1
  rw [List.take_eq_take_iff]
  omega
/-! ### loops by a word -/
@[simp] theorem srcOk_none (S : Store) (l : List D) : srcOk S (l, none) = True := id rfl
/-- a loop whose body never leaves it: I by what is left, the names, the store -/
theorem forGo_all {src : Src} {b : Bind} {body : MS} (I : List D → Gm → Store → Prop)
    (turn : ∀ d ds g S, I (d :: ds) g S → srcOk S src ∧ ∃ g1 g2 S2, b d g = some g1 ∧ (body g1 S = some (.nx g2, S2) ∨ body g1 S = some (.ct g2, S2)) ∧ I ds g2 S2) (fin : ∀ g S, I [] g S → srcOk S src) :
    ∀ (l : List D) (g : Gm) (S : Store), I l g S → ∃ g' S', forGo src b body l g S = some (.nx g', S') ∧ I [] g' S'
  | [], g, S, h => ⟨g, S, by simp only [forGo, if_pos (fin g S h)], h⟩
  | d :: ds, g, S, h => by
    obtain ⟨h1, g1, g2, S2, e1, e2, h2⟩ := turn d ds g S h
    obtain ⟨g', S', e3, h3⟩ := forGo_all I turn fin ds g2 S2 h2
    refine ⟨g', S', ?_, h3⟩
    rcases e2 with e2 | e2
    · simp only [forGo, if_pos h1, e1, e2, e3]
    · simp only [forGo, if_pos h1, e1, e2, e3]
/-- a comprehension whose turns all give a value -/
theorem lcGo_map {src : Src} {b : Bind} {me : M D} {g0 : Gm} {S : Store} (f : D → D) (hok : srcOk S src) :
    ∀ (l acc : List D), (∀ d ∈ l, ∃ g1, b d g0 = some g1 ∧ me g1 S = some (.ok (f d), S)) → l.length + acc.length ≤ 16777216 → lcGo src b (mP true) me g0 l acc S = some (acc ++ l.map f, S)
  | [], acc, _, _ => by simp only [lcGo, if_pos hok, List.map_nil, List.append_nil]
  | d :: ds, acc, h, hl => by
    obtain ⟨g1, e1, e2⟩ := h d List.mem_cons_self
    simp only [List.length_cons] at hl
    simp only [lcGo, if_pos hok, e1, v_P, e2]
    rw [if_pos (sz_ok (by omega)), lcGo_map f hok ds (acc ++ [f d]) (fun x hx => h x (List.mem_cons_of_mem _ hx)) (by simp; omega)]
    simp
theorem lcGo_filter {src : Src} {b : Bind} {mt : M Bool} {me : M D} {g0 : Gm} {S : Store} (p : D → Bool) (f : D → D) (hok : srcOk S src) :
    ∀ (l acc : List D), (∀ d ∈ l, ∃ g1, b d g0 = some g1 ∧ mt g1 S = some (.ok (p d), S) ∧ (p d = true → me g1 S = some (.ok (f d), S))) → l.length + acc.length ≤ 16777216 → lcGo src b mt me g0 l acc S = some (acc ++ (l.filter p).map f, S)
  | [], acc, _, _ => by simp only [lcGo, if_pos hok, List.filter_nil, List.map_nil, List.append_nil]
  | d :: ds, acc, h, hl => by
    obtain ⟨g1, e1, e2, e3⟩ := h d List.mem_cons_self
    simp only [List.length_cons] at hl
    cases q : p d with
    | true =>
      rw [q] at e2
      simp only [lcGo, if_pos hok, e1, e2, e3 q]
      rw [if_pos (sz_ok (by omega)), lcGo_filter p f hok ds (acc ++ [f d]) (fun x hx => h x (List.mem_cons_of_mem _ hx)) (by simp; omega), List.filter_cons_of_pos q]
      simp
    | false =>
      rw [q] at e2
      simp only [lcGo, if_pos hok, e1, e2]
      rw [lcGo_filter p f hok ds acc (fun x hx => h x (List.mem_cons_of_mem _ hx)) (by omega), List.filter_cons_of_neg (by simp [q])]
theorem refsLts_ints (n : Nat) : ∀ l : List Int, refsLts n (l.map D.int) = true
  | [] => rfl
  | i :: l => by simp only [List.map_cons, refsLts, refsLt, refsLts_ints n l]; rfl
end Mi
namespace Mi
open PySem L2
/-! ### raising an own error made with a text -/
abbrev veBm : List Value := [.type "ValueError", .type "Exception", .type "BaseException", .type "object"]
/-- class x at C may be made with a text -/
structure OwnC (K : PySem.W.Frag) (mg : Str → Option Value) (x : Str) (C : Addr) : Prop where
  q : PySem.W.excIn K C veBm "ValueError.__new__" = true
  g : mg x = some (.ref C)
  k : PySem.W.keepIn K (.ref C) = true
  b : PySem.W.subIn K (.ref C) (.type "BaseException") = some true
  t : PySem.W.typeIn K (.ref C) = some (.type "type")
def mRaise (c : Nat) (fs : List (Str × D)) : MS := fun g S => some (.ex g c fs, S)
section
variable {X : Cx} {cl : Cl} {tk : WX → Prop} [T : Tk X tk]
theorem rs_raise {x m : Str} {j : Nat} {p p2 pos pos' : Pos} {c : Nat} (O : OwnC X.K X.mg x (cl.at_ c)) (hc : X.calm = true := by rfl) (hg : Gl X x := by rfl) (hdb : (x == ("__debug__" : Str)) = false := by decide) :
    RS X cl tk (.Raise (some (.Call (.Name x p) [.Constant (.str m) j p2] [] pos)) none pos') (mRaise c []) := by
  refine ⟨fun pins s σ H D I ⟨φ, G, g, S, o, S', w, sl, e, k⟩ => ?_⟩
  cases e
  exact (ps_raise hc (T.tk _ k) (pmk_own PySem.F.excBase_ValueError O.q O.g O.k (raises_own O.b O.t) hg hdb)).run pins s σ H D I ⟨φ, G, ⟨Step.refl _ _ _, w, rfl, .inl ⟨rfl, rfl⟩⟩, sl⟩
end

/-! ### what a handler knows -/
def FOk (K : PySem.W.Frag) (fs : List (Str × D)) (d : Option Addr) (G : Hp) : Prop := (fs = [] ∧ d = none) ∨ ∃ dx fv, d = some dx ∧ G dx = some (.xd fv) ∧ FsD K [] G fs fv
def clE (K : PySem.W.Frag) (cl : Cl) (fs : List (Str × D)) (d : Option Addr) (hd : Option (Nat × Addr)) : Cl where
  at_ := cl.at_
  inv := fun G => cl.inv G ∧ FOk K fs d G
  mono := fun G G' e h => ⟨cl.mono G G' e h.1, h.2.imp id fun ⟨dx, fv, h1, h2, h3⟩ => ⟨dx, fv, h1, e _ _ h2, h3.mono (List.prefix_refl _) e⟩⟩
  hd := hd
section
variable {K : PySem.W.Frag} {cl : Cl} {φ : List Addr} {S : Store} {G H : Hp} {fs : List (Str × D)} {d : Option Addr} {hd : Option (Nat × Addr)}
theorem cellE {a : Addr} {c : Cell} : CellOk K (clE K cl fs d hd) φ G H a c ↔ CellOk K cl φ G H a c := by cases c <;> exact Iff.rfl
theorem Wd.toE (w : Wd K cl φ S G H) (h : FOk K fs d G) : Wd K (clE K cl fs d hd) φ S G H := ⟨w.len, w.sub, w.nd, w.tr, w.ap, fun i c a h1 h2 => cellE.mpr (w.ok i c a h1 h2), ⟨w.iv, h⟩⟩
theorem Wd.ofE (w : Wd K (clE K cl fs d hd) φ S G H) : Wd K cl φ S G H := ⟨w.len, w.sub, w.nd, w.tr, w.ap, fun i c a h1 h2 => cellE.mp (w.ok i c a h1 h2), w.iv.1⟩
theorem Sl.ofE (hh : cl.hd = none) {g : Gm} {σ : St} (s : Sl K (clE K cl fs d hd) φ G g σ) : Sl K cl φ G g σ := ⟨s.len, s.at_, fun i a z => by rw [hh] at z; cases z⟩
theorem Sl.toE {i : Nat} {a : Addr} {g : Gm} {σ : St} (s : Sl K cl φ G g σ) : Sl K (clE K cl fs d (some (i, a))) φ G (g.set i none) (σ.set i (some (.ref a))) := ⟨by simp [s.len], fun j e hj => by
  by_cases q : i = j
  · subst q
    rw [List.getElem?_set] at hj
    simp at hj
  · rw [List.getElem?_set_ne q] at hj ⊢
    exact s.at_ j e hj, fun j b hj hg => by
  cases (show some (i, a) = some (j, b) from hj)
  have hl : i < g.length := by
    by_cases h : i < g.length
    · exact h
    · rw [List.getElem?_eq_none (by simpa using h)] at hg; cases hg
  exact List.getElem?_set_self (by rw [s.len]; exact hl)⟩
theorem Sl.toO {g : Gm} {σ : St} (s : Sl K cl φ G g σ) : Sl K (clE K cl fs d none) φ G g σ := ⟨s.len, s.at_, fun i a z => by cases (show (none : Option (Nat × Addr)) = some _ from z)⟩
end

/-! ### try .. except -/
def leW (W : WX) : WX → Prop := fun W' => ∀ c d σ H, W' c d σ H → W c d σ H
theorem leW_ok (W : WX) : TkOk (leW W) := fun W1 W2 h i c d σ H q => h c d σ H (i c d σ H q)
theorem tk_le {X : Cx} {W : WX} (t : Takes X W) : Tk X (leW W) := ⟨leW_ok W, fun _ h => t.imp h⟩
/-- what a suite's end is behind the try: the name is gone -/
def outE (i : Nat) : Out → Option Out
  | .nx g => some (.nx (g.set i none))
  | .bk g => some (.bk (g.set i none))
  | .ct g => some (.ct (g.set i none))
  | .rt d => some (.rt d)
  | .ex _ _ _ => none
def mTryAs (mb : MS) (tab : Nat → Option Bool) (i : Nat) (mh : Nat → List (Str × D) → MS) : MS := fun g S => match mb g S with
  | some (.ex g1 c fs, S1) => match tab c with
    | some true => match mh c fs (g1.set i none) S1 with
      | some (o, S2) => (outE i o).map fun o' => (o', S2)
      | none => none
    | some false => some (.ex g1 c fs, S1)
    | none => none
  | r => r
def outO : Out → Option Out
  | .ex _ _ _ => none
  | o => some o
def mTryO (mb : MS) (tab : Nat → Option Bool) (mh : Nat → List (Str × D) → MS) : MS := fun g S => match mb g S with
  | some (.ex g1 c fs, S1) => match tab c with
    | some true => match mh c fs g1 S1 with
      | some (o, S2) => (outO o).map fun o' => (o', S2)
      | none => none
    | some false => some (.ex g1 c fs, S1)
    | none => none
  | r => r
section
variable {X : Cx} {cl : Cl} {tk : WX → Prop} [T : Tk X tk]
theorem kos_le {K : PySem.W.Frag} {φ : List Addr} {G H : Hp} {o : Out} {S' : Store} {Dn : Ends} {W : WX} (k : Kos K cl tk φ G H o S' Dn) (h : ∀ g c fs, o ≠ .ex g c fs) : Kos K cl (leW W) φ G H o S' Dn := by
  cases o with
  | ex g c fs => exact absurd rfl (h g c fs)
  | nx g => exact k
  | rt g => exact k
  | bk g => exact k
  | ct g => exact k
theorem rs_tryAs {i : Nat} {x n : Str} {cv : Value} {body suite : List Stmt} {b₀ : Stmt} {np pos pos' : Pos} {mb : MS} {tab : Nat → Option Bool} {mh : Nat → List (Str × D) → MS}
    (hN : X.N.Nodup) (hc : Names X x cv) (hx : ∀ c b, tab c = some b → PySem.W.exmOne X.K (.ref (cl.at_ c)) cv = some b)
    (hb : ∀ (W : WX) (pn : List (Addr × Obj)) (xe : Value → Shared → Prop), Tk (X.tr pn xe) (leW W) → PassesOwn (model X.prog X.w) X.A X.env xe → RSs (X.tr pn xe) cl (leW W) body mb)
    (hS : ∀ (a : Addr) (oe : Obj) (c : Nat) (fs : List (Str × D)) (d : Option Addr) (pn : List (Addr × Obj)), tab c = some true → Zc (.ref (cl.at_ c)) d oe → (∃ vs, oe.data = .fields vs) →
      RSs (X.suite a ((a, oe) :: pn)) (clE X.K cl fs d (some (i, a))) (fun _ => False) (b₀ :: suite) (mh c fs))
    (hs : X.stack = X.env :: X.outer := by rfl) (hf : X.env.frame = some X.env.locals := by rfl) (hi : X.N[i]? = some n := by rfl) (hln : X.env.kindOf n = some .local := by rfl) (hh : cl.hd = none := by rfl) :
    RS X cl tk (.Try body [.ExceptHandler (some (.Name x np)) (some n) (b₀ :: suite) pos'] [] [] pos) (mTryAs mb tab i mh) := by
  refine ⟨fun pins s σ H D I ⟨φ, G, g, S, o, S', w, sl, e, k⟩ => ?_⟩
  let ts : Addr → Value → Option Addr → TS := fun a cls d D σ H => ∃ c fs, cls = .ref (cl.at_ c) ∧ tab c = some true ∧ tMS X.K (clE X.K cl fs d (some (i, a))) (fun _ => False) (mh c fs) D σ H
  have suiteR : ∀ (a : Addr) (oe : Obj) (cls : Value) (d : Option Addr) (pn : List (Addr × Obj)), Zc cls d oe → (∃ vs, oe.data = .fields vs) → PSs (X.suite a ((a, oe) :: pn)) (b₀ :: suite) (ts a cls d) := fun a oe cls d pn hz hfl =>
    ⟨fun pins s σ H D I ⟨c, fs, ec, et, h⟩ => by subst ec; exact (hS a oe c fs d pn et hz hfl).run pins s σ H D I h⟩
  have main : ∀ Wout : WX, Takes X Wout → tMS X.K cl (leW (wAs X.K cv i ts Wout D)) mb D σ H → wpAny (model X.prog X.w) X.A (exec (.Try body [.ExceptHandler (some (.Name x np)) (some n) (b₀ :: suite) pos'] [] [] pos) X.env) (SP X pins D) X.xe s := fun Wout tkW h =>
    (ps_try_as (i := i) (tb := fun W => tMS X.K cl (leW W) mb) (ts := ts) (Wout := Wout) hs hf hN hi hln hc tkW (fun W pn xe t hp => hb W pn xe (tk_le t) hp) suiteR).run pins s σ H D I h
  unfold mTryAs at e
  split at e
  · rename_i g1 c fs S1 q
    split at e
    · rename_i et
      split at e
      · rename_i o2 S2 q2
        cases ho : outE i o2 with
        | none => rw [ho] at e; cases e
        | some o' =>
          rw [ho] at e
          cases e
          refine main (fun _ _ _ _ => False) takes0 ⟨φ, G, g, S, _, _, w, sl, q, ?_⟩
          intro cls dd σ' H' ⟨φ', G', ⟨st, w', ec, hfo⟩, sl'⟩
          subst ec
          refine ⟨true, hx c true et, fun _ a ha => ⟨c, fs, rfl, et, φ', G', _, S1, o2, S', w'.toE hfo, sl'.toE, q2, ?_⟩, fun z => by cases z⟩
          cases o2 with
          | nx g2 =>
            cases ho
            exact fun φ2 G2 H2 st2 w2 σ2 s2 => k φ2 G2 H2 (st.trans st2) w2.ofE _ ((s2.ofE hh).wipe hh)
          | bk g2 =>
            cases ho
            exact fun φ2 G2 H2 st2 w2 σ2 s2 => k φ2 G2 H2 (st.trans st2) w2.ofE _ ((s2.ofE hh).wipe hh)
          | ct g2 =>
            cases ho
            exact fun φ2 G2 H2 st2 w2 σ2 s2 => k φ2 G2 H2 (st.trans st2) w2.ofE _ ((s2.ofE hh).wipe hh)
          | rt d2 =>
            cases ho
            exact fun φ2 G2 H2 st2 w2 v hv => k φ2 G2 H2 (st.trans st2) w2.ofE v hv
          | ex g2 c2 fs2 => cases ho
      · cases e
    · rename_i et
      cases e
      refine main _ (T.tk _ k) ⟨φ, G, g, S, _, _, w, sl, q, ?_⟩
      intro cls dd σ' H' hw
      obtain ⟨φ', G', ⟨st, w', ec, hfo⟩, sl'⟩ := id hw
      subst ec
      exact ⟨false, hx c false et, fun z => (by cases z), fun _ => hw⟩
    · cases e
  · rename_i hn
    exact main (fun _ _ _ _ => False) takes0 ⟨φ, G, g, S, o, S', w, sl, e, kos_le k fun g c fs z => by subst z; exact hn g c fs S' e⟩
theorem rs_tryO {x : Str} {cv : Value} {body suite : List Stmt} {b₀ : Stmt} {np pos pos' : Pos} {mb : MS} {tab : Nat → Option Bool} {mh : Nat → List (Str × D) → MS}
    (hc : Names X x cv) (hx : ∀ c b, tab c = some b → PySem.W.exmOne X.K (.ref (cl.at_ c)) cv = some b)
    (hb : ∀ (W : WX) (pn : List (Addr × Obj)) (xe : Value → Shared → Prop), Tk (X.tr pn xe) (leW W) → PassesOwn (model X.prog X.w) X.A X.env xe → RSs (X.tr pn xe) cl (leW W) body mb)
    (hS : ∀ (a : Addr) (oe : Obj) (c : Nat) (fs : List (Str × D)) (d : Option Addr) (pn : List (Addr × Obj)), tab c = some true → Zc (.ref (cl.at_ c)) d oe → (∃ vs, oe.data = .fields vs) →
      RSs (X.suite a ((a, oe) :: pn)) (clE X.K cl fs d none) (fun _ => False) (b₀ :: suite) (mh c fs))
    (hs : X.stack = X.env :: X.outer := by rfl) (hf : X.env.frame = some X.env.locals := by rfl) (hh : cl.hd = none := by rfl) :
    RS X cl tk (.Try body [.ExceptHandler (some (.Name x np)) none (b₀ :: suite) pos'] [] [] pos) (mTryO mb tab mh) := by
  refine ⟨fun pins s σ H D I ⟨φ, G, g, S, o, S', w, sl, e, k⟩ => ?_⟩
  let ts : Addr → Value → Option Addr → TS := fun a cls d D σ H => ∃ c fs, cls = .ref (cl.at_ c) ∧ tab c = some true ∧ tMS X.K (clE X.K cl fs d none) (fun _ => False) (mh c fs) D σ H
  have suiteR : ∀ (a : Addr) (oe : Obj) (cls : Value) (d : Option Addr) (pn : List (Addr × Obj)), Zc cls d oe → (∃ vs, oe.data = .fields vs) → PSs (X.suite a ((a, oe) :: pn)) (b₀ :: suite) (ts a cls d) := fun a oe cls d pn hz hfl =>
    ⟨fun pins s σ H D I ⟨c, fs, ec, et, h⟩ => by subst ec; exact (hS a oe c fs d pn et hz hfl).run pins s σ H D I h⟩
  have main : ∀ Wout : WX, Takes X Wout → tMS X.K cl (leW (wOnly X.K cv ts Wout D)) mb D σ H → wpAny (model X.prog X.w) X.A (exec (.Try body [.ExceptHandler (some (.Name x np)) none (b₀ :: suite) pos'] [] [] pos) X.env) (SP X pins D) X.xe s := fun Wout tkW h =>
    (ps_try_only (tb := fun W => tMS X.K cl (leW W) mb) (ts := ts) (Wout := Wout) hs hf hc tkW (fun W pn xe t hp => hb W pn xe (tk_le t) hp) suiteR).run pins s σ H D I h
  unfold mTryO at e
  split at e
  · rename_i g1 c fs S1 q
    split at e
    · rename_i et
      split at e
      · rename_i o2 S2 q2
        cases ho : outO o2 with
        | none => rw [ho] at e; cases e
        | some o' =>
          rw [ho] at e
          cases e
          refine main (fun _ _ _ _ => False) takes0 ⟨φ, G, g, S, _, _, w, sl, q, ?_⟩
          intro cls dd σ' H' ⟨φ', G', ⟨st, w', ec, hfo⟩, sl'⟩
          subst ec
          refine ⟨true, hx c true et, fun _ a ha => ⟨c, fs, rfl, et, φ', G', _, S1, o2, S', w'.toE hfo, sl'.toO, q2, ?_⟩, fun z => by cases z⟩
          cases o2 with
          | nx g2 =>
            cases ho
            exact fun φ2 G2 H2 st2 w2 σ2 s2 => k φ2 G2 H2 (st.trans st2) w2.ofE _ (s2.ofE hh)
          | bk g2 =>
            cases ho
            exact fun φ2 G2 H2 st2 w2 σ2 s2 => k φ2 G2 H2 (st.trans st2) w2.ofE _ (s2.ofE hh)
          | ct g2 =>
            cases ho
            exact fun φ2 G2 H2 st2 w2 σ2 s2 => k φ2 G2 H2 (st.trans st2) w2.ofE _ (s2.ofE hh)
          | rt d2 =>
            cases ho
            exact fun φ2 G2 H2 st2 w2 v hv => k φ2 G2 H2 (st.trans st2) w2.ofE v hv
          | ex g2 c2 fs2 => cases ho
      · cases e
    · rename_i et
      cases e
      refine main _ (T.tk _ k) ⟨φ, G, g, S, _, _, w, sl, q, ?_⟩
      intro cls dd σ' H' hw
      obtain ⟨φ', G', ⟨st, w', ec, hfo⟩, sl'⟩ := id hw
      subst ec
      exact ⟨false, hx c false et, fun z => (by cases z), fun _ => hw⟩
    · cases e
  · rename_i hn
    exact main (fun _ _ _ _ => False) takes0 ⟨φ, G, g, S, o, S', w, sl, e, kos_le k fun g c fs z => by subst z; exact hn g c fs S' e⟩
end

/-! ### in a handler -/
/-- what an own exception class says -/
structure ExF (K : PySem.W.Frag) (C : Addr) : Prop where
  cl : PySem.W.isClsIn K C = true
  ga : PySem.W.findIn K (.ref C) "__getattribute__" = some (some (.builtin "BaseException.__getattribute__"))
  gg : PySem.W.findIn K (.ref C) "__getattr__" = some none
  sb : PySem.W.subIn K (.ref C) (.type "BaseException") = some true
  hd : PySem.W.hasDictIn K C = true
  ca : PySem.W.findIn K (.ref C) "__class__" = some (some (.builtin "object.__class__"))
  sn : PySem.W.specialIn K (.builtin "object.__class__") "__get__" = some (some (.builtin "getset_descriptor.__get__"))
  ht : PySem.W.takesIn K (.builtin "object.__class__") = some true
  hm : PySem.W.mroIn K C (.type "object") = some true
def rIsX (K : PySem.W.Frag) (D a : Addr) (d : Option Addr) : List V → Hp → VK → Prop := fun xs H Q => ∃ (c : V) (cv : Value) (b : Bool), xs = [.ref a, c] ∧ (∀ u, RelV c u → u = cv) ∧ PySem.W.kitOne K (.ref D) cv = some b ∧ (d = none ∨ ∃ dx fv, d = some dx ∧ H dx = some (.xd fv)) ∧ Q (.bl b) H
theorem call_isX {X : Cx} {a D : Addr} {oe : Obj} {d : Option Addr} {pn : List (Addr × Obj)} (C : ExF X.K D) (hz : Zc (.ref D) d oe) (hf : ∃ vs, oe.data = .fields vs) : CallR (X.suite a ((a, oe) :: pn)) (.builtin "isinstance") (rIsX X.K D a d) := by
  intro pins s σ H xs us Q I r h
  obtain ⟨c, cv, b, rfl, hcv, e, hdx, q⟩ := h
  cases r with
  | cons rx rr =>
    cases rr with
    | cons rt rr =>
      cases rr
      cases rx
      have ec := hcv _ rt
      subst ec
      obtain ⟨hget, _⟩ := I.pin (a, oe) (List.mem_append.mpr (.inl List.mem_cons_self))
      obtain ⟨vs, hv⟩ := hf
      have J : ∃ od, PySem.W.InstAt s.heap a oe D od := by
        obtain ⟨oc, oda, odt, osl⟩ := oe
        obtain ⟨h1, h2⟩ := hz
        dsimp only at h1 h2 hv
        subst h1 h2 hv
        rcases hdx with rfl | ⟨dx, fv, rfl, hdx⟩
        · exact ⟨none, hget, rfl, rfl, trivial⟩
        · obtain ⟨mA, hns, _⟩ := (show ObjOk X.prog X.w H s.heap dx (.xd fv) from I.hok dx _ hdx)
          obtain ⟨od, ho, _⟩ := lookIn_ns hns
          exact ⟨some od, hget, rfl, rfl, ho⟩
      obtain ⟨od, J⟩ := J
      exact PySem.W.kia_one (PySem.W.kitx_exc (od := od) C.cl C.ga C.gg C.sb C.ca C.sn C.ht C.hm) I.kIn J e (fun z => nomatch z) fun tk => ⟨.bl b, H, I.kept (t' := tk) fun _ _ z => z, rfl, q⟩
def mIsE (i : Nat) (r : Option Bool) : M D := fun g S => match g[i]? with
  | some none => r.map fun b => (.ok (.bl b), S)
  | _ => none
def mEf (i : Nat) (r : Option D) : M D := fun g S => match g[i]? with
  | some none => r.map fun b => (.ok b, S)
  | _ => none
section
variable {X : Cx} {cl : Cl} {tk : WX → Prop} {a : Addr} {oe : Obj} {d : Option Addr} {pn : List (Addr × Obj)} {fs : List (Str × D)} {i : Nat} {c : Nat}
theorem re_isE {x nm : Str} {p q r pos : Pos} {t : Option Bool} {cv : Value} {v : V} (E : ExF X.K (cl.at_ c)) (hz : Zc (.ref (cl.at_ c)) d oe) (hf : ∃ vs, oe.data = .fields vs)
    (hcls : PE (X.suite a ((a, oe) :: pn)) (.Name nm q) (tC v)) (hcv : ∀ u, RelV v u → u = cv) (ht : ∀ b, t = some b → PySem.W.kitOne X.K (.ref (cl.at_ c)) cv = some b) (hm : X.mg "isinstance" = none)
    (hi : X.N[i]? = some x := by rfl) (hv : Vis X.env.scope x := by first | exact Or.inl rfl | exact Or.inr (Or.inl rfl) | exact Or.inr (Or.inr rfl)) (hg : Gl X "isinstance" := by rfl)
    (hd : (x == ("__debug__" : Str)) = false := by decide) (hcd : (x == ("__classdict__" : Str)) = false := by decide)
    (hs1 : starEach [.Name x r, .Name nm q] X.env = (false, eval (.Name x r) X.env) :: starEach [.Name nm q] X.env := by rfl) (hs2 : starEach [.Name nm q] X.env = (false, eval (.Name nm q) X.env) :: starEach [] X.env := by rfl)
    (hpl : (backTo pos (starEach [.Name nm q] X.env)).any (·.1) = false := by rfl) :
    RE (X.suite a ((a, oe) :: pn)) (clE X.K cl fs d (some (i, a))) (fun _ => False) (.Call (.Name "isinstance" p) [.Name x r, .Name nm q] [] pos) (mIsE i t) := by
  refine pe_imp (pe_callB (call_isX E hz hf) hg hm PyProof.Rows.boot_isinstance (pa_cons (pe_var (i := i) hi hv hd hcd) (pa_cons hcls pa_nil hs2) hs1) (by decide) (by decide) hs1 hpl) fun σ H Q ⟨φ, G, g, S, r, S', w, s, e, k⟩ => ?_
  unfold mIsE at e
  split at e
  · rename_i hgi
    cases ht' : t with
    | none => rw [ht'] at e; cases e
    | some b =>
      rw [ht'] at e
      cases e
      refine ⟨_, s.hd i a rfl hgi, v, cv, b, rfl, hcv, ht b ht', ?_, k.now w _ (by simp only [IsD])⟩
      rcases w.iv.2 with ⟨_, h⟩ | ⟨dx, fv, h1, h2, _⟩
      · exact .inl h
      · exact .inr ⟨dx, fv, h1, w.sub _ _ h2⟩
  · cases e
theorem fsD_get {K : PySem.W.Frag} {φ : List Addr} {G : Hp} {f : Str} {z : D} : ∀ {fs : List (Str × D)} {fv : List (Str × V)}, FsD K φ G fs fv → fs.lookup f = some z → ∃ v, fv.lookup f = some v ∧ IsD K φ G z v
  | [], _, _, e => by cases e
  | (n, d) :: fs, _, ⟨v, r, h1, h2, h3⟩, e => by
    subst h1
    rw [List.lookup_cons] at e ⊢
    split at e
    · rename_i q
      cases e
      exact ⟨v, rfl, h2⟩
    · exact fsD_get h3 e
theorem re_ef {x f : Str} {r pos : Pos} (E : ExF X.K (cl.at_ c)) (hno : PySem.W.findIn X.K (.ref (cl.at_ c)) f = some none) (hz : Zc (.ref (cl.at_ c)) d oe) (hf : ∃ vs, oe.data = .fields vs)
    (hi : X.N[i]? = some x := by rfl) (hv : Vis X.env.scope x := by first | exact Or.inl rfl | exact Or.inr (Or.inl rfl) | exact Or.inr (Or.inr rfl))
    (hd : (x == ("__debug__" : Str)) = false := by decide) (hcd : (x == ("__classdict__" : Str)) = false := by decide) (hb : attributeBase (.Name x r) f X.env (eval (.Name x r) X.env) = eval (.Name x r) X.env := by rfl) :
    RE (X.suite a ((a, oe) :: pn)) (clE X.K cl fs d (some (i, a))) (fun _ => False) (.Attribute (.Name x r) f pos) (mEf i (fs.lookup f)) := by
  refine pe_imp (pe_xf ⟨E.ga, E.gg, E.sb, E.hd⟩ hno hz hf (pe_var (X := X.suite a ((a, oe) :: pn)) (i := i) hi hv hd hcd) hb) fun σ H Q ⟨φ, G, g, S, r, S', w, s, e, k⟩ => ?_
  unfold mEf at e
  split at e
  · rename_i hgi
    cases ht' : fs.lookup f with
    | none => rw [ht'] at e; cases e
    | some z =>
      rw [ht'] at e
      cases e
      refine ⟨_, s.hd i a rfl hgi, rfl, rfl, ?_⟩
      rcases w.iv.2 with ⟨h, _⟩ | ⟨dx, fv, h1, h2, h3⟩
      · subst h; cases ht'
      · obtain ⟨v, e1, e2⟩ := fsD_get h3 ht'
        exact ⟨dx, fv, v, h1, w.sub _ _ h2, e1, k.now w _ (e2.mono (List.nil_prefix) (Ex.refl _))⟩
  · cases e
/-- facts of the class table -/
theorem kit2 {K : PySem.W.Frag} {t : Value} {C : Addr} {b : Bool} (h1 : PySem.W.isClsIn K C = true) (h2 : PySem.W.typeIn K (.ref C) = some (.type "type")) (h3 : PySem.W.subIn K t (.ref C) = some b) : PySem.W.kitCls K t (.ref C) = some b := by
  show (if ((PySem.W.clsIn K C).isSome && PySem.W.typeIn K (.ref C) == some (.type "type")) = true then PySem.W.subIn K t (.ref C) else none) = some b
  rw [if_pos (by rw [show (PySem.W.clsIn K C).isSome = true from h1, h2]; decide +kernel)]
  exact h3
theorem kit1 {K : PySem.W.Frag} {t : Value} {C : Addr} {b : Bool} (h1 : PySem.W.isClsIn K C = true) (h2 : PySem.W.typeIn K (.ref C) = some (.type "type")) (h3 : PySem.W.subIn K t (.ref C) = some b) (h4 : (t == .ref C) = true → b = true) : PySem.W.kitOne K t (.ref C) = some b := by
  unfold PySem.W.kitOne
  split
  · rw [h4 (by assumption)]
  · exact kit2 h1 h2 h3
theorem exm1 {K : PySem.W.Frag} {t : Value} {C : Addr} {b : Bool} (h0 : PySem.W.subIn K (.ref C) (.type "BaseException") = some true) (h1 : PySem.W.isClsIn K C = true) (h2 : PySem.W.typeIn K (.ref C) = some (.type "type")) (h3 : PySem.W.subIn K t (.ref C) = some b) : PySem.W.exmOne K t (.ref C) = some b := by
  unfold PySem.W.exmOne
  rw [if_pos (by rw [h0]; decide +kernel)]
  exact kit2 h1 h2 h3
end
end Mi
namespace Mi
open PySem L2
/-! ### a text times a number; capital letters -/
def repS (a : Str) (n : Nat) : Str := ⟨(List.replicate n a.cps).foldl (· ++ ·) #[]⟩
theorem fold_app : ∀ (l : List (Array Nat)) (acc : Array Nat), (l.foldl (· ++ ·) acc).toList = acc.toList ++ (l.map Array.toList).flatten
  | [], acc => by simp
  | b :: l, acc => by rw [List.foldl_cons, fold_app l, Array.toList_append, List.map_cons, List.flatten_cons, List.append_assoc]
theorem repS_list (a : Str) (n : Nat) : (repS a n).cps.toList = (List.replicate n a.cps.toList).flatten := by
  unfold repS
  rw [fold_app]
  simp
theorem repS_len (a : Str) (n : Nat) : (repS a n).length = n * a.length := by
  show (repS a n).cps.size = _
  rw [← Array.length_toList, repS_list]
  simp [Str.length]
noncomputable def cRep (a : Str) (n : Int) : Bool := cdec (1 < n ∧ n ≤ 1000 ∧ a.length ≠ 0 ∧ a.length ≤ 1000)
noncomputable def fMulS : Store → D → D → Option D := fun _ d e => match d, e with
  | .str a, .int n => if cRep a n = true then some (.str (repS a n.toNat)) else none
  | _, _ => none
def rMulS : R2 := fun x y H Q => ∃ (a : Str) (n : Int), x = .str a ∧ y = .int n ∧ (1 < n ∧ n ≤ 1000 ∧ a.length ≠ 0 ∧ a.length ≤ 1000) ∧ Q (.str (repS a n.toNat)) H
theorem op_mulS {X : Cx} : OpR X (binaryOp .Mult) rMulS := by
  intro pins s σ H x y v u Q I rx ry h
  obtain ⟨a, n, rfl, rfl, ⟨h1, h2, h3, h4⟩, q⟩ := h
  obtain ⟨t, rfl⟩ := rx
  obtain ⟨t', rfl⟩ := ry
  have e1 : ¬ n < 1 := by omega
  have e2 : ¬ ((n == 1 || a.length == 0) = true) := by
    rw [Bool.or_eq_true, beq_iff_eq, beq_iff_eq]; omega
  have hm : a.length * n.toNat ≤ 1000 * 1000 := Nat.mul_le_mul h4 (by omega)
  refine P.mul_str ?_ (fun _ _ => ?_) (fun _ _ => ?_) ?_
  · rw [decide_eq_false (by omega), decide_eq_false (by omega)]; rfl
  · have : (a.length : Int) ≤ (2 ^ 63 - 1) / n := by
      refine (Int.le_ediv_iff_mul_le (by omega)).mpr ?_
      have e : (n.toNat : Int) = n := by omega
      rw [← e]
      have h5 : ((a.length * n.toNat : Nat) : Int) ≤ 1000000 := by omega
      rw [Int.natCast_mul] at h5
      omega
    omega
  · show decide (_ > sizeLine) = false
    rw [sizeLine_eq]
    exact decide_eq_false (by omega)
  · rw [if_neg e1, if_neg e2]
    refine ⟨?_, .str (repS a n.toNat), H, I.tok _, ⟨_, rfl⟩, q⟩
    rw [sizeLine_eq]
    have e := repS_len a n.toNat
    rw [Nat.mul_comm] at e
    show (repS a n.toNat).length ≤ _
    omega
section
variable {X : Cx} {cl : Cl} {tk : WX → Prop} [T : Tk X tk]
theorem fMulS_ok : OpS X.K cl rMulS fMulS := fun φ S G H x y d e z Q w h1 h2 h3 k => by
  unfold fMulS at h3
  split at h3
  · rename_i a n
    split at h3
    · rename_i hc
      cases h3
      simp only [IsD] at h1 h2
      exact ⟨a, n, h1, h2, cdec_iff.mp hc, k _ _ _ (Step.refl _ _ _) w _ (by simp only [IsD])⟩
    · cases h3
  · cases h3
noncomputable def fUpper : Store → D → Option D := fun _ d => match d with
  | .str a => if szOk (3 * a.length) = true then some (.str (Txt.upper a)) else none
  | _ => none
theorem re_upper {o : Expr} {apos pos : Pos} {mo : M D} (ho : RE X cl tk o mo) (hbase : attributeBase o "upper" X.env (eval o X.env) = eval o X.env := by rfl) (hline : (apos.endLine == pos.line) = true := by rfl) :
    RE X cl tk (.Call (.Attribute o "upper" apos) [] [] pos) (mOp1 fUpper mo) := by
  refine pe_imp (pe_upper ho hbase hline) fun σ H Q ⟨φ, G, g, S, r, S', w, s, e, k⟩ => ?_
  refine tM_bind T.ok w s e k fun d φ1 G1 H1 S1 v st1 w1 s1 hv' e1 k1 => ?_
  obtain ⟨z, ez, rfl, rfl⟩ := mL_ok e1
  unfold fUpper at ez
  split at ez
  · rename_i a
    split at ez
    · rename_i hz
      cases ez
      simp only [IsD] at hv'
      have := szOk_le hz
      rw [sizeLine_eq] at this
      exact ⟨⟨a, hv'⟩, a, hv', rfl, by omega, k1.now w1 _ (by simp only [IsD])⟩
    · cases ez
  · cases ez
end
/-! ### class tables -/
theorem kitT {K : PySem.W.Frag} {C : Addr} {T : String} {b : Bool} (h1 : PySem.W.kitMeta T = true) (h3 : PySem.W.subIn K (.ref C) (.type T) = some b) : PySem.W.kitOne K (.ref C) (.type T) = some b := by
  unfold PySem.W.kitOne
  rw [if_neg (fun h => by cases (beq_iff_eq.mp h))]
  show (if PySem.W.kitMeta T = true then PySem.W.subIn K (.ref C) (.type T) else none) = some b
  rw [if_pos h1]; exact h3
theorem subne {K : PySem.W.Frag} {C D : Addr} (h0 : PySem.W.subIn K (.ref D) (.ref D) = some true) (h : PySem.W.subIn K (.ref C) (.ref D) = some false) (e : (Value.ref C == .ref D) = true) : false = true := by
  have := Value.ref.inj (beq_iff_eq.mp e)
  subst this
  rw [h0] at h; cases h
def spA (K : PySem.W.Frag) (m : MF) : Sp := fun vs H Q E => ∀ e, spM K (clT e) m vs H Q E
@[simp] theorem v_mulS {S : Store} {a : Str} {n : Int} : fMulS S (.str a) (.int n) = if cRep a n = true then some (.str (repS a n.toNat)) else none := id rfl
@[simp] theorem v_upper {S : Store} {a : Str} : fUpper S (.str a) = if szOk (3 * a.length) = true then some (.str (Txt.upper a)) else none := id rfl
end Mi
/-! printed by gen.py -/
namespace Lw
open PySem L2 Mi
def top (i : Nat) : Stmt := PySem.Challenge.pw_elderreads_k02_wrong_lines.main.body.getD i (.Pass ⟨0, 0, 0, 0⟩)
abbrev s_law_pool : Stmt := top 13
def N_law_pool : List Str := ["_law_script", "_law_draws", "_law_cell", "_law_rest", "_law_k", "_law_one"]
theorem sc_law_pool : FnScope N_law_pool ["_law_script"] (defScope s_law_pool) := ⟨rfl, rfl, rfl, by decide +kernel, rfl, by decide +kernel, by decide +kernel⟩
abbrev s_law_draw : Stmt := top 14
def N_law_draw : List Str := ["_law_draws", "_law_k", "_law_many"]
theorem sc_law_draw : FnScope N_law_draw ["_law_draws", "_law_k", "_law_many"] (defScope s_law_draw) := ⟨rfl, rfl, rfl, by decide +kernel, rfl, by decide +kernel, by decide +kernel⟩
abbrev s_law_word : Stmt := top 15
def N_law_word : List Str := ["_law_draws", "_law_at", "_law_letters", "_law_size", "_law_k"]
theorem sc_law_word : FnScope N_law_word ["_law_draws", "_law_at"] (defScope s_law_word) := ⟨rfl, rfl, rfl, by decide +kernel, rfl, by decide +kernel, by decide +kernel⟩
abbrev s_law_same : Stmt := top 16
def N_law_same : List Str := ["_law_actual", "_law_due", "_law_k"]
theorem sc_law_same : FnScope N_law_same ["_law_actual", "_law_due"] (defScope s_law_same) := ⟨rfl, rfl, rfl, by decide +kernel, rfl, by decide +kernel, by decide +kernel⟩
abbrev s_law_wrong : Stmt := top 18
def N_law_wrong : List Str := ["_law_name", "_law_digit", "_law_letter", "_law_one", "_law_lines"]
theorem sc_law_wrong : FnScope N_law_wrong ["_law_name", "_law_digit", "_law_letter"] (defScope s_law_wrong) := ⟨rfl, rfl, rfl, by decide +kernel, rfl, by decide +kernel, by decide +kernel⟩
abbrev s_law_wrong_words : Stmt := top 20
def N_law_wrong_words : List Str := ["_law_name", "_law_digit", "_law_word_here", "_law_one", "_law_lines"]
theorem sc_law_wrong_words : FnScope N_law_wrong_words ["_law_name", "_law_digit", "_law_word_here"] (defScope s_law_wrong_words) := ⟨rfl, rfl, rfl, by decide +kernel, rfl, by decide +kernel, by decide +kernel⟩
abbrev s_law_wrong_marks : Stmt := top 19
def N_law_wrong_marks : List Str := ["_law_name", "_law_digit", "_law_letter", "_law_mark", "_law_place", "_law_one", "_law_odd", "_law_camel", "_law_lines"]
theorem sc_law_wrong_marks : FnScope N_law_wrong_marks ["_law_name", "_law_digit", "_law_letter", "_law_mark", "_law_place"] (defScope s_law_wrong_marks) := ⟨rfl, rfl, rfl, by decide +kernel, rfl, by decide +kernel, by decide +kernel⟩
abbrev s_is_name : Stmt := top 8
def N_is_name : List Str := ["text", "letter"]
theorem sc_is_name : FnScope N_is_name ["text"] (defScope s_is_name) := ⟨rfl, rfl, rfl, by decide +kernel, rfl, by decide +kernel, by decide +kernel⟩
abbrev s_is_value : Stmt := top 9
def N_is_value : List Str := ["text"]
theorem sc_is_value : FnScope N_is_value ["text"] (defScope s_is_value) := ⟨rfl, rfl, rfl, by decide +kernel, rfl, by decide +kernel, by decide +kernel⟩
abbrev s_is_target : Stmt := top 10
def N_is_target : List Str := ["text"]
theorem sc_is_target : FnScope N_is_target ["text"] (defScope s_is_target) := ⟨rfl, rfl, rfl, by decide +kernel, rfl, by decide +kernel, by decide +kernel⟩
abbrev s_parse_row : Stmt := top 11
def N_parse_row : List Str := ["line", "cell", "target", "value", "kind", "operand"]
theorem sc_parse_row : FnScope N_parse_row ["line"] (defScope s_parse_row) := ⟨rfl, rfl, rfl, by decide +kernel, rfl, by decide +kernel, by decide +kernel⟩
abbrev s_law_refused : Stmt := top 17
def N_law_refused : List Str := ["_law_line", "e"]
theorem sc_law_refused : FnScope N_law_refused ["_law_line"] (defScope s_law_refused) := ⟨rfl, rfl, rfl, by decide +kernel, rfl, by decide +kernel, by decide +kernel⟩
abbrev s_law : Stmt := top 21
def N_law : List Str := ["_law_script", "_law_draws", "_law_name", "_law_digit", "_law_letter", "_law_marks", "_law_mark", "_law_place", "_law_word_here", "_law_lines", "_law_line"]
theorem sc_law : FnScope N_law ["_law_script"] (defScope s_law) := ⟨rfl, rfl, rfl, by decide +kernel, rfl, by decide +kernel, by decide +kernel⟩
abbrev cx_InvalidText : Nat := 0
abbrev cx_ElderError : Nat := 1
abbrev cx_InvalidLine : Nat := 2
abbrev cx_InvalidRow : Nat := 3
def tb_InvalidText : Nat → Option Bool
  | 0 => some true
  | _ => none
theorem tb_InvalidText_lt {c : Nat} {b : Bool} (h : tb_InvalidText c = some b) : c < 1 := by
  unfold tb_InvalidText at h; split at h <;> first | decide | cases h
def tb_ElderError : Nat → Option Bool
  | 0 => some true
  | _ => none
theorem tb_ElderError_lt {c : Nat} {b : Bool} (h : tb_ElderError c = some b) : c < 1 := by
  unfold tb_ElderError at h; split at h <;> first | decide | cases h
def tb_ValueError : Nat → Option Bool
  | 0 => some true
  | _ => none
theorem tb_ValueError_lt {c : Nat} {b : Bool} (h : tb_ValueError c = some b) : c < 1 := by
  unfold tb_ValueError at h; split at h <;> first | decide | cases h
def tb_InvalidLine : Nat → Option Bool
  | 0 => some false
  | _ => none
theorem tb_InvalidLine_lt {c : Nat} {b : Bool} (h : tb_InvalidLine c = some b) : c < 1 := by
  unfold tb_InvalidLine at h; split at h <;> first | decide | cases h
def tb_InvalidRow : Nat → Option Bool
  | 0 => some false
  | _ => none
theorem tb_InvalidRow_lt {c : Nat} {b : Bool} (h : tb_InvalidRow c = some b) : c < 1 := by
  unfold tb_InvalidRow at h; split at h <;> first | decide | cases h
abbrev k_DIGITS : D := .str "0123456789"
abbrev k_LETTERS : D := .str "abcdefghijklmnopqrstuvwxyz"
structure Txt (K : PySem.W.Frag) (mg : Str → Option Value) (a : Nat → Addr) (fd : Nat → FuncData) (e : Nat → Addr) : Prop where
  n_ValueError : mg "ValueError" = none
  n_abs : mg "abs" = none
  n_all : mg "all" = none
  n_bool : mg "bool" = none
  n_int : mg "int" = none
  n_isinstance : mg "isinstance" = none
  n_len : mg "len" = none
  n_list : mg "list" = none
  n_range : mg "range" = none
  n_str : mg "str" = none
  n_sum : mg "sum" = none
  n_tuple : mg "tuple" = none
  c_DIGITS : ∃ t, mg "DIGITS" = some (.str "0123456789" t)
  c_LETTERS : ∃ t, mg "LETTERS" = some (.str "abcdefghijklmnopqrstuvwxyz" t)
  F_law_pool : Fun K "_law_pool" "_law_pool" s_law_pool (a 0) (fd 0)
  g_law_pool : mg "_law_pool" = some (.ref (a 0))
  b_law_pool : L2.Binds K (fd 0) ["_law_script"] []
  F_law_draw : Fun K "_law_draw" "_law_draw" s_law_draw (a 1) (fd 1)
  g_law_draw : mg "_law_draw" = some (.ref (a 1))
  b_law_draw : L2.Binds K (fd 1) ["_law_draws", "_law_k", "_law_many"] []
  F_law_word : Fun K "_law_word" "_law_word" s_law_word (a 2) (fd 2)
  g_law_word : mg "_law_word" = some (.ref (a 2))
  b_law_word : L2.Binds K (fd 2) ["_law_draws", "_law_at"] []
  F_law_same : Fun K "_law_same" "_law_same" s_law_same (a 3) (fd 3)
  g_law_same : mg "_law_same" = some (.ref (a 3))
  b_law_same : L2.Binds K (fd 3) ["_law_actual", "_law_due"] []
  F_law_wrong : Fun K "_law_wrong" "_law_wrong" s_law_wrong (a 4) (fd 4)
  g_law_wrong : mg "_law_wrong" = some (.ref (a 4))
  b_law_wrong : L2.Binds K (fd 4) ["_law_name", "_law_digit", "_law_letter"] []
  F_law_wrong_words : Fun K "_law_wrong_words" "_law_wrong_words" s_law_wrong_words (a 5) (fd 5)
  g_law_wrong_words : mg "_law_wrong_words" = some (.ref (a 5))
  b_law_wrong_words : L2.Binds K (fd 5) ["_law_name", "_law_digit", "_law_word_here"] []
  F_law_wrong_marks : Fun K "_law_wrong_marks" "_law_wrong_marks" s_law_wrong_marks (a 6) (fd 6)
  g_law_wrong_marks : mg "_law_wrong_marks" = some (.ref (a 6))
  b_law_wrong_marks : L2.Binds K (fd 6) ["_law_name", "_law_digit", "_law_letter", "_law_mark", "_law_place"] []
  F_is_name : Fun K "is_name" "is_name" s_is_name (a 7) (fd 7)
  g_is_name : mg "is_name" = some (.ref (a 7))
  b_is_name : L2.Binds K (fd 7) ["text"] []
  F_is_value : Fun K "is_value" "is_value" s_is_value (a 8) (fd 8)
  g_is_value : mg "is_value" = some (.ref (a 8))
  b_is_value : L2.Binds K (fd 8) ["text"] []
  F_is_target : Fun K "is_target" "is_target" s_is_target (a 9) (fd 9)
  g_is_target : mg "is_target" = some (.ref (a 9))
  b_is_target : L2.Binds K (fd 9) ["text"] []
  F_parse_row : Fun K "parse_row" "parse_row" s_parse_row (a 10) (fd 10)
  g_parse_row : mg "parse_row" = some (.ref (a 10))
  b_parse_row : L2.Binds K (fd 10) ["line"] []
  F_law_refused : Fun K "_law_refused" "_law_refused" s_law_refused (a 11) (fd 11)
  g_law_refused : mg "_law_refused" = some (.ref (a 11))
  b_law_refused : L2.Binds K (fd 11) ["_law_line"] []
  F_law : Fun K "law" "law" s_law (a 12) (fd 12)
  g_law : mg "law" = some (.ref (a 12))
  b_law : L2.Binds K (fd 12) ["_law_script"] []
  O_InvalidText : OwnC K mg "InvalidText" (e cx_InvalidText)
  X_all : ∀ c, c < 1 → ExF K (e c)
  gx_InvalidText : mg "InvalidText" = some (.ref (e cx_InvalidText))
  x_InvalidText : ∀ c b, tb_InvalidText c = some b → PySem.W.exmOne K (.ref (e c)) (.ref (e cx_InvalidText)) = some b
  i_InvalidText : ∀ c b, tb_InvalidText c = some b → PySem.W.kitOne K (.ref (e c)) (.ref (e cx_InvalidText)) = some b
  gx_ElderError : mg "ElderError" = some (.ref (e cx_ElderError))
  x_ElderError : ∀ c b, tb_ElderError c = some b → PySem.W.exmOne K (.ref (e c)) (.ref (e cx_ElderError)) = some b
  i_ElderError : ∀ c b, tb_ElderError c = some b → PySem.W.kitOne K (.ref (e c)) (.ref (e cx_ElderError)) = some b
  i_ValueError : ∀ c b, tb_ValueError c = some b → PySem.W.kitOne K (.ref (e c)) (.type "ValueError") = some b
  gx_InvalidLine : mg "InvalidLine" = some (.ref (e cx_InvalidLine))
  x_InvalidLine : ∀ c b, tb_InvalidLine c = some b → PySem.W.exmOne K (.ref (e c)) (.ref (e cx_InvalidLine)) = some b
  i_InvalidLine : ∀ c b, tb_InvalidLine c = some b → PySem.W.kitOne K (.ref (e c)) (.ref (e cx_InvalidLine)) = some b
  gx_InvalidRow : mg "InvalidRow" = some (.ref (e cx_InvalidRow))
  x_InvalidRow : ∀ c b, tb_InvalidRow c = some b → PySem.W.exmOne K (.ref (e c)) (.ref (e cx_InvalidRow)) = some b
  i_InvalidRow : ∀ c b, tb_InvalidRow c = some b → PySem.W.kitOne K (.ref (e c)) (.ref (e cx_InvalidRow)) = some b
theorem Txt.r_DIGITS {K : PySem.W.Frag} {mg : Str → Option Value} {a : Nat → Addr} {fd : Nat → FuncData} {e : Nat → Addr} (T : Txt K mg a fd e) {X : Cx} {cl : Cl} {tk : WX → Prop} [Tk X tk] {pos : Pos} (hm : X.mg = mg := by rfl) (hg : Gl X "DIGITS" := by rfl) : RE X cl tk (.Name "DIGITS" pos) (mP k_DIGITS) := by
  subst hm; obtain ⟨t, h⟩ := T.c_DIGITS; exact re_gstr h hg
theorem Txt.r_LETTERS {K : PySem.W.Frag} {mg : Str → Option Value} {a : Nat → Addr} {fd : Nat → FuncData} {e : Nat → Addr} (T : Txt K mg a fd e) {X : Cx} {cl : Cl} {tk : WX → Prop} [Tk X tk] {pos : Pos} (hm : X.mg = mg := by rfl) (hg : Gl X "LETTERS" := by rfl) : RE X cl tk (.Name "LETTERS" pos) (mP k_LETTERS) := by
  subst hm; obtain ⟨t, h⟩ := T.c_LETTERS; exact re_gstr h hg
/-! ### mirrors -/
noncomputable def bd_law_pool_0 : MS := mIfS (mT (mOp2 fGt (mVar 3) (mP (.int 0)))) (mSeq (mEx (mApp (mVar 1) (mOp2 fMod (mOpA cInt (mCons (mVar 3) (mNil))) (mP (.int 840))))) (mSet 3 (mOp2 fDiv (mVar 3) (mP (.int 840))))) (mSkip)
noncomputable def bd_law_pool_1 : MS := mSeq (mSet 5 (mOp2 fMod (mOpA cInt (mCons (mOp2 fAdd (mOp2 fAdd (mOp2 fMul (mVar 2) (mP (.int 48271))) (mOp2 fMul (mVar 4) (mP (.int 69621)))) (mP (.int 17))) (mNil))) (mP (.int 2147483647)))) (mEx (mApp (mVar 1) (mOp2 fMod (mOp2 fMod (mOpA cInt (mCons (mOp2 fAdd (mOp2 fAdd (mOp2 fMul (mVar 5) (mVar 5)) (mOp2 fMul (mVar 5) (mP (.int 31)))) (mVar 4)) (mNil))) (mP (.int 1000003))) (mP (.int 840)))))
noncomputable def bd_law_pool_2 : MS := mSeq (mSet 3 (mOpA cAbs (mCons (mOpA cInt (mCons (mVar 2) (mNil))) (mNil)))) (mIfS (mT (mOp2 fGe (mVar 3) (mOp2 fPow (mP (.int 10)) (mP (.int 18))))) (mFor (mRng (mCons (mP (.int 60)) (mNil))) (bN 4) (bd_law_pool_0)) (mFor (mRng (mCons (mP (.int 6)) (mNil))) (bN 4) (bd_law_pool_1)))
noncomputable def b_law_pool : MS := mSeq (mSet 1 (mNewL (mNil))) (mSeq (mFor (mI (mVar 0)) (bN 2) (bd_law_pool_2)) (mRet (mVarF 1)))
noncomputable def m_law_pool : MF := mTrim (mFn 6 1 b_law_pool)
noncomputable def b_law_draw : MS := mSeq (mIfS (mT (mOp2 fLt (mVar 1) (mOpA cLen (mCons (mVar 0) (mNil))))) (mRet (mOp2 fMod (mOpA cInt (mCons (mOp2 fIx (mVar 0) (mVar 1)) (mNil))) (mVar 2))) (mSkip)) (mRet (mOp2 fMod (mOp2 fMod (mOpA cInt (mCons (mOp2 fAdd (mOp2 fAdd (mOp2 fMul (mVar 1) (mP (.int 7919))) (mOp2 fMul (mOpA cSum (mCons (mSl (mVar 0) (mP none) (mPart (mP (.int 40)))) (mNil))) (mP (.int 31)))) (mP (.int 3))) (mNil))) (mP (.int 1009))) (mVar 2)))
noncomputable def m_law_draw : MF := mFn 3 3 b_law_draw
noncomputable def b_law_word : MS := mSeq (mSet 2 (mP (.str "abcdefghijklmnopqrstuvwxyz"))) (mSeq (mSet 3 (mOp2 fAdd (mP (.int 1)) (mCall (m_law_draw) (mCons (mVar 0) (mCons (mVar 1) (mCons (mP (.int 6)) (mNil))))))) (mRet (mStr1 fJoin (mP (.str "")) (mLc [4] (mRng (mCons (mVar 3) (mNil))) (bN 4) (mP true) (mOp2 fIx (mVar 2) (mCall (m_law_draw) (mCons (mVar 0) (mCons (mOp2 fAdd (mOp2 fAdd (mVar 1) (mP (.int 1))) (mVar 4)) (mCons (mP (.int 26)) (mNil))))))))))
noncomputable def m_law_word : MF := mFn 5 2 b_law_word
noncomputable def b_law_same (mf : MF) : MS := mSeq (mIfS (mOrT (mT (mOp1 (fIsi .tup) (mVar 1))) (mT (mOp1 (fIsi .lst) (mVar 1)))) (mSeq (mIfS (mOrT (mT (mOp2 fNe (mOp1 (fIsi .tup) (mVar 0)) (mOp1 (fIsi .tup) (mVar 1)))) (mT (mOp2 fNe (mOp1 (fIsi .lst) (mVar 0)) (mOp1 (fIsi .lst) (mVar 1))))) (mRet (mP (.bl false))) (mSkip)) (mSeq (mIfS (mT (mOp2 fNe (mOpA cLen (mCons (mVar 0) (mNil))) (mOpA cLen (mCons (mVar 1) (mNil))))) (mRet (mP (.bl false))) (mSkip)) (mRet (mOpA cAll (mCons (mLc [2] (mRng (mCons (mOpA cLen (mCons (mVar 1) (mNil))) (mNil))) (bN 2) (mP true) (mCall (mf) (mCons (mOp2 fIx (mVar 0) (mVar 2)) (mCons (mOp2 fIx (mVar 1) (mVar 2)) (mNil))))) (mNil)))))) (mSkip)) (mSeq (mIfS (mT (mOp2 fIsN (mVar 1) (mP .non))) (mRet (mOp2 fIsN (mVar 0) (mP .non))) (mSkip)) (mSeq (mIfS (mT (mOp1 (fIsi .bl) (mVar 1))) (mRet (mAndV (mOp1 (fIsi .bl) (mVar 0)) (mOp2 fEq (mVar 0) (mVar 1)))) (mSkip)) (mSeq (mIfS (mT (mOp1 (fIsi .int) (mVar 1))) (mRet (mAndV (mOp1 (fIsi .int) (mVar 0)) (mAndV (mNotV (mOp1 (fIsi .bl) (mVar 0))) (mOp2 fEq (mVar 0) (mVar 1))))) (mSkip)) (mRet (mAndV (mOp1 (fIsi .str) (mVar 0)) (mOp2 fEq (mVar 0) (mVar 1)))))))
noncomputable def m_law_same : Nat → MF
  | 0 => fun _ _ => none
  | n + 1 => mFn 3 2 (b_law_same (m_law_same n))
noncomputable def b_law_wrong : MS := mSeq (mSet 3 (mOpA cStr (mCons (mVar 1) (mNil)))) (mSeq (mSet 4 (mOpA fLst (mCons (mP (.str "")) (mCons (mP (.str " ")) (mCons (mP (.str "load")) (mCons (mP (.str "load ")) (mCons (mP (.str "store")) (mCons (mOp2 fAdd (mP (.str "store ")) (mVar 0)) (mCons (mOp2 fAdd (mP (.str "swap ")) (mVar 0)) (mCons (mOp2 fAdd (mP (.str "test ")) (mVar 3)) (mCons (mP (.str "jump")) (mCons (mP (.str "jump ")) (mNil))))))))))))) (mSeq (mSet 4 (mOp2 fAdd (mVar 4) (mOpA fLst (mCons (mP (.str "fence ")) (mCons (mP (.str " fence")) (mCons (mOp2 fAdd (mP (.str "fence ")) (mVar 0)) (mCons (mP (.str "Fence")) (mCons (mP (.str "fences")) (mCons (mOp2 fAdd (mP (.str "load  ")) (mVar 0)) (mCons (mOp2 fAdd (mOp2 fAdd (mP (.str "load ")) (mVar 0)) (mP (.str " "))) (mNil))))))))))) (mSeq (mSet 4 (mOp2 fAdd (mVar 4) (mOpA fLst (mCons (mOp2 fAdd (mP (.str " load ")) (mVar 0)) (mCons (mOp2 fAdd (mOp2 fAdd (mOp2 fAdd (mP (.str "load ")) (mVar 0)) (mP (.str " "))) (mVar 0)) (mCons (mOp2 fAdd (mP (.str "Load ")) (mVar 0)) (mCons (mOp2 fAdd (mP (.str "LOAD ")) (mVar 0)) (mCons (mOp2 fAdd (mP (.str "loads ")) (mVar 0)) (mNil))))))))) (mSeq (mSet 4 (mOp2 fAdd (mVar 4) (mOpA fLst (mCons (mOp2 fAdd (mOp2 fAdd (mOp2 fAdd (mP (.str "store ")) (mVar 0)) (mP (.str "  "))) (mVar 3)) (mCons (mOp2 fAdd (mOp2 fAdd (mOp2 fAdd (mOp2 fAdd (mP (.str "store ")) (mVar 0)) (mP (.str " "))) (mVar 3)) (mP (.str " "))) (mCons (mOp2 fAdd (mOp2 fAdd (mOp2 fAdd (mP (.str "store  ")) (mVar 0)) (mP (.str " "))) (mVar 3)) (mNil))))))) (mSeq (mSet 4 (mOp2 fAdd (mVar 4) (mOpA fLst (mCons (mOp2 fAdd (mOp2 fAdd (mOp2 fAdd (mOp2 fAdd (mOp2 fAdd (mP (.str "store ")) (mVar 0)) (mP (.str " "))) (mVar 3)) (mP (.str " "))) (mVar 3)) (mCons (mOp2 fAdd (mOp2 fAdd (mOp2 fAdd (mP (.str "store ")) (mVar 0)) (mP (.str " 1"))) (mVar 3)) (mCons (mOp2 fAdd (mOp2 fAdd (mOp2 fAdd (mP (.str "swap ")) (mVar 0)) (mP (.str " 0"))) (mVar 3)) (mNil))))))) (mSeq (mSet 4 (mOp2 fAdd (mVar 4) (mOpA fLst (mCons (mOp2 fAdd (mOp2 fAdd (mOp2 fAdd (mP (.str "store ")) (mVar 0)) (mP (.str " "))) (mVar 2)) (mCons (mOp2 fAdd (mOp2 fAdd (mP (.str "swap ")) (mVar 0)) (mP (.str " R"))) (mCons (mOp2 fAdd (mOp2 fAdd (mP (.str "swap ")) (mVar 0)) (mP (.str " rr"))) (mCons (mOp2 fAdd (mOp2 fAdd (mP (.str "store ")) (mVar 0)) (mP (.str " r "))) (mNil)))))))) (mSeq (mSet 4 (mOp2 fAdd (mVar 4) (mOpA fLst (mCons (mOp2 fAdd (mOp2 fAdd (mOp2 fAdd (mP (.str "store ")) (mVar 0)) (mP (.str " -"))) (mVar 3)) (mCons (mOp2 fAdd (mOp2 fAdd (mOp2 fAdd (mP (.str "swap ")) (mVar 0)) (mP (.str " +"))) (mVar 3)) (mCons (mOp2 fAdd (mOp2 fAdd (mP (.str "load ")) (mSl (mVar 0) (mP none) (mPart (mP (.int 3))))) (mVar 3)) (mCons (mOp2 fAdd (mP (.str "load ")) (mVar 3)) (mNil)))))))) (mSeq (mSet 4 (mOp2 fAdd (mVar 4) (mOpA fLst (mCons (mOp2 fAdd (mP (.str "load ")) (mOp1 fUpper (mVar 0))) (mCons (mOp2 fAdd (mOp2 fAdd (mP (.str "load ")) (mSl (mVar 0) (mP none) (mPart (mP (.int 2))))) (mP (.str "_"))) (mCons (mOp2 fAdd (mP (.str "load ")) (mSl (mOp2 fMulS (mVar 0) (mP (.int 7))) (mP none) (mPart (mP (.int 7))))) (mCons (mP (.str "load abcdefg")) (mNil)))))))) (mSeq (mSet 4 (mOp2 fAdd (mVar 4) (mOpA fLst (mCons (mOp2 fAdd (mOp2 fAdd (mOp2 fAdd (mP (.str "store ")) (mOp1 fUpper (mVar 0))) (mP (.str " "))) (mVar 3)) (mCons (mOp2 fAdd (mOp2 fAdd (mOp2 fAdd (mP (.str "swap ")) (mSl (mOp2 fMulS (mVar 0) (mP (.int 7))) (mP none) (mPart (mP (.int 7))))) (mP (.str " "))) (mVar 3)) (mCons (mP (.str "store r")) (mCons (mP (.str "swap r")) (mNil)))))))) (mSeq (mSet 4 (mOp2 fAdd (mVar 4) (mOpA fLst (mCons (mOp2 fAdd (mOp2 fAdd (mP (.str "test 1")) (mVar 3)) (mP (.str " 0"))) (mCons (mP (.str "test r 0")) (mCons (mOp2 fAdd (mOp2 fAdd (mP (.str "test ")) (mVar 3)) (mP (.str " r"))) (mCons (mOp2 fAdd (mOp2 fAdd (mOp2 fAdd (mP (.str "test ")) (mVar 3)) (mP (.str " 0"))) (mVar 3)) (mCons (mOp2 fAdd (mP (.str "test ")) (mVar 3)) (mNil))))))))) (mSeq (mSet 4 (mOp2 fAdd (mVar 4) (mOpA fLst (mCons (mOp2 fAdd (mOp2 fAdd (mP (.str "test ")) (mVar 3)) (mP (.str " 1 1"))) (mCons (mOp2 fAdd (mOp2 fAdd (mP (.str "test -")) (mVar 3)) (mP (.str " 1"))) (mCons (mOp2 fAdd (mOp2 fAdd (mOp2 fAdd (mP (.str "test ")) (mVar 3)) (mP (.str " "))) (mVar 0)) (mCons (mOp2 fAdd (mP (.str "jump 0")) (mVar 3)) (mNil)))))))) (mSeq (mSet 4 (mOp2 fAdd (mVar 4) (mOpA fLst (mCons (mOp2 fAdd (mOp2 fAdd (mP (.str "store ")) (mVar 0)) (mP (.str " "))) (mCons (mOp2 fAdd (mOp2 fAdd (mP (.str "swap ")) (mVar 0)) (mP (.str " "))) (mCons (mOp2 fAdd (mP (.str "test  ")) (mVar 3)) (mCons (mOp2 fAdd (mOp2 fAdd (mP (.str "test ")) (mVar 3)) (mP (.str " "))) (mCons (mOp2 fAdd (mP (.str "store  ")) (mVar 3)) (mNil))))))))) (mSeq (mSet 4 (mOp2 fAdd (mVar 4) (mOpA fLst (mCons (mOp2 fAdd (mP (.str "jump 10")) (mVar 3)) (mCons (mOp2 fAdd (mP (.str "jump -")) (mVar 3)) (mCons (mOp2 fAdd (mP (.str "jump +")) (mVar 3)) (mCons (mOp2 fAdd (mP (.str "jump ")) (mVar 0)) (mCons (mOp2 fAdd (mOp2 fAdd (mP (.str "jump ")) (mVar 3)) (mP (.str " "))) (mCons (mP (.str "jump 1 1")) (mNil)))))))))) (mRet (mOp2 fAdd (mVar 4) (mOpA fLst (mCons (mP (.str "halt")) (mCons (mP (.str "thread")) (mCons (mOp2 fAdd (mP (.str "cells ")) (mVar 0)) (mCons (mOp2 fAdd (mOp2 fAdd (mOp1 fUpper (mVar 0)) (mP (.str " "))) (mVar 0)) (mCons (mVar 3) (mCons (mOp2 fAdd (mOp2 fAdd (mOp2 fAdd (mP (.str "jump ")) (mVar 3)) (mP (.str "."))) (mVar 3)) (mNil)))))))))))))))))))))))
noncomputable def m_law_wrong : MF := mFn 5 3 b_law_wrong
noncomputable def b_law_wrong_words : MS := mSeq (mSet 3 (mOpA cStr (mCons (mVar 1) (mNil)))) (mSeq (mSet 4 (mOpA fLst (mCons (mOp2 fAdd (mOp2 fAdd (mOp2 fAdd (mP (.str "Store ")) (mVar 0)) (mP (.str " "))) (mVar 3)) (mCons (mOp2 fAdd (mOp2 fAdd (mP (.str "Swap ")) (mVar 0)) (mP (.str " r"))) (mCons (mOp2 fAdd (mOp2 fAdd (mP (.str "Test ")) (mVar 3)) (mP (.str " 0"))) (mNil)))))) (mSeq (mSet 4 (mOp2 fAdd (mVar 4) (mOpA fLst (mCons (mOp2 fAdd (mP (.str "Jump ")) (mVar 3)) (mCons (mOp2 fAdd (mOp2 fAdd (mP (.str "STORE ")) (mVar 0)) (mP (.str " r"))) (mCons (mOp2 fAdd (mOp2 fAdd (mOp2 fAdd (mP (.str "stores ")) (mVar 0)) (mP (.str " "))) (mVar 3)) (mNil))))))) (mSeq (mSet 4 (mOp2 fAdd (mVar 4) (mOpA fLst (mCons (mOp2 fAdd (mOp2 fAdd (mP (.str "swaps ")) (mVar 0)) (mP (.str " r"))) (mCons (mOp2 fAdd (mOp2 fAdd (mP (.str "tests ")) (mVar 3)) (mP (.str " 0"))) (mCons (mOp2 fAdd (mP (.str "jumps ")) (mVar 3)) (mNil))))))) (mSeq (mSet 4 (mOp2 fAdd (mVar 4) (mOpA fLst (mCons (mVar 2) (mCons (mOp2 fAdd (mOp2 fAdd (mVar 2) (mP (.str " "))) (mVar 0)) (mCons (mOp2 fAdd (mOp2 fAdd (mVar 2) (mP (.str " "))) (mVar 3)) (mCons (mOp2 fAdd (mOp2 fAdd (mOp2 fAdd (mVar 2) (mP (.str " "))) (mVar 0)) (mP (.str " r"))) (mNil)))))))) (mSeq (mSet 4 (mOp2 fAdd (mVar 4) (mOpA fLst (mCons (mOp2 fAdd (mOp2 fAdd (mOp2 fAdd (mOp2 fAdd (mVar 2) (mP (.str " "))) (mVar 0)) (mP (.str " "))) (mVar 3)) (mCons (mOp2 fAdd (mOp2 fAdd (mOp2 fAdd (mOp2 fAdd (mVar 2) (mP (.str " "))) (mVar 3)) (mP (.str " "))) (mVar 3)) (mNil)))))) (mRet (mOp2 fAdd (mVar 4) (mOpA fLst (mCons (mOp2 fAdd (mOp2 fAdd (mOp2 fAdd (mOp2 fAdd (mOp2 fAdd (mOp2 fAdd (mVar 2) (mP (.str " "))) (mVar 0)) (mP (.str " "))) (mVar 3)) (mP (.str " "))) (mVar 3)) (mNil))))))))))
noncomputable def m_law_wrong_words : MF := mFn 5 3 b_law_wrong_words
noncomputable def b_law_wrong_marks : MS := mSeq (mSet 5 (mOpA cStr (mCons (mVar 1) (mNil)))) (mSeq (mSet 6 (mOp2 fAdd (mOp2 fAdd (mSl (mVar 0) (mP none) (mPart (mVar 4))) (mVar 3)) (mSl (mVar 0) (mPart (mOp2 fAdd (mVar 4) (mP (.int 1)))) (mP none)))) (mSeq (mSet 7 (mOp2 fAdd (mSl (mVar 0) (mP none) (mPart (mP (.int 5)))) (mP (.str "Q")))) (mSeq (mSet 8 (mOpA fLst (mCons (mOp2 fAdd (mP (.str "load ")) (mVar 6)) (mCons (mOp2 fAdd (mOp2 fAdd (mOp2 fAdd (mP (.str "store ")) (mVar 6)) (mP (.str " "))) (mVar 5)) (mCons (mOp2 fAdd (mOp2 fAdd (mP (.str "swap ")) (mVar 6)) (mP (.str " r"))) (mNil)))))) (mSeq (mSet 8 (mOp2 fAdd (mVar 8) (mOpA fLst (mCons (mOp2 fAdd (mP (.str "load ")) (mVar 7)) (mCons (mOp2 fAdd (mOp2 fAdd (mOp2 fAdd (mP (.str "store ")) (mVar 7)) (mP (.str " "))) (mVar 5)) (mCons (mOp2 fAdd (mOp2 fAdd (mP (.str "swap ")) (mVar 7)) (mP (.str " r"))) (mNil))))))) (mSeq (mSet 8 (mOp2 fAdd (mVar 8) (mOpA fLst (mCons (mOp2 fAdd (mOp2 fAdd (mOp2 fAdd (mP (.str "load ")) (mSl (mVar 0) (mP none) (mPart (mVar 4)))) (mVar 5)) (mSl (mVar 0) (mPart (mOp2 fAdd (mVar 4) (mP (.int 1)))) (mP none))) (mNil))))) (mSeq (mSet 8 (mOp2 fAdd (mVar 8) (mOpA fLst (mCons (mOp2 fAdd (mOp2 fAdd (mOp2 fAdd (mP (.str "store ")) (mVar 0)) (mP (.str " "))) (mVar 3)) (mCons (mOp2 fAdd (mOp2 fAdd (mOp2 fAdd (mOp2 fAdd (mP (.str "swap ")) (mVar 0)) (mP (.str " "))) (mVar 5)) (mVar 3)) (mNil)))))) (mSeq (mSet 8 (mOp2 fAdd (mVar 8) (mOpA fLst (mCons (mOp2 fAdd (mOp2 fAdd (mP (.str "jump ")) (mVar 5)) (mVar 2)) (mCons (mOp2 fAdd (mOp2 fAdd (mP (.str "jump ")) (mVar 2)) (mVar 5)) (mCons (mOp2 fAdd (mP (.str "jump 1")) (mVar 2)) (mNil))))))) (mSeq (mSet 8 (mOp2 fAdd (mVar 8) (mOpA fLst (mCons (mOp2 fAdd (mP (.str "jump 1")) (mVar 3)) (mCons (mOp2 fAdd (mOp2 fAdd (mP (.str "jump ")) (mVar 3)) (mP (.str "1"))) (mCons (mOp2 fAdd (mP (.str "jump ")) (mVar 3)) (mCons (mOp2 fAdd (mP (.str "jump 10")) (mVar 2)) (mNil)))))))) (mSeq (mSet 8 (mOp2 fAdd (mVar 8) (mOpA fLst (mCons (mOp2 fAdd (mOp2 fAdd (mP (.str "jump ")) (mVar 5)) (mP (.str "."))) (mCons (mOp2 fAdd (mOp2 fAdd (mOp2 fAdd (mP (.str "test ")) (mVar 3)) (mP (.str " "))) (mVar 5)) (mCons (mOp2 fAdd (mOp2 fAdd (mOp2 fAdd (mP (.str "test ")) (mVar 5)) (mVar 2)) (mP (.str " 2"))) (mNil))))))) (mSeq (mSet 8 (mOp2 fAdd (mVar 8) (mOpA fLst (mCons (mOp2 fAdd (mOp2 fAdd (mOp2 fAdd (mOp2 fAdd (mP (.str "test ")) (mVar 5)) (mP (.str " "))) (mVar 5)) (mVar 2)) (mCons (mOp2 fAdd (mOp2 fAdd (mOp2 fAdd (mP (.str "test ")) (mVar 5)) (mP (.str " 1"))) (mVar 2)) (mNil)))))) (mSeq (mSet 8 (mOp2 fAdd (mVar 8) (mOpA fLst (mCons (mOp2 fAdd (mOp2 fAdd (mOp2 fAdd (mP (.str "test ")) (mVar 5)) (mP (.str " 1"))) (mVar 3)) (mCons (mOp2 fAdd (mOp2 fAdd (mOp2 fAdd (mP (.str "test ")) (mVar 5)) (mP (.str " "))) (mVar 3)) (mNil)))))) (mRet (mOp2 fAdd (mVar 8) (mOpA fLst (mCons (mOp2 fAdd (mOp2 fAdd (mOp2 fAdd (mOp2 fAdd (mP (.str "test ")) (mVar 5)) (mP (.str " "))) (mVar 2)) (mVar 5)) (mNil))))))))))))))))
noncomputable def m_law_wrong_marks : MF := mFn 9 5 b_law_wrong_marks
noncomputable def b_is_name : MS := mRet (mAndV (mCh fLe fLe (mP (.int 1)) (mOpA cLen (mCons (mVar 0) (mNil))) (mP (.int 6))) (mOpA cAll (mCons (mLc [1] (mI (mVar 0)) (bN 1) (mP true) (mOp2 fIn (mVar 1) (mP k_LETTERS))) (mNil))))
noncomputable def m_is_name : MF := mFn 2 1 b_is_name
noncomputable def b_is_value : MS := mRet (mAndV (mOp2 fEq (mOpA cLen (mCons (mVar 0) (mNil))) (mP (.int 1))) (mOp2 fIn (mVar 0) (mP k_DIGITS)))
noncomputable def m_is_value : MF := mFn 1 1 b_is_value
noncomputable def b_is_target : MS := mSeq (mIfS (mT (mOp2 fEq (mOpA cLen (mCons (mVar 0) (mNil))) (mP (.int 2)))) (mRet (mAndV (mOp2 fIn (mOp2 fIx (mVar 0) (mP (.int 0))) (mSl (mP k_DIGITS) (mPart (mP (.int 1))) (mP none))) (mOp2 fIn (mOp2 fIx (mVar 0) (mP (.int 1))) (mP k_DIGITS)))) (mSkip)) (mRet (mCall (m_is_value) (mCons (mVar 0) (mNil))))
noncomputable def m_is_target : MF := mFn 1 1 b_is_target
noncomputable def b_parse_row : MS := mSeq (mMatch (mStr1 fSplit (mVar 0) (mP (.str " "))) (mcCons [.val "fence"] (mRet (mOpA fTup (mCons (mP (.str "fence")) (mNil)))) (mcCons [.val "load", .cap 1] (mIfS (mT (mCall (m_is_name) (mCons (mVar 1) (mNil)))) (mRet (mOpA fTup (mCons (mP (.str "load")) (mCons (mVar 1) (mNil))))) (mSkip)) (mcCons [.val "jump", .cap 2] (mIfS (mT (mCall (m_is_target) (mCons (mVar 2) (mNil)))) (mRet (mOpA fTup (mCons (mP (.str "jump")) (mCons (mOpA cInt (mCons (mVar 2) (mNil))) (mNil))))) (mSkip)) (mcCons [.val "test", .cap 3, .cap 2] (mIfS (mAndT (mT (mCall (m_is_value) (mCons (mVar 3) (mNil)))) (mT (mCall (m_is_target) (mCons (mVar 2) (mNil))))) (mRet (mOpA fTup (mCons (mP (.str "test")) (mCons (mOpA cInt (mCons (mVar 3) (mNil))) (mCons (mOpA cInt (mCons (mVar 2) (mNil))) (mNil)))))) (mSkip)) (mcCons [.cap 4, .cap 1, .cap 5] (mIfS (mAndT (mT (mOp2 fIn (mVar 4) (mOpA fTup (mCons (mP (.str "store")) (mCons (mP (.str "swap")) (mNil)))))) (mT (mCall (m_is_name) (mCons (mVar 1) (mNil))))) (mSeq (mIfS (mT (mOp2 fEq (mVar 5) (mP (.str "r")))) (mRet (mOpA fTup (mCons (mVar 4) (mCons (mVar 1) (mCons (mP (.str "r")) (mNil)))))) (mSkip)) (mIfS (mT (mCall (m_is_value) (mCons (mVar 5) (mNil)))) (mRet (mOpA fTup (mCons (mVar 4) (mCons (mVar 1) (mCons (mOpA cInt (mCons (mVar 5) (mNil))) (mNil)))))) (mSkip))) (mSkip)) (mcNil))))))) (mRaise cx_InvalidText [])
noncomputable def m_parse_row : MF := mFn 6 1 b_parse_row
noncomputable def b_law_refused : MS := mSeq (mTryAs (mEx (mCall (m_parse_row) (mCons (mVar 0) (mNil)))) tb_InvalidText 1 (fun ec fs => mSeq (mIfS (mOrT (mT (mIsE 1 (tb_InvalidLine ec))) (mT (mIsE 1 (tb_InvalidRow ec)))) (mRet (mP (.bl false))) (mSkip)) (mRet (mAndV (mIsE 1 (tb_ElderError ec)) (mIsE 1 (tb_ValueError ec)))))) (mRet (mP (.bl false)))
noncomputable def m_law_refused : MF := mFn 2 1 b_law_refused
noncomputable def bd_law_0 : MS := mIfS (mNotT (mT (mCall (m_law_refused) (mCons (mVar 10) (mNil))))) (mRet (mP (.bl false))) (mSkip)
noncomputable def b_law : MS := mSeq (mSet 1 (mCall (m_law_pool) (mCons (mVar 0) (mNil)))) (mSeq (mSet 2 (mCall (m_law_word) (mCons (mVar 1) (mCons (mP (.int 0)) (mNil))))) (mSeq (mSet 3 (mCall (m_law_draw) (mCons (mVar 1) (mCons (mP (.int 7)) (mCons (mP (.int 10)) (mNil)))))) (mSeq (mSet 4 (mOp2 fIx (mP (.str "abcdefghijklmnopqstuvwxyz")) (mCall (m_law_draw) (mCons (mVar 1) (mCons (mP (.int 8)) (mCons (mP (.int 25)) (mNil))))))) (mSeq (mSet 5 (mP (.str "!#$&'()*+,-./:;<=>?\x40[]^_`{|}~ABCDEFGHIJKLMNOPQRSTUVWXYZ"))) (mSeq (mSet 6 (mOp2 fIx (mVar 5) (mCall (m_law_draw) (mCons (mVar 1) (mCons (mP (.int 9)) (mCons (mOpA cLen (mCons (mVar 5) (mNil))) (mNil))))))) (mSeq (mSet 7 (mCall (m_law_draw) (mCons (mVar 1) (mCons (mP (.int 10)) (mCons (mOpA cLen (mCons (mVar 2) (mNil))) (mNil)))))) (mSeq (mSet 8 (mCall (m_law_word) (mCons (mVar 1) (mCons (mP (.int 11)) (mNil))))) (mSeq (mIfS (mT (mOp2 fIn (mVar 8) (mOpA fLst (mCons (mP (.str "load")) (mCons (mP (.str "store")) (mCons (mP (.str "swap")) (mCons (mP (.str "fence")) (mCons (mP (.str "test")) (mCons (mP (.str "jump")) (mNil)))))))))) (mSet 8 (mP (.str "set"))) (mSkip)) (mSeq (mSet 9 (mOp2 fAdd (mCall (m_law_wrong) (mCons (mVar 2) (mCons (mVar 3) (mCons (mVar 4) (mNil))))) (mCall (m_law_wrong_words) (mCons (mVar 2) (mCons (mVar 3) (mCons (mVar 8) (mNil))))))) (mSeq (mSet 9 (mOp2 fAdd (mVar 9) (mCall (m_law_wrong_marks) (mCons (mVar 2) (mCons (mVar 3) (mCons (mVar 4) (mCons (mVar 6) (mCons (mVar 7) (mNil))))))))) (mSeq (mFor (mI (mVar 9)) (bN 10) (bd_law_0)) (mSeq (mIfS (mNotT (mT (mCall (m_law_same 8) (mCons (mCall (m_parse_row) (mCons (mOp2 fAdd (mP (.str "load ")) (mVar 2)) (mNil))) (mCons (mOpA fTup (mCons (mP (.str "load")) (mCons (mVar 2) (mNil)))) (mNil)))))) (mRet (mP (.bl false))) (mSkip)) (mSeq (mIfS (mNotT (mT (mCall (m_law_same 8) (mCons (mCall (m_parse_row) (mCons (mOp2 fAdd (mOp2 fAdd (mOp2 fAdd (mP (.str "swap ")) (mVar 2)) (mP (.str " "))) (mOpA cStr (mCons (mVar 3) (mNil)))) (mNil))) (mCons (mOpA fTup (mCons (mP (.str "swap")) (mCons (mVar 2) (mCons (mVar 3) (mNil))))) (mNil)))))) (mRet (mP (.bl false))) (mSkip)) (mRet (mCall (m_law_same 8) (mCons (mCall (m_parse_row) (mCons (mOp2 fAdd (mOp2 fAdd (mOp2 fAdd (mP (.str "test ")) (mOpA cStr (mCons (mVar 3) (mNil)))) (mP (.str " 1"))) (mOpA cStr (mCons (mVar 3) (mNil)))) (mNil))) (mCons (mOpA fTup (mCons (mP (.str "test")) (mCons (mVar 3) (mCons (mOp2 fAdd (mP (.int 10)) (mVar 3)) (mNil))))) (mNil))))))))))))))))))
noncomputable def m_law : MF := mFn 11 1 b_law
/-! ### derivations -/
section
variable {P : Program} {w : World} {K : PySem.W.Frag} {mg : Str → Option Value} {base : Heap} {e : Nat → Addr} {a : Nat → Addr} {fd : Nat → FuncData}
theorem ok_law_pool (T : Txt K mg a fd e) : FnOk P w K mg base (L2.CX P w) 1 (a 0) (fd 0) ["_law_script"] (spM K (clT e) m_law_pool) :=
  fn_trim (fn_ok (k := 0) rfl T.F_law_pool sc_law_pool (fun cdv A outer s H E hr => by exact rss_cons (rs_set (i := 1) sc_law_pool.nd (re_lstM (ra_nil))) (rss_cons (rs_for (passes_of rfl) (ri_any (re_var (i := 0))) (rg_name (i := 2) sc_law_pool.nd) (rss_cons (rs_set (i := 3) sc_law_pool.nd (re_callB call_abs cAbs_ok T.n_abs PyProof.Rows.boot_abs (ra_cons (re_callTy call_intA cInt_ok T.n_int PyProof.Rows.boot_int (ra_cons (re_var (i := 2)) (ra_nil))) (ra_nil)))) (rss_one (rs_if (rt_cmp op_ge fGe_rel.op (re_var (i := 3)) (re_op2 op_pow fPow_ok (re_int) (re_int))) (rss_one (rs_for (passes_of rfl) (ri_range1 T.n_range (ra_cons (re_int) (ra_nil)) (len_cons len_nil)) (rg_name (i := 4) sc_law_pool.nd) (rss_one (rs_if (rt_cmp op_gt fGt_rel.op (re_var (i := 3)) (re_int)) (rss_cons (rs_expr (re_app (re_var (i := 1)) (re_op2 op_mod fMod_ok (re_callTy call_intA cInt_ok T.n_int PyProof.Rows.boot_int (ra_cons (re_var (i := 3)) (ra_nil))) (re_int)))) (rss_one (rs_set (i := 3) sc_law_pool.nd (re_op2 op_fdiv fDiv_ok (re_var (i := 3)) (re_int))))) (rss_nil))))) (rss_one (rs_for (passes_of rfl) (ri_range1 T.n_range (ra_cons (re_int) (ra_nil)) (len_cons len_nil)) (rg_name (i := 4) sc_law_pool.nd) (rss_cons (rs_set (i := 5) sc_law_pool.nd (re_op2 op_mod fMod_ok (re_callTy call_intA cInt_ok T.n_int PyProof.Rows.boot_int (ra_cons (re_op2 op_addA fAdd_ok (re_op2 op_addA fAdd_ok (re_op2 op_mul fMul_ok (re_var (i := 2)) (re_int)) (re_op2 op_mul fMul_ok (re_var (i := 4)) (re_int))) (re_int)) (ra_nil))) (re_int))) (rss_one (rs_expr (re_app (re_var (i := 1)) (re_op2 op_mod fMod_ok (re_op2 op_mod fMod_ok (re_callTy call_intA cInt_ok T.n_int PyProof.Rows.boot_int (ra_cons (re_op2 op_addA fAdd_ok (re_op2 op_addA fAdd_ok (re_op2 op_mul fMul_ok (re_var (i := 5)) (re_var (i := 5))) (re_op2 op_mul fMul_ok (re_var (i := 5)) (re_int))) (re_var (i := 4))) (ra_nil))) (re_int)) (re_int)))))))))))) (rss_one (rs_ret (re_varF (i := 1)))))))
theorem ok_law_draw (T : Txt K mg a fd e) : FnOk P w K mg base (L2.CX P w) 1 (a 1) (fd 1) ["_law_draws", "_law_k", "_law_many"] (spM K (clT e) m_law_draw) :=
  fn_ok (k := 0) rfl T.F_law_draw sc_law_draw (fun cdv A outer s H E hr => by exact rss_cons (rs_if (rt_cmp op_lt fLt_rel.op (re_var (i := 1)) (re_callB call_lenA cLen_ok T.n_len PySem.boot_len (ra_cons (re_var (i := 0)) (ra_nil)))) (rss_one (rs_ret (re_op2 op_mod fMod_ok (re_callTy call_intA cInt_ok T.n_int PyProof.Rows.boot_int (ra_cons (re_ix (re_var (i := 0)) (re_var (i := 1))) (ra_nil))) (re_var (i := 2))))) (rss_nil)) (rss_one (rs_ret (re_op2 op_mod fMod_ok (re_op2 op_mod fMod_ok (re_callTy call_intA cInt_ok T.n_int PyProof.Rows.boot_int (ra_cons (re_op2 op_addA fAdd_ok (re_op2 op_addA fAdd_ok (re_op2 op_mul fMul_ok (re_var (i := 1)) (re_int)) (re_op2 op_mul fMul_ok (re_callB (cr_sum rfl) cSum_ok T.n_sum PyProof.Rows.boot_sum (ra_cons (re_sl (re_var (i := 0)) (ro_none) (ro_some (re_int))) (ra_nil))) (re_int))) (re_int)) (ra_nil))) (re_int)) (re_var (i := 2))))))
theorem ok_law_word (T : Txt K mg a fd e) : FnOk P w K mg base (L2.CX P w) 2 (a 2) (fd 2) ["_law_draws", "_law_at"] (spM K (clT e) m_law_word) :=
  fn_ok (k := 1) rfl T.F_law_word sc_law_word (fun cdv A outer s H E hr => by exact rss_cons (rs_set (i := 2) sc_law_word.nd (re_str)) (rss_cons (rs_set (i := 3) sc_law_word.nd (re_op2 op_addA fAdd_ok (re_int) (re_callN (ok_law_draw T) (hr.mono (by decide)) T.g_law_draw T.F_law_draw.kp T.b_law_draw (ra_cons (re_var (i := 0)) (ra_cons (re_var (i := 1)) (ra_cons (re_int) (ra_nil))))))) (rss_one (rs_ret (re_join (re_str) (re_lc (own := [("_law_k", 4)]) sc_law_word.nd (ri_range1 T.n_range (ra_cons (re_var (i := 3)) (ra_nil)) (len_cons len_nil)) (blkOk_by (N := N_law_word) (sc := defScope s_law_word) (by decide +kernel)) (fun _ _ _ _ _ => rgw_name (i := 4) sc_law_word.nd) (fun _ _ _ _ _ => rts_nil) (fun _ _ _ _ _ => re_ix (re_var (i := 2)) (re_callN (ok_law_draw T) (hr.mono (by decide)) T.g_law_draw T.F_law_draw.kp T.b_law_draw (ra_cons (re_var (i := 0)) (ra_cons (re_op2 op_addA fAdd_ok (re_op2 op_addA fAdd_ok (re_var (i := 1)) (re_int)) (re_var (i := 4))) (ra_cons (re_int) (ra_nil))))))))))))
theorem ok_law_same (T : Txt K mg a fd e) : ∀ n : Nat, FnOk P w K mg base (L2.CX P w) (n + 1) (a 3) (fd 3) ["_law_actual", "_law_due"] (spM K (clT e) (m_law_same n))
  | 0 => fn_none
  | n + 1 => fn_ok (k := n + 1) rfl T.F_law_same sc_law_same (fun cdv A outer s H E hr => by
    have ih : FnOk P w K mg base (L2.CX P w) (n + 1) (a 3) (fd 3) ["_law_actual", "_law_due"] (spM K (clT e) (m_law_same n)) := ok_law_same T n
    exact rss_cons (rs_if (rt_w (rw_or (rt_val (re_isi T.n_isinstance T.n_tuple PyProof.Rows.boot_tuple (by decide +kernel) (re_var (i := 1)))) (rw_or1 (rt_val (re_isi T.n_isinstance T.n_list PyProof.Rows.boot_list (by decide +kernel) (re_var (i := 1))))))) (rss_cons (rs_if (rt_w (rw_or (rt_cmp (op_neA hr) fNe_rel.op (re_isi T.n_isinstance T.n_tuple PyProof.Rows.boot_tuple (by decide +kernel) (re_var (i := 0))) (re_isi T.n_isinstance T.n_tuple PyProof.Rows.boot_tuple (by decide +kernel) (re_var (i := 1)))) (rw_or1 (rt_cmp (op_neA hr) fNe_rel.op (re_isi T.n_isinstance T.n_list PyProof.Rows.boot_list (by decide +kernel) (re_var (i := 0))) (re_isi T.n_isinstance T.n_list PyProof.Rows.boot_list (by decide +kernel) (re_var (i := 1))))))) (rss_one (rs_ret (re_bl))) (rss_nil)) (rss_cons (rs_if (rt_cmp (op_neA hr) fNe_rel.op (re_callB call_lenA cLen_ok T.n_len PySem.boot_len (ra_cons (re_var (i := 0)) (ra_nil))) (re_callB call_lenA cLen_ok T.n_len PySem.boot_len (ra_cons (re_var (i := 1)) (ra_nil)))) (rss_one (rs_ret (re_bl))) (rss_nil)) (rss_one (rs_ret (re_callB (cr_all rfl) cAll_ok T.n_all PyProof.Rows.boot_all (ra_cons (re_lc (own := [("_law_k", 2)]) sc_law_same.nd (ri_range1 T.n_range (ra_cons (re_callB call_lenA cLen_ok T.n_len PySem.boot_len (ra_cons (re_var (i := 1)) (ra_nil))) (ra_nil)) (len_cons len_nil)) (blkOk_by (N := N_law_same) (sc := defScope s_law_same) (by decide +kernel)) (fun _ _ _ _ _ => rgw_name (i := 2) sc_law_same.nd) (fun _ _ _ _ _ => rts_nil) (fun _ _ _ _ _ => re_callN ih hr T.g_law_same T.F_law_same.kp T.b_law_same (ra_cons (re_ix (re_var (i := 0)) (re_var (i := 2))) (ra_cons (re_ix (re_var (i := 1)) (re_var (i := 2))) (ra_nil))))) (ra_nil))))))) (rss_nil)) (rss_cons (rs_if (rt_cmp op_isN fIsN_rel.op (re_var (i := 1)) (re_non)) (rss_one (rs_ret (re_cmp op_isN fIsN_rel.op (re_var (i := 0)) (re_non)))) (rss_nil)) (rss_cons (rs_if (rt_val (re_isi T.n_isinstance T.n_bool PyProof.Rows.boot_bool (by decide +kernel) (re_var (i := 1)))) (rss_one (rs_ret (re_and (re_isi T.n_isinstance T.n_bool PyProof.Rows.boot_bool (by decide +kernel) (re_var (i := 0))) (re_one (re_cmp (op_eqA hr) fEq_rel.op (re_var (i := 0)) (re_var (i := 1))))))) (rss_nil)) (rss_cons (rs_if (rt_val (re_isi T.n_isinstance T.n_int PyProof.Rows.boot_int (by decide +kernel) (re_var (i := 1)))) (rss_one (rs_ret (re_and (re_isi T.n_isinstance T.n_int PyProof.Rows.boot_int (by decide +kernel) (re_var (i := 0))) (re_and (re_not (re_isi T.n_isinstance T.n_bool PyProof.Rows.boot_bool (by decide +kernel) (re_var (i := 0)))) (re_one (re_cmp (op_eqA hr) fEq_rel.op (re_var (i := 0)) (re_var (i := 1)))))))) (rss_nil)) (rss_one (rs_ret (re_and (re_isi T.n_isinstance T.n_str PyProof.Rows.boot_str (by decide +kernel) (re_var (i := 0))) (re_one (re_cmp (op_eqA hr) fEq_rel.op (re_var (i := 0)) (re_var (i := 1)))))))))))
theorem ok_law_wrong (T : Txt K mg a fd e) : FnOk P w K mg base (L2.CX P w) 1 (a 4) (fd 4) ["_law_name", "_law_digit", "_law_letter"] (spM K (clT e) m_law_wrong) :=
  fn_ok (k := 0) rfl T.F_law_wrong sc_law_wrong (fun cdv A outer s H E hr => by exact rss_cons (rs_set (i := 3) sc_law_wrong.nd (re_callTy call_strA cStr_ok T.n_str PyProof.Rows.boot_str (ra_cons (re_var (i := 1)) (ra_nil)))) (rss_cons (rs_set (i := 4) sc_law_wrong.nd (re_lst (ra_cons (re_str) (ra_cons (re_str) (ra_cons (re_str) (ra_cons (re_str) (ra_cons (re_str) (ra_cons (re_op2 op_addA fAdd_ok (re_str) (re_var (i := 0))) (ra_cons (re_op2 op_addA fAdd_ok (re_str) (re_var (i := 0))) (ra_cons (re_op2 op_addA fAdd_ok (re_str) (re_var (i := 3))) (ra_cons (re_str) (ra_cons (re_str) (ra_nil))))))))))))) (rss_cons (rs_set (i := 4) sc_law_wrong.nd (re_op2 op_addA fAdd_ok (re_var (i := 4)) (re_lst (ra_cons (re_str) (ra_cons (re_str) (ra_cons (re_op2 op_addA fAdd_ok (re_str) (re_var (i := 0))) (ra_cons (re_str) (ra_cons (re_str) (ra_cons (re_op2 op_addA fAdd_ok (re_str) (re_var (i := 0))) (ra_cons (re_op2 op_addA fAdd_ok (re_op2 op_addA fAdd_ok (re_str) (re_var (i := 0))) (re_str)) (ra_nil))))))))))) (rss_cons (rs_set (i := 4) sc_law_wrong.nd (re_op2 op_addA fAdd_ok (re_var (i := 4)) (re_lst (ra_cons (re_op2 op_addA fAdd_ok (re_str) (re_var (i := 0))) (ra_cons (re_op2 op_addA fAdd_ok (re_op2 op_addA fAdd_ok (re_op2 op_addA fAdd_ok (re_str) (re_var (i := 0))) (re_str)) (re_var (i := 0))) (ra_cons (re_op2 op_addA fAdd_ok (re_str) (re_var (i := 0))) (ra_cons (re_op2 op_addA fAdd_ok (re_str) (re_var (i := 0))) (ra_cons (re_op2 op_addA fAdd_ok (re_str) (re_var (i := 0))) (ra_nil))))))))) (rss_cons (rs_set (i := 4) sc_law_wrong.nd (re_op2 op_addA fAdd_ok (re_var (i := 4)) (re_lst (ra_cons (re_op2 op_addA fAdd_ok (re_op2 op_addA fAdd_ok (re_op2 op_addA fAdd_ok (re_str) (re_var (i := 0))) (re_str)) (re_var (i := 3))) (ra_cons (re_op2 op_addA fAdd_ok (re_op2 op_addA fAdd_ok (re_op2 op_addA fAdd_ok (re_op2 op_addA fAdd_ok (re_str) (re_var (i := 0))) (re_str)) (re_var (i := 3))) (re_str)) (ra_cons (re_op2 op_addA fAdd_ok (re_op2 op_addA fAdd_ok (re_op2 op_addA fAdd_ok (re_str) (re_var (i := 0))) (re_str)) (re_var (i := 3))) (ra_nil))))))) (rss_cons (rs_set (i := 4) sc_law_wrong.nd (re_op2 op_addA fAdd_ok (re_var (i := 4)) (re_lst (ra_cons (re_op2 op_addA fAdd_ok (re_op2 op_addA fAdd_ok (re_op2 op_addA fAdd_ok (re_op2 op_addA fAdd_ok (re_op2 op_addA fAdd_ok (re_str) (re_var (i := 0))) (re_str)) (re_var (i := 3))) (re_str)) (re_var (i := 3))) (ra_cons (re_op2 op_addA fAdd_ok (re_op2 op_addA fAdd_ok (re_op2 op_addA fAdd_ok (re_str) (re_var (i := 0))) (re_str)) (re_var (i := 3))) (ra_cons (re_op2 op_addA fAdd_ok (re_op2 op_addA fAdd_ok (re_op2 op_addA fAdd_ok (re_str) (re_var (i := 0))) (re_str)) (re_var (i := 3))) (ra_nil))))))) (rss_cons (rs_set (i := 4) sc_law_wrong.nd (re_op2 op_addA fAdd_ok (re_var (i := 4)) (re_lst (ra_cons (re_op2 op_addA fAdd_ok (re_op2 op_addA fAdd_ok (re_op2 op_addA fAdd_ok (re_str) (re_var (i := 0))) (re_str)) (re_var (i := 2))) (ra_cons (re_op2 op_addA fAdd_ok (re_op2 op_addA fAdd_ok (re_str) (re_var (i := 0))) (re_str)) (ra_cons (re_op2 op_addA fAdd_ok (re_op2 op_addA fAdd_ok (re_str) (re_var (i := 0))) (re_str)) (ra_cons (re_op2 op_addA fAdd_ok (re_op2 op_addA fAdd_ok (re_str) (re_var (i := 0))) (re_str)) (ra_nil)))))))) (rss_cons (rs_set (i := 4) sc_law_wrong.nd (re_op2 op_addA fAdd_ok (re_var (i := 4)) (re_lst (ra_cons (re_op2 op_addA fAdd_ok (re_op2 op_addA fAdd_ok (re_op2 op_addA fAdd_ok (re_str) (re_var (i := 0))) (re_str)) (re_var (i := 3))) (ra_cons (re_op2 op_addA fAdd_ok (re_op2 op_addA fAdd_ok (re_op2 op_addA fAdd_ok (re_str) (re_var (i := 0))) (re_str)) (re_var (i := 3))) (ra_cons (re_op2 op_addA fAdd_ok (re_op2 op_addA fAdd_ok (re_str) (re_sl (re_var (i := 0)) (ro_none) (ro_some (re_int)))) (re_var (i := 3))) (ra_cons (re_op2 op_addA fAdd_ok (re_str) (re_var (i := 3))) (ra_nil)))))))) (rss_cons (rs_set (i := 4) sc_law_wrong.nd (re_op2 op_addA fAdd_ok (re_var (i := 4)) (re_lst (ra_cons (re_op2 op_addA fAdd_ok (re_str) (re_upper (re_var (i := 0)))) (ra_cons (re_op2 op_addA fAdd_ok (re_op2 op_addA fAdd_ok (re_str) (re_sl (re_var (i := 0)) (ro_none) (ro_some (re_int)))) (re_str)) (ra_cons (re_op2 op_addA fAdd_ok (re_str) (re_sl (re_op2 op_mulS fMulS_ok (re_var (i := 0)) (re_int)) (ro_none) (ro_some (re_int)))) (ra_cons (re_str) (ra_nil)))))))) (rss_cons (rs_set (i := 4) sc_law_wrong.nd (re_op2 op_addA fAdd_ok (re_var (i := 4)) (re_lst (ra_cons (re_op2 op_addA fAdd_ok (re_op2 op_addA fAdd_ok (re_op2 op_addA fAdd_ok (re_str) (re_upper (re_var (i := 0)))) (re_str)) (re_var (i := 3))) (ra_cons (re_op2 op_addA fAdd_ok (re_op2 op_addA fAdd_ok (re_op2 op_addA fAdd_ok (re_str) (re_sl (re_op2 op_mulS fMulS_ok (re_var (i := 0)) (re_int)) (ro_none) (ro_some (re_int)))) (re_str)) (re_var (i := 3))) (ra_cons (re_str) (ra_cons (re_str) (ra_nil)))))))) (rss_cons (rs_set (i := 4) sc_law_wrong.nd (re_op2 op_addA fAdd_ok (re_var (i := 4)) (re_lst (ra_cons (re_op2 op_addA fAdd_ok (re_op2 op_addA fAdd_ok (re_str) (re_var (i := 3))) (re_str)) (ra_cons (re_str) (ra_cons (re_op2 op_addA fAdd_ok (re_op2 op_addA fAdd_ok (re_str) (re_var (i := 3))) (re_str)) (ra_cons (re_op2 op_addA fAdd_ok (re_op2 op_addA fAdd_ok (re_op2 op_addA fAdd_ok (re_str) (re_var (i := 3))) (re_str)) (re_var (i := 3))) (ra_cons (re_op2 op_addA fAdd_ok (re_str) (re_var (i := 3))) (ra_nil))))))))) (rss_cons (rs_set (i := 4) sc_law_wrong.nd (re_op2 op_addA fAdd_ok (re_var (i := 4)) (re_lst (ra_cons (re_op2 op_addA fAdd_ok (re_op2 op_addA fAdd_ok (re_str) (re_var (i := 3))) (re_str)) (ra_cons (re_op2 op_addA fAdd_ok (re_op2 op_addA fAdd_ok (re_str) (re_var (i := 3))) (re_str)) (ra_cons (re_op2 op_addA fAdd_ok (re_op2 op_addA fAdd_ok (re_op2 op_addA fAdd_ok (re_str) (re_var (i := 3))) (re_str)) (re_var (i := 0))) (ra_cons (re_op2 op_addA fAdd_ok (re_str) (re_var (i := 3))) (ra_nil)))))))) (rss_cons (rs_set (i := 4) sc_law_wrong.nd (re_op2 op_addA fAdd_ok (re_var (i := 4)) (re_lst (ra_cons (re_op2 op_addA fAdd_ok (re_op2 op_addA fAdd_ok (re_str) (re_var (i := 0))) (re_str)) (ra_cons (re_op2 op_addA fAdd_ok (re_op2 op_addA fAdd_ok (re_str) (re_var (i := 0))) (re_str)) (ra_cons (re_op2 op_addA fAdd_ok (re_str) (re_var (i := 3))) (ra_cons (re_op2 op_addA fAdd_ok (re_op2 op_addA fAdd_ok (re_str) (re_var (i := 3))) (re_str)) (ra_cons (re_op2 op_addA fAdd_ok (re_str) (re_var (i := 3))) (ra_nil))))))))) (rss_cons (rs_set (i := 4) sc_law_wrong.nd (re_op2 op_addA fAdd_ok (re_var (i := 4)) (re_lst (ra_cons (re_op2 op_addA fAdd_ok (re_str) (re_var (i := 3))) (ra_cons (re_op2 op_addA fAdd_ok (re_str) (re_var (i := 3))) (ra_cons (re_op2 op_addA fAdd_ok (re_str) (re_var (i := 3))) (ra_cons (re_op2 op_addA fAdd_ok (re_str) (re_var (i := 0))) (ra_cons (re_op2 op_addA fAdd_ok (re_op2 op_addA fAdd_ok (re_str) (re_var (i := 3))) (re_str)) (ra_cons (re_str) (ra_nil)))))))))) (rss_one (rs_ret (re_op2 op_addA fAdd_ok (re_var (i := 4)) (re_lst (ra_cons (re_str) (ra_cons (re_str) (ra_cons (re_op2 op_addA fAdd_ok (re_str) (re_var (i := 0))) (ra_cons (re_op2 op_addA fAdd_ok (re_op2 op_addA fAdd_ok (re_upper (re_var (i := 0))) (re_str)) (re_var (i := 0))) (ra_cons (re_var (i := 3)) (ra_cons (re_op2 op_addA fAdd_ok (re_op2 op_addA fAdd_ok (re_op2 op_addA fAdd_ok (re_str) (re_var (i := 3))) (re_str)) (re_var (i := 3))) (ra_nil)))))))))))))))))))))))))
theorem ok_law_wrong_words (T : Txt K mg a fd e) : FnOk P w K mg base (L2.CX P w) 1 (a 5) (fd 5) ["_law_name", "_law_digit", "_law_word_here"] (spM K (clT e) m_law_wrong_words) :=
  fn_ok (k := 0) rfl T.F_law_wrong_words sc_law_wrong_words (fun cdv A outer s H E hr => by exact rss_cons (rs_set (i := 3) sc_law_wrong_words.nd (re_callTy call_strA cStr_ok T.n_str PyProof.Rows.boot_str (ra_cons (re_var (i := 1)) (ra_nil)))) (rss_cons (rs_set (i := 4) sc_law_wrong_words.nd (re_lst (ra_cons (re_op2 op_addA fAdd_ok (re_op2 op_addA fAdd_ok (re_op2 op_addA fAdd_ok (re_str) (re_var (i := 0))) (re_str)) (re_var (i := 3))) (ra_cons (re_op2 op_addA fAdd_ok (re_op2 op_addA fAdd_ok (re_str) (re_var (i := 0))) (re_str)) (ra_cons (re_op2 op_addA fAdd_ok (re_op2 op_addA fAdd_ok (re_str) (re_var (i := 3))) (re_str)) (ra_nil)))))) (rss_cons (rs_set (i := 4) sc_law_wrong_words.nd (re_op2 op_addA fAdd_ok (re_var (i := 4)) (re_lst (ra_cons (re_op2 op_addA fAdd_ok (re_str) (re_var (i := 3))) (ra_cons (re_op2 op_addA fAdd_ok (re_op2 op_addA fAdd_ok (re_str) (re_var (i := 0))) (re_str)) (ra_cons (re_op2 op_addA fAdd_ok (re_op2 op_addA fAdd_ok (re_op2 op_addA fAdd_ok (re_str) (re_var (i := 0))) (re_str)) (re_var (i := 3))) (ra_nil))))))) (rss_cons (rs_set (i := 4) sc_law_wrong_words.nd (re_op2 op_addA fAdd_ok (re_var (i := 4)) (re_lst (ra_cons (re_op2 op_addA fAdd_ok (re_op2 op_addA fAdd_ok (re_str) (re_var (i := 0))) (re_str)) (ra_cons (re_op2 op_addA fAdd_ok (re_op2 op_addA fAdd_ok (re_str) (re_var (i := 3))) (re_str)) (ra_cons (re_op2 op_addA fAdd_ok (re_str) (re_var (i := 3))) (ra_nil))))))) (rss_cons (rs_set (i := 4) sc_law_wrong_words.nd (re_op2 op_addA fAdd_ok (re_var (i := 4)) (re_lst (ra_cons (re_var (i := 2)) (ra_cons (re_op2 op_addA fAdd_ok (re_op2 op_addA fAdd_ok (re_var (i := 2)) (re_str)) (re_var (i := 0))) (ra_cons (re_op2 op_addA fAdd_ok (re_op2 op_addA fAdd_ok (re_var (i := 2)) (re_str)) (re_var (i := 3))) (ra_cons (re_op2 op_addA fAdd_ok (re_op2 op_addA fAdd_ok (re_op2 op_addA fAdd_ok (re_var (i := 2)) (re_str)) (re_var (i := 0))) (re_str)) (ra_nil)))))))) (rss_cons (rs_set (i := 4) sc_law_wrong_words.nd (re_op2 op_addA fAdd_ok (re_var (i := 4)) (re_lst (ra_cons (re_op2 op_addA fAdd_ok (re_op2 op_addA fAdd_ok (re_op2 op_addA fAdd_ok (re_op2 op_addA fAdd_ok (re_var (i := 2)) (re_str)) (re_var (i := 0))) (re_str)) (re_var (i := 3))) (ra_cons (re_op2 op_addA fAdd_ok (re_op2 op_addA fAdd_ok (re_op2 op_addA fAdd_ok (re_op2 op_addA fAdd_ok (re_var (i := 2)) (re_str)) (re_var (i := 3))) (re_str)) (re_var (i := 3))) (ra_nil)))))) (rss_one (rs_ret (re_op2 op_addA fAdd_ok (re_var (i := 4)) (re_lst (ra_cons (re_op2 op_addA fAdd_ok (re_op2 op_addA fAdd_ok (re_op2 op_addA fAdd_ok (re_op2 op_addA fAdd_ok (re_op2 op_addA fAdd_ok (re_op2 op_addA fAdd_ok (re_var (i := 2)) (re_str)) (re_var (i := 0))) (re_str)) (re_var (i := 3))) (re_str)) (re_var (i := 3))) (ra_nil))))))))))))
theorem ok_law_wrong_marks (T : Txt K mg a fd e) : FnOk P w K mg base (L2.CX P w) 1 (a 6) (fd 6) ["_law_name", "_law_digit", "_law_letter", "_law_mark", "_law_place"] (spM K (clT e) m_law_wrong_marks) :=
  fn_ok (k := 0) rfl T.F_law_wrong_marks sc_law_wrong_marks (fun cdv A outer s H E hr => by exact rss_cons (rs_set (i := 5) sc_law_wrong_marks.nd (re_callTy call_strA cStr_ok T.n_str PyProof.Rows.boot_str (ra_cons (re_var (i := 1)) (ra_nil)))) (rss_cons (rs_set (i := 6) sc_law_wrong_marks.nd (re_op2 op_addA fAdd_ok (re_op2 op_addA fAdd_ok (re_sl (re_var (i := 0)) (ro_none) (ro_some (re_var (i := 4)))) (re_var (i := 3))) (re_sl (re_var (i := 0)) (ro_some (re_op2 op_addA fAdd_ok (re_var (i := 4)) (re_int))) (ro_none)))) (rss_cons (rs_set (i := 7) sc_law_wrong_marks.nd (re_op2 op_addA fAdd_ok (re_sl (re_var (i := 0)) (ro_none) (ro_some (re_int))) (re_str))) (rss_cons (rs_set (i := 8) sc_law_wrong_marks.nd (re_lst (ra_cons (re_op2 op_addA fAdd_ok (re_str) (re_var (i := 6))) (ra_cons (re_op2 op_addA fAdd_ok (re_op2 op_addA fAdd_ok (re_op2 op_addA fAdd_ok (re_str) (re_var (i := 6))) (re_str)) (re_var (i := 5))) (ra_cons (re_op2 op_addA fAdd_ok (re_op2 op_addA fAdd_ok (re_str) (re_var (i := 6))) (re_str)) (ra_nil)))))) (rss_cons (rs_set (i := 8) sc_law_wrong_marks.nd (re_op2 op_addA fAdd_ok (re_var (i := 8)) (re_lst (ra_cons (re_op2 op_addA fAdd_ok (re_str) (re_var (i := 7))) (ra_cons (re_op2 op_addA fAdd_ok (re_op2 op_addA fAdd_ok (re_op2 op_addA fAdd_ok (re_str) (re_var (i := 7))) (re_str)) (re_var (i := 5))) (ra_cons (re_op2 op_addA fAdd_ok (re_op2 op_addA fAdd_ok (re_str) (re_var (i := 7))) (re_str)) (ra_nil))))))) (rss_cons (rs_set (i := 8) sc_law_wrong_marks.nd (re_op2 op_addA fAdd_ok (re_var (i := 8)) (re_lst (ra_cons (re_op2 op_addA fAdd_ok (re_op2 op_addA fAdd_ok (re_op2 op_addA fAdd_ok (re_str) (re_sl (re_var (i := 0)) (ro_none) (ro_some (re_var (i := 4))))) (re_var (i := 5))) (re_sl (re_var (i := 0)) (ro_some (re_op2 op_addA fAdd_ok (re_var (i := 4)) (re_int))) (ro_none))) (ra_nil))))) (rss_cons (rs_set (i := 8) sc_law_wrong_marks.nd (re_op2 op_addA fAdd_ok (re_var (i := 8)) (re_lst (ra_cons (re_op2 op_addA fAdd_ok (re_op2 op_addA fAdd_ok (re_op2 op_addA fAdd_ok (re_str) (re_var (i := 0))) (re_str)) (re_var (i := 3))) (ra_cons (re_op2 op_addA fAdd_ok (re_op2 op_addA fAdd_ok (re_op2 op_addA fAdd_ok (re_op2 op_addA fAdd_ok (re_str) (re_var (i := 0))) (re_str)) (re_var (i := 5))) (re_var (i := 3))) (ra_nil)))))) (rss_cons (rs_set (i := 8) sc_law_wrong_marks.nd (re_op2 op_addA fAdd_ok (re_var (i := 8)) (re_lst (ra_cons (re_op2 op_addA fAdd_ok (re_op2 op_addA fAdd_ok (re_str) (re_var (i := 5))) (re_var (i := 2))) (ra_cons (re_op2 op_addA fAdd_ok (re_op2 op_addA fAdd_ok (re_str) (re_var (i := 2))) (re_var (i := 5))) (ra_cons (re_op2 op_addA fAdd_ok (re_str) (re_var (i := 2))) (ra_nil))))))) (rss_cons (rs_set (i := 8) sc_law_wrong_marks.nd (re_op2 op_addA fAdd_ok (re_var (i := 8)) (re_lst (ra_cons (re_op2 op_addA fAdd_ok (re_str) (re_var (i := 3))) (ra_cons (re_op2 op_addA fAdd_ok (re_op2 op_addA fAdd_ok (re_str) (re_var (i := 3))) (re_str)) (ra_cons (re_op2 op_addA fAdd_ok (re_str) (re_var (i := 3))) (ra_cons (re_op2 op_addA fAdd_ok (re_str) (re_var (i := 2))) (ra_nil)))))))) (rss_cons (rs_set (i := 8) sc_law_wrong_marks.nd (re_op2 op_addA fAdd_ok (re_var (i := 8)) (re_lst (ra_cons (re_op2 op_addA fAdd_ok (re_op2 op_addA fAdd_ok (re_str) (re_var (i := 5))) (re_str)) (ra_cons (re_op2 op_addA fAdd_ok (re_op2 op_addA fAdd_ok (re_op2 op_addA fAdd_ok (re_str) (re_var (i := 3))) (re_str)) (re_var (i := 5))) (ra_cons (re_op2 op_addA fAdd_ok (re_op2 op_addA fAdd_ok (re_op2 op_addA fAdd_ok (re_str) (re_var (i := 5))) (re_var (i := 2))) (re_str)) (ra_nil))))))) (rss_cons (rs_set (i := 8) sc_law_wrong_marks.nd (re_op2 op_addA fAdd_ok (re_var (i := 8)) (re_lst (ra_cons (re_op2 op_addA fAdd_ok (re_op2 op_addA fAdd_ok (re_op2 op_addA fAdd_ok (re_op2 op_addA fAdd_ok (re_str) (re_var (i := 5))) (re_str)) (re_var (i := 5))) (re_var (i := 2))) (ra_cons (re_op2 op_addA fAdd_ok (re_op2 op_addA fAdd_ok (re_op2 op_addA fAdd_ok (re_str) (re_var (i := 5))) (re_str)) (re_var (i := 2))) (ra_nil)))))) (rss_cons (rs_set (i := 8) sc_law_wrong_marks.nd (re_op2 op_addA fAdd_ok (re_var (i := 8)) (re_lst (ra_cons (re_op2 op_addA fAdd_ok (re_op2 op_addA fAdd_ok (re_op2 op_addA fAdd_ok (re_str) (re_var (i := 5))) (re_str)) (re_var (i := 3))) (ra_cons (re_op2 op_addA fAdd_ok (re_op2 op_addA fAdd_ok (re_op2 op_addA fAdd_ok (re_str) (re_var (i := 5))) (re_str)) (re_var (i := 3))) (ra_nil)))))) (rss_one (rs_ret (re_op2 op_addA fAdd_ok (re_var (i := 8)) (re_lst (ra_cons (re_op2 op_addA fAdd_ok (re_op2 op_addA fAdd_ok (re_op2 op_addA fAdd_ok (re_op2 op_addA fAdd_ok (re_str) (re_var (i := 5))) (re_str)) (re_var (i := 2))) (re_var (i := 5))) (ra_nil))))))))))))))))))
theorem ok_is_name (T : Txt K mg a fd e) : FnOk P w K mg base (L2.CX P w) 1 (a 7) (fd 7) ["text"] (spM K (clT e) m_is_name) :=
  fn_ok (k := 0) rfl T.F_is_name sc_is_name (fun cdv A outer s H E hr => by exact rss_one (rs_ret (re_and (re_chain op_le op_le fLe_rel fLe_rel (re_int) (re_callB call_lenA cLen_ok T.n_len PySem.boot_len (ra_cons (re_var (i := 0)) (ra_nil))) (re_int)) (re_one (re_callB (cr_all rfl) cAll_ok T.n_all PyProof.Rows.boot_all (ra_cons (re_lc (own := [("letter", 1)]) sc_is_name.nd (ri_any (re_var (i := 0))) (blkOk_by (N := N_is_name) (sc := defScope s_is_name) (by decide +kernel)) (fun _ _ _ _ _ => rgw_name (i := 1) sc_is_name.nd) (fun _ _ _ _ _ => rts_nil) (fun _ _ _ _ _ => re_cmp (op_inA hr) fIn_rel.op (re_var (i := 1)) (T.r_LETTERS) (by with_unfolding_all rfl))) (ra_nil)))))))
theorem ok_is_value (T : Txt K mg a fd e) : FnOk P w K mg base (L2.CX P w) 1 (a 8) (fd 8) ["text"] (spM K (clT e) m_is_value) :=
  fn_ok (k := 0) rfl T.F_is_value sc_is_value (fun cdv A outer s H E hr => by exact rss_one (rs_ret (re_and (re_cmp (op_eqA hr) fEq_rel.op (re_callB call_lenA cLen_ok T.n_len PySem.boot_len (ra_cons (re_var (i := 0)) (ra_nil))) (re_int)) (re_one (re_cmp (op_inA hr) fIn_rel.op (re_var (i := 0)) (T.r_DIGITS) (by with_unfolding_all rfl))))))
theorem ok_is_target (T : Txt K mg a fd e) : FnOk P w K mg base (L2.CX P w) 2 (a 9) (fd 9) ["text"] (spM K (clT e) m_is_target) :=
  fn_ok (k := 1) rfl T.F_is_target sc_is_target (fun cdv A outer s H E hr => by exact rss_cons (rs_if (rt_cmp (op_eqA hr) fEq_rel.op (re_callB call_lenA cLen_ok T.n_len PySem.boot_len (ra_cons (re_var (i := 0)) (ra_nil))) (re_int)) (rss_one (rs_ret (re_and (re_cmp (op_inA hr) fIn_rel.op (re_ix (re_var (i := 0)) (re_int)) (re_sl (T.r_DIGITS) (ro_some (re_int)) (ro_none)) (by with_unfolding_all rfl)) (re_one (re_cmp (op_inA hr) fIn_rel.op (re_ix (re_var (i := 0)) (re_int)) (T.r_DIGITS) (by with_unfolding_all rfl)))))) (rss_nil)) (rss_one (rs_ret (re_callN (ok_is_value T) (hr.mono (by decide)) T.g_is_value T.F_is_value.kp T.b_is_value (ra_cons (re_var (i := 0)) (ra_nil))))))
theorem ok_parse_row (T : Txt K mg a fd e) : FnOk P w K mg base (L2.CX P w) 3 (a 10) (fd 10) ["line"] (spM K (clT e) m_parse_row) :=
  fn_ok (k := 2) rfl T.F_parse_row sc_parse_row (fun cdv A outer s H E hr => by exact rss_cons (rs_match (re_split (re_var (i := 0)) (re_str)) (rcs_cons sc_parse_row.nd (.cons .val (.nil)) (rss_one (rs_ret (re_tup (ra_cons (re_str) (ra_nil))))) (rcs_cons sc_parse_row.nd (.cons .val (.cons (.cap (i := 1) rfl (by first | exact Or.inl rfl | exact Or.inr rfl) (by first | exact .inl rfl | exact .inr rfl)) (.nil))) (rss_one (rs_if (rt_val (re_callN (ok_is_name T) (hr.mono (by decide)) T.g_is_name T.F_is_name.kp T.b_is_name (ra_cons (re_var (i := 1)) (ra_nil)))) (rss_one (rs_ret (re_tup (ra_cons (re_str) (ra_cons (re_var (i := 1)) (ra_nil)))))) (rss_nil))) (rcs_cons sc_parse_row.nd (.cons .val (.cons (.cap (i := 2) rfl (by first | exact Or.inl rfl | exact Or.inr rfl) (by first | exact .inl rfl | exact .inr rfl)) (.nil))) (rss_one (rs_if (rt_val (re_callN (ok_is_target T) (hr.mono (by decide)) T.g_is_target T.F_is_target.kp T.b_is_target (ra_cons (re_var (i := 2)) (ra_nil)))) (rss_one (rs_ret (re_tup (ra_cons (re_str) (ra_cons (re_callTy call_intA cInt_ok T.n_int PyProof.Rows.boot_int (ra_cons (re_var (i := 2)) (ra_nil))) (ra_nil)))))) (rss_nil))) (rcs_cons sc_parse_row.nd (.cons .val (.cons (.cap (i := 3) rfl (by first | exact Or.inl rfl | exact Or.inr rfl) (by first | exact .inl rfl | exact .inr rfl)) (.cons (.cap (i := 2) rfl (by first | exact Or.inl rfl | exact Or.inr rfl) (by first | exact .inl rfl | exact .inr rfl)) (.nil)))) (rss_one (rs_if (rt_w (rw_and (rt_val (re_callN (ok_is_value T) (hr.mono (by decide)) T.g_is_value T.F_is_value.kp T.b_is_value (ra_cons (re_var (i := 3)) (ra_nil)))) (rw_and1 (rt_val (re_callN (ok_is_target T) (hr.mono (by decide)) T.g_is_target T.F_is_target.kp T.b_is_target (ra_cons (re_var (i := 2)) (ra_nil))))))) (rss_one (rs_ret (re_tup (ra_cons (re_str) (ra_cons (re_callTy call_intA cInt_ok T.n_int PyProof.Rows.boot_int (ra_cons (re_var (i := 3)) (ra_nil))) (ra_cons (re_callTy call_intA cInt_ok T.n_int PyProof.Rows.boot_int (ra_cons (re_var (i := 2)) (ra_nil))) (ra_nil))))))) (rss_nil))) (rcs_cons sc_parse_row.nd (.cons (.cap (i := 4) rfl (by first | exact Or.inl rfl | exact Or.inr rfl) (by first | exact .inl rfl | exact .inr rfl)) (.cons (.cap (i := 1) rfl (by first | exact Or.inl rfl | exact Or.inr rfl) (by first | exact .inl rfl | exact .inr rfl)) (.cons (.cap (i := 5) rfl (by first | exact Or.inl rfl | exact Or.inr rfl) (by first | exact .inl rfl | exact .inr rfl)) (.nil)))) (rss_one (rs_if (rt_w (rw_and (rt_cmp (op_inA hr) fIn_rel.op (re_var (i := 4)) (re_tup (ra_cons (re_str) (ra_cons (re_str) (ra_nil)))) (by with_unfolding_all rfl)) (rw_and1 (rt_val (re_callN (ok_is_name T) (hr.mono (by decide)) T.g_is_name T.F_is_name.kp T.b_is_name (ra_cons (re_var (i := 1)) (ra_nil))))))) (rss_cons (rs_if (rt_cmp (op_eqA hr) fEq_rel.op (re_var (i := 5)) (re_str)) (rss_one (rs_ret (re_tup (ra_cons (re_var (i := 4)) (ra_cons (re_var (i := 1)) (ra_cons (re_str) (ra_nil))))))) (rss_nil)) (rss_one (rs_if (rt_val (re_callN (ok_is_value T) (hr.mono (by decide)) T.g_is_value T.F_is_value.kp T.b_is_value (ra_cons (re_var (i := 5)) (ra_nil)))) (rss_one (rs_ret (re_tup (ra_cons (re_var (i := 4)) (ra_cons (re_var (i := 1)) (ra_cons (re_callTy call_intA cInt_ok T.n_int PyProof.Rows.boot_int (ra_cons (re_var (i := 5)) (ra_nil))) (ra_nil))))))) (rss_nil)))) (rss_nil))) (rcs_nil))))))) (rss_one (rs_raise (c := cx_InvalidText) T.O_InvalidText)))
theorem ok_law_refused (T : Txt K mg a fd e) : FnOk P w K mg base (L2.CX P w) 4 (a 11) (fd 11) ["_law_line"] (spM K (clT e) m_law_refused) :=
  fn_ok (k := 3) rfl T.F_law_refused sc_law_refused (fun cdv A outer s H E hr => by exact rss_cons (rs_tryAs (i := 1) sc_law_refused.nd ⟨rfl, by decide, .inl T.gx_InvalidText⟩ T.x_InvalidText (fun W pn xe itk hp => by exact rss_one (rs_expr (re_callN (ok_parse_row T) (hr.mono (by decide)) T.g_parse_row T.F_parse_row.kp T.b_parse_row (ra_cons (re_var (i := 0)) (ra_nil))))) (fun ea oe ec fs ed pn et hz hf => by exact rss_cons (rs_if (rt_w (rw_or (rt_val (re_isE (i := 1) (T.X_all ec (tb_InvalidText_lt et)) hz hf (pe_glob (v := .ref (e cx_InvalidLine)) rfl T.gx_InvalidLine rfl) (fun u h => h) (T.i_InvalidLine ec) T.n_isinstance)) (rw_or1 (rt_val (re_isE (i := 1) (T.X_all ec (tb_InvalidText_lt et)) hz hf (pe_glob (v := .ref (e cx_InvalidRow)) rfl T.gx_InvalidRow rfl) (fun u h => h) (T.i_InvalidRow ec) T.n_isinstance))))) (rss_one (rs_ret (re_bl))) (rss_nil)) (rss_one (rs_ret (re_and (re_isE (i := 1) (T.X_all ec (tb_InvalidText_lt et)) hz hf (pe_glob (v := .ref (e cx_ElderError)) rfl T.gx_ElderError rfl) (fun u h => h) (T.i_ElderError ec) T.n_isinstance) (re_one (re_isE (i := 1) (T.X_all ec (tb_InvalidText_lt et)) hz hf (pe_bltn (v := .ty "ValueError") rfl T.n_ValueError (by decide +kernel) rfl) (fun u h => h) (T.i_ValueError ec) T.n_isinstance))))))) (rss_one (rs_ret (re_bl))))
theorem ok_law (T : Txt K mg a fd e) : FnOk P w K mg base (L2.CX P w) 10 (a 12) (fd 12) ["_law_script"] (spM K (clT e) m_law) :=
  fn_ok (k := 9) rfl T.F_law sc_law (fun cdv A outer s H E hr => by exact rss_cons (rs_set (i := 1) sc_law.nd (re_callN (ok_law_pool T) (hr.mono (by decide)) T.g_law_pool T.F_law_pool.kp T.b_law_pool (ra_cons (re_var (i := 0)) (ra_nil)))) (rss_cons (rs_set (i := 2) sc_law.nd (re_callN (ok_law_word T) (hr.mono (by decide)) T.g_law_word T.F_law_word.kp T.b_law_word (ra_cons (re_var (i := 1)) (ra_cons (re_int) (ra_nil))))) (rss_cons (rs_set (i := 3) sc_law.nd (re_callN (ok_law_draw T) (hr.mono (by decide)) T.g_law_draw T.F_law_draw.kp T.b_law_draw (ra_cons (re_var (i := 1)) (ra_cons (re_int) (ra_cons (re_int) (ra_nil)))))) (rss_cons (rs_set (i := 4) sc_law.nd (re_ix (re_str) (re_callN (ok_law_draw T) (hr.mono (by decide)) T.g_law_draw T.F_law_draw.kp T.b_law_draw (ra_cons (re_var (i := 1)) (ra_cons (re_int) (ra_cons (re_int) (ra_nil))))))) (rss_cons (rs_set (i := 5) sc_law.nd (re_str)) (rss_cons (rs_set (i := 6) sc_law.nd (re_ix (re_var (i := 5)) (re_callN (ok_law_draw T) (hr.mono (by decide)) T.g_law_draw T.F_law_draw.kp T.b_law_draw (ra_cons (re_var (i := 1)) (ra_cons (re_int) (ra_cons (re_callB call_lenA cLen_ok T.n_len PySem.boot_len (ra_cons (re_var (i := 5)) (ra_nil))) (ra_nil))))))) (rss_cons (rs_set (i := 7) sc_law.nd (re_callN (ok_law_draw T) (hr.mono (by decide)) T.g_law_draw T.F_law_draw.kp T.b_law_draw (ra_cons (re_var (i := 1)) (ra_cons (re_int) (ra_cons (re_callB call_lenA cLen_ok T.n_len PySem.boot_len (ra_cons (re_var (i := 2)) (ra_nil))) (ra_nil)))))) (rss_cons (rs_set (i := 8) sc_law.nd (re_callN (ok_law_word T) (hr.mono (by decide)) T.g_law_word T.F_law_word.kp T.b_law_word (ra_cons (re_var (i := 1)) (ra_cons (re_int) (ra_nil))))) (rss_cons (rs_if (rt_cmp (op_inA hr) fIn_rel.op (re_var (i := 8)) (re_lst (ra_cons (re_str) (ra_cons (re_str) (ra_cons (re_str) (ra_cons (re_str) (ra_cons (re_str) (ra_cons (re_str) (ra_nil)))))))) (by with_unfolding_all rfl)) (rss_one (rs_set (i := 8) sc_law.nd (re_str))) (rss_nil)) (rss_cons (rs_set (i := 9) sc_law.nd (re_op2 op_addA fAdd_ok (re_callN (ok_law_wrong T) (hr.mono (by decide)) T.g_law_wrong T.F_law_wrong.kp T.b_law_wrong (ra_cons (re_var (i := 2)) (ra_cons (re_var (i := 3)) (ra_cons (re_var (i := 4)) (ra_nil))))) (re_callN (ok_law_wrong_words T) (hr.mono (by decide)) T.g_law_wrong_words T.F_law_wrong_words.kp T.b_law_wrong_words (ra_cons (re_var (i := 2)) (ra_cons (re_var (i := 3)) (ra_cons (re_var (i := 8)) (ra_nil))))))) (rss_cons (rs_set (i := 9) sc_law.nd (re_op2 op_addA fAdd_ok (re_var (i := 9)) (re_callN (ok_law_wrong_marks T) (hr.mono (by decide)) T.g_law_wrong_marks T.F_law_wrong_marks.kp T.b_law_wrong_marks (ra_cons (re_var (i := 2)) (ra_cons (re_var (i := 3)) (ra_cons (re_var (i := 4)) (ra_cons (re_var (i := 6)) (ra_cons (re_var (i := 7)) (ra_nil))))))))) (rss_cons (rs_for (passes_of rfl) (ri_any (re_var (i := 9))) (rg_name (i := 10) sc_law.nd) (rss_one (rs_if (rt_not (rt_val (re_callN (ok_law_refused T) (hr.mono (by decide)) T.g_law_refused T.F_law_refused.kp T.b_law_refused (ra_cons (re_var (i := 10)) (ra_nil))))) (rss_one (rs_ret (re_bl))) (rss_nil)))) (rss_cons (rs_if (rt_not (rt_val (re_callN (ok_law_same T 8) (hr.mono (by decide)) T.g_law_same T.F_law_same.kp T.b_law_same (ra_cons (re_callN (ok_parse_row T) (hr.mono (by decide)) T.g_parse_row T.F_parse_row.kp T.b_parse_row (ra_cons (re_op2 op_addA fAdd_ok (re_str) (re_var (i := 2))) (ra_nil))) (ra_cons (re_tup (ra_cons (re_str) (ra_cons (re_var (i := 2)) (ra_nil)))) (ra_nil)))))) (rss_one (rs_ret (re_bl))) (rss_nil)) (rss_cons (rs_if (rt_not (rt_val (re_callN (ok_law_same T 8) (hr.mono (by decide)) T.g_law_same T.F_law_same.kp T.b_law_same (ra_cons (re_callN (ok_parse_row T) (hr.mono (by decide)) T.g_parse_row T.F_parse_row.kp T.b_parse_row (ra_cons (re_op2 op_addA fAdd_ok (re_op2 op_addA fAdd_ok (re_op2 op_addA fAdd_ok (re_str) (re_var (i := 2))) (re_str)) (re_callTy call_strA cStr_ok T.n_str PyProof.Rows.boot_str (ra_cons (re_var (i := 3)) (ra_nil)))) (ra_nil))) (ra_cons (re_tup (ra_cons (re_str) (ra_cons (re_var (i := 2)) (ra_cons (re_var (i := 3)) (ra_nil))))) (ra_nil)))))) (rss_one (rs_ret (re_bl))) (rss_nil)) (rss_one (rs_ret (re_callN (ok_law_same T 8) (hr.mono (by decide)) T.g_law_same T.F_law_same.kp T.b_law_same (ra_cons (re_callN (ok_parse_row T) (hr.mono (by decide)) T.g_parse_row T.F_parse_row.kp T.b_parse_row (ra_cons (re_op2 op_addA fAdd_ok (re_op2 op_addA fAdd_ok (re_op2 op_addA fAdd_ok (re_str) (re_callTy call_strA cStr_ok T.n_str PyProof.Rows.boot_str (ra_cons (re_var (i := 3)) (ra_nil)))) (re_str)) (re_callTy call_strA cStr_ok T.n_str PyProof.Rows.boot_str (ra_cons (re_var (i := 3)) (ra_nil)))) (ra_nil))) (ra_cons (re_tup (ra_cons (re_str) (ra_cons (re_var (i := 3)) (ra_cons (re_op2 op_addA fAdd_ok (re_int) (re_var (i := 3))) (ra_nil))))) (ra_nil))))))))))))))))))))
end
theorem all_mk {w : World} {K : PySem.W.Frag} {h : Heap} {mg : Str → Option Value} {fa : Addr} (X : K.In h) (G : h.Ns mainGlobals mg) (hfa : mg "law" = some (.ref fa))
    {f0 f1 f2 f3 f4 f5 f6 f7 f8 f9 f10 f11 f12 : Addr}
    {od0 an0 od1 an1 od2 an2 od3 an3 od4 an4 od5 an5 od6 an6 od7 an7 od8 an8 od9 an9 od10 an10 od11 an11 od12 an12 : Option Addr}
    {sl0 sl1 sl2 sl3 sl4 sl5 sl6 sl7 sl8 sl9 sl10 sl11 sl12 : Array (Option Value)}
    {oc0 kV0 dc0 pm0 cd0 ct0 oc1 kV1 dc1 pm1 cd1 ct1 oc2 kV2 dc2 pm2 cd2 ct2 oc3 kV3 dc3 pm3 cd3 ct3 oc4 kV4 dc4 pm4 cd4 ct4 oc5 kV5 dc5 pm5 cd5 ct5 oc6 kV6 dc6 pm6 cd6 ct6 oc7 kV7 dc7 pm7 cd7 ct7 oc8 kV8 dc8 pm8 cd8 ct8 oc9 kV9 dc9 pm9 cd9 ct9 oc10 kV10 dc10 pm10 cd10 ct10 oc11 kV11 dc11 pm11 cd11 ct11 oc12 kV12 dc12 pm12 cd12 ct12 : Value}
    {t_DIGITS : Tok}
    {t_LETTERS : Tok}
    (a0 : PySem.W.nsIn K mainGlobals "_law_pool" = some (some (.ref f0))) (l0 : K.lookup f0 = some ⟨oc0, od0, .func (PySem.W.fnOf "_law_pool" "_law_pool" (defArgs s_law_pool) (defBody s_law_pool) (defScope s_law_pool) .none kV0 dc0 pm0 an0 cd0 ct0), sl0⟩) (c0 : PySem.W.codeIn K cd0 "_law_pool" = true) (k0 : PySem.W.keepIn K (.ref f0) = true)
    (a1 : PySem.W.nsIn K mainGlobals "_law_draw" = some (some (.ref f1))) (l1 : K.lookup f1 = some ⟨oc1, od1, .func (PySem.W.fnOf "_law_draw" "_law_draw" (defArgs s_law_draw) (defBody s_law_draw) (defScope s_law_draw) .none kV1 dc1 pm1 an1 cd1 ct1), sl1⟩) (c1 : PySem.W.codeIn K cd1 "_law_draw" = true) (k1 : PySem.W.keepIn K (.ref f1) = true)
    (a2 : PySem.W.nsIn K mainGlobals "_law_word" = some (some (.ref f2))) (l2 : K.lookup f2 = some ⟨oc2, od2, .func (PySem.W.fnOf "_law_word" "_law_word" (defArgs s_law_word) (defBody s_law_word) (defScope s_law_word) .none kV2 dc2 pm2 an2 cd2 ct2), sl2⟩) (c2 : PySem.W.codeIn K cd2 "_law_word" = true) (k2 : PySem.W.keepIn K (.ref f2) = true)
    (a3 : PySem.W.nsIn K mainGlobals "_law_same" = some (some (.ref f3))) (l3 : K.lookup f3 = some ⟨oc3, od3, .func (PySem.W.fnOf "_law_same" "_law_same" (defArgs s_law_same) (defBody s_law_same) (defScope s_law_same) .none kV3 dc3 pm3 an3 cd3 ct3), sl3⟩) (c3 : PySem.W.codeIn K cd3 "_law_same" = true) (k3 : PySem.W.keepIn K (.ref f3) = true)
    (a4 : PySem.W.nsIn K mainGlobals "_law_wrong" = some (some (.ref f4))) (l4 : K.lookup f4 = some ⟨oc4, od4, .func (PySem.W.fnOf "_law_wrong" "_law_wrong" (defArgs s_law_wrong) (defBody s_law_wrong) (defScope s_law_wrong) .none kV4 dc4 pm4 an4 cd4 ct4), sl4⟩) (c4 : PySem.W.codeIn K cd4 "_law_wrong" = true) (k4 : PySem.W.keepIn K (.ref f4) = true)
    (a5 : PySem.W.nsIn K mainGlobals "_law_wrong_words" = some (some (.ref f5))) (l5 : K.lookup f5 = some ⟨oc5, od5, .func (PySem.W.fnOf "_law_wrong_words" "_law_wrong_words" (defArgs s_law_wrong_words) (defBody s_law_wrong_words) (defScope s_law_wrong_words) .none kV5 dc5 pm5 an5 cd5 ct5), sl5⟩) (c5 : PySem.W.codeIn K cd5 "_law_wrong_words" = true) (k5 : PySem.W.keepIn K (.ref f5) = true)
    (a6 : PySem.W.nsIn K mainGlobals "_law_wrong_marks" = some (some (.ref f6))) (l6 : K.lookup f6 = some ⟨oc6, od6, .func (PySem.W.fnOf "_law_wrong_marks" "_law_wrong_marks" (defArgs s_law_wrong_marks) (defBody s_law_wrong_marks) (defScope s_law_wrong_marks) .none kV6 dc6 pm6 an6 cd6 ct6), sl6⟩) (c6 : PySem.W.codeIn K cd6 "_law_wrong_marks" = true) (k6 : PySem.W.keepIn K (.ref f6) = true)
    (a7 : PySem.W.nsIn K mainGlobals "is_name" = some (some (.ref f7))) (l7 : K.lookup f7 = some ⟨oc7, od7, .func (PySem.W.fnOf "is_name" "is_name" (defArgs s_is_name) (defBody s_is_name) (defScope s_is_name) .none kV7 dc7 pm7 an7 cd7 ct7), sl7⟩) (c7 : PySem.W.codeIn K cd7 "is_name" = true) (k7 : PySem.W.keepIn K (.ref f7) = true)
    (a8 : PySem.W.nsIn K mainGlobals "is_value" = some (some (.ref f8))) (l8 : K.lookup f8 = some ⟨oc8, od8, .func (PySem.W.fnOf "is_value" "is_value" (defArgs s_is_value) (defBody s_is_value) (defScope s_is_value) .none kV8 dc8 pm8 an8 cd8 ct8), sl8⟩) (c8 : PySem.W.codeIn K cd8 "is_value" = true) (k8 : PySem.W.keepIn K (.ref f8) = true)
    (a9 : PySem.W.nsIn K mainGlobals "is_target" = some (some (.ref f9))) (l9 : K.lookup f9 = some ⟨oc9, od9, .func (PySem.W.fnOf "is_target" "is_target" (defArgs s_is_target) (defBody s_is_target) (defScope s_is_target) .none kV9 dc9 pm9 an9 cd9 ct9), sl9⟩) (c9 : PySem.W.codeIn K cd9 "is_target" = true) (k9 : PySem.W.keepIn K (.ref f9) = true)
    (a10 : PySem.W.nsIn K mainGlobals "parse_row" = some (some (.ref f10))) (l10 : K.lookup f10 = some ⟨oc10, od10, .func (PySem.W.fnOf "parse_row" "parse_row" (defArgs s_parse_row) (defBody s_parse_row) (defScope s_parse_row) .none kV10 dc10 pm10 an10 cd10 ct10), sl10⟩) (c10 : PySem.W.codeIn K cd10 "parse_row" = true) (k10 : PySem.W.keepIn K (.ref f10) = true)
    (a11 : PySem.W.nsIn K mainGlobals "_law_refused" = some (some (.ref f11))) (l11 : K.lookup f11 = some ⟨oc11, od11, .func (PySem.W.fnOf "_law_refused" "_law_refused" (defArgs s_law_refused) (defBody s_law_refused) (defScope s_law_refused) .none kV11 dc11 pm11 an11 cd11 ct11), sl11⟩) (c11 : PySem.W.codeIn K cd11 "_law_refused" = true) (k11 : PySem.W.keepIn K (.ref f11) = true)
    (a12 : PySem.W.nsIn K mainGlobals "law" = some (some (.ref f12))) (l12 : K.lookup f12 = some ⟨oc12, od12, .func (PySem.W.fnOf "law" "law" (defArgs s_law) (defBody s_law) (defScope s_law) .none kV12 dc12 pm12 an12 cd12 ct12), sl12⟩) (c12 : PySem.W.codeIn K cd12 "law" = true) (k12 : PySem.W.keepIn K (.ref f12) = true)
    (z_ValueError : PySem.W.nsIn K mainGlobals "ValueError" = some none)
    (z_abs : PySem.W.nsIn K mainGlobals "abs" = some none)
    (z_all : PySem.W.nsIn K mainGlobals "all" = some none)
    (z_bool : PySem.W.nsIn K mainGlobals "bool" = some none)
    (z_int : PySem.W.nsIn K mainGlobals "int" = some none)
    (z_isinstance : PySem.W.nsIn K mainGlobals "isinstance" = some none)
    (z_len : PySem.W.nsIn K mainGlobals "len" = some none)
    (z_list : PySem.W.nsIn K mainGlobals "list" = some none)
    (z_range : PySem.W.nsIn K mainGlobals "range" = some none)
    (z_str : PySem.W.nsIn K mainGlobals "str" = some none)
    (z_sum : PySem.W.nsIn K mainGlobals "sum" = some none)
    (z_tuple : PySem.W.nsIn K mainGlobals "tuple" = some none)
    (y_DIGITS : PySem.W.nsIn K mainGlobals "DIGITS" = some (some (.str "0123456789" t_DIGITS)))
    (y_LETTERS : PySem.W.nsIn K mainGlobals "LETTERS" = some (some (.str "abcdefghijklmnopqrstuvwxyz" t_LETTERS)))
    {C0 C1 C2 C3 : Addr}
    (uC0 : PySem.W.nsIn K mainGlobals "InvalidText" = some (some (.ref C0)))
    (tC0 : PySem.W.typeIn K (.ref C0) = some (.type "type"))
    (lC0 : PySem.W.isClsIn K C0 = true)
    (pp0 : PySem.W.subIn K (.ref C0) (.ref C0) = some true)
    (bC0 : PySem.W.subIn K (.ref C0) (.type "BaseException") = some true)
    (uC1 : PySem.W.nsIn K mainGlobals "ElderError" = some (some (.ref C1)))
    (tC1 : PySem.W.typeIn K (.ref C1) = some (.type "type"))
    (lC1 : PySem.W.isClsIn K C1 = true)
    (pp1 : PySem.W.subIn K (.ref C1) (.ref C1) = some true)
    (bC1 : PySem.W.subIn K (.ref C1) (.type "BaseException") = some true)
    (uC2 : PySem.W.nsIn K mainGlobals "InvalidLine" = some (some (.ref C2)))
    (tC2 : PySem.W.typeIn K (.ref C2) = some (.type "type"))
    (lC2 : PySem.W.isClsIn K C2 = true)
    (pp2 : PySem.W.subIn K (.ref C2) (.ref C2) = some true)
    (bC2 : PySem.W.subIn K (.ref C2) (.type "BaseException") = some true)
    (uC3 : PySem.W.nsIn K mainGlobals "InvalidRow" = some (some (.ref C3)))
    (tC3 : PySem.W.typeIn K (.ref C3) = some (.type "type"))
    (lC3 : PySem.W.isClsIn K C3 = true)
    (pp3 : PySem.W.subIn K (.ref C3) (.ref C3) = some true)
    (bC3 : PySem.W.subIn K (.ref C3) (.type "BaseException") = some true)
    (qC0 : PySem.W.excIn K C0 veBm "ValueError.__new__" = true)
    (kC0 : PySem.W.keepIn K (.ref C0) = true)
    (gaC0 : PySem.W.findIn K (.ref C0) "__getattribute__" = some (some (.builtin "BaseException.__getattribute__")))
    (ggC0 : PySem.W.findIn K (.ref C0) "__getattr__" = some none)
    (hdC0 : PySem.W.hasDictIn K C0 = true)
    (caC0 : PySem.W.findIn K (.ref C0) "__class__" = some (some (.builtin "object.__class__")))
    (hmC0 : PySem.W.mroIn K C0 (.type "object") = some true)
    (p0_0 : PySem.W.subIn K (.ref C0) (.ref C0) = some true)
    (p0_1 : PySem.W.subIn K (.ref C0) (.ref C1) = some true)
    (pv0 : PySem.W.subIn K (.ref C0) (.type "ValueError") = some true)
    (p0_2 : PySem.W.subIn K (.ref C0) (.ref C2) = some false)
    (p0_3 : PySem.W.subIn K (.ref C0) (.ref C3) = some false)
    (snC : PySem.W.specialIn K (.builtin "object.__class__") "__get__" = some (some (.builtin "getset_descriptor.__get__")))
    (htC : PySem.W.takesIn K (.builtin "object.__class__") = some true)
    : ∃ fd : FuncData, (∀ (s : Shared) (u : Value), BindsTo s fd ⟨[u], []⟩ [("_law_script", u)]) ∧ ∀ base : Heap, K.In base → base.Ns mainGlobals mg → FnOk PySem.Challenge.rw_elderreads_k02_wrong_lines.prog w K mg base (L2.CX PySem.Challenge.rw_elderreads_k02_wrong_lines.prog w) 10 fa fd ["_law_script"] (spA K m_law) := by
  have e := hfa.symm.trans (PySem.W.mg_of X G a12)
  cases e
  have F0 := fun_mk (st := s_law_pool) l0 c0 k0
  have F1 := fun_mk (st := s_law_draw) l1 c1 k1
  have F2 := fun_mk (st := s_law_word) l2 c2 k2
  have F3 := fun_mk (st := s_law_same) l3 c3 k3
  have F4 := fun_mk (st := s_law_wrong) l4 c4 k4
  have F5 := fun_mk (st := s_law_wrong_words) l5 c5 k5
  have F6 := fun_mk (st := s_law_wrong_marks) l6 c6 k6
  have F7 := fun_mk (st := s_is_name) l7 c7 k7
  have F8 := fun_mk (st := s_is_value) l8 c8 k8
  have F9 := fun_mk (st := s_is_target) l9 c9 k9
  have F10 := fun_mk (st := s_parse_row) l10 c10 k10
  have F11 := fun_mk (st := s_law_refused) l11 c11 k11
  have F12 := fun_mk (st := s_law) l12 c12 k12
  let ad : Nat → Addr := fun n => [f0, f1, f2, f3, f4, f5, f6, f7, f8, f9, f10, f11, fa].getD n 0
  let fds : Nat → FuncData := fun n => [PySem.W.fnOf "_law_pool" "_law_pool" (defArgs s_law_pool) (defBody s_law_pool) (defScope s_law_pool) .none kV0 dc0 pm0 an0 cd0 ct0, PySem.W.fnOf "_law_draw" "_law_draw" (defArgs s_law_draw) (defBody s_law_draw) (defScope s_law_draw) .none kV1 dc1 pm1 an1 cd1 ct1, PySem.W.fnOf "_law_word" "_law_word" (defArgs s_law_word) (defBody s_law_word) (defScope s_law_word) .none kV2 dc2 pm2 an2 cd2 ct2, PySem.W.fnOf "_law_same" "_law_same" (defArgs s_law_same) (defBody s_law_same) (defScope s_law_same) .none kV3 dc3 pm3 an3 cd3 ct3, PySem.W.fnOf "_law_wrong" "_law_wrong" (defArgs s_law_wrong) (defBody s_law_wrong) (defScope s_law_wrong) .none kV4 dc4 pm4 an4 cd4 ct4, PySem.W.fnOf "_law_wrong_words" "_law_wrong_words" (defArgs s_law_wrong_words) (defBody s_law_wrong_words) (defScope s_law_wrong_words) .none kV5 dc5 pm5 an5 cd5 ct5, PySem.W.fnOf "_law_wrong_marks" "_law_wrong_marks" (defArgs s_law_wrong_marks) (defBody s_law_wrong_marks) (defScope s_law_wrong_marks) .none kV6 dc6 pm6 an6 cd6 ct6, PySem.W.fnOf "is_name" "is_name" (defArgs s_is_name) (defBody s_is_name) (defScope s_is_name) .none kV7 dc7 pm7 an7 cd7 ct7, PySem.W.fnOf "is_value" "is_value" (defArgs s_is_value) (defBody s_is_value) (defScope s_is_value) .none kV8 dc8 pm8 an8 cd8 ct8, PySem.W.fnOf "is_target" "is_target" (defArgs s_is_target) (defBody s_is_target) (defScope s_is_target) .none kV9 dc9 pm9 an9 cd9 ct9, PySem.W.fnOf "parse_row" "parse_row" (defArgs s_parse_row) (defBody s_parse_row) (defScope s_parse_row) .none kV10 dc10 pm10 an10 cd10 ct10, PySem.W.fnOf "_law_refused" "_law_refused" (defArgs s_law_refused) (defBody s_law_refused) (defScope s_law_refused) .none kV11 dc11 pm11 an11 cd11 ct11, PySem.W.fnOf "law" "law" (defArgs s_law) (defBody s_law) (defScope s_law) .none kV12 dc12 pm12 an12 cd12 ct12].getD n (PySem.W.fnOf "" "" (defArgs s_law) [] (defScope s_law) .none .none .none .none none .none .none)
  let ex : Nat → Addr := fun n => [C0, C1, C2, C3].getD n 0
  have T : Txt K mg ad fds ex := {
    O_InvalidText := ⟨qC0, PySem.W.mg_of X G uC0, kC0, bC0, tC0⟩
    X_all := fun c h => match c, h with | 0, _ => ⟨lC0, gaC0, ggC0, bC0, hdC0, caC0, snC, htC, hmC0⟩ | (n + 1), h => absurd h (by omega)
    gx_InvalidText := PySem.W.mg_of X G uC0
    x_InvalidText := fun c b h => match c, h with | 0, h => by cases (show some true = some b from h); exact exm1 bC0 lC0 tC0 p0_0 | (n + 1), h => by cases (show (none : Option Bool) = some b from h)
    i_InvalidText := fun c b h => match c, h with | 0, h => by cases (show some true = some b from h); exact kit1 lC0 tC0 p0_0 (fun _ => rfl) | (n + 1), h => by cases (show (none : Option Bool) = some b from h)
    gx_ElderError := PySem.W.mg_of X G uC1
    x_ElderError := fun c b h => match c, h with | 0, h => by cases (show some true = some b from h); exact exm1 bC1 lC1 tC1 p0_1 | (n + 1), h => by cases (show (none : Option Bool) = some b from h)
    i_ElderError := fun c b h => match c, h with | 0, h => by cases (show some true = some b from h); exact kit1 lC1 tC1 p0_1 (fun _ => rfl) | (n + 1), h => by cases (show (none : Option Bool) = some b from h)
    i_ValueError := fun c b h => match c, h with | 0, h => by cases (show some true = some b from h); exact kitT (by decide +kernel) pv0 | (n + 1), h => by cases (show (none : Option Bool) = some b from h)
    gx_InvalidLine := PySem.W.mg_of X G uC2
    x_InvalidLine := fun c b h => match c, h with | 0, h => by cases (show some false = some b from h); exact exm1 bC2 lC2 tC2 p0_2 | (n + 1), h => by cases (show (none : Option Bool) = some b from h)
    i_InvalidLine := fun c b h => match c, h with | 0, h => by cases (show some false = some b from h); exact kit1 lC2 tC2 p0_2 (subne pp2 p0_2) | (n + 1), h => by cases (show (none : Option Bool) = some b from h)
    gx_InvalidRow := PySem.W.mg_of X G uC3
    x_InvalidRow := fun c b h => match c, h with | 0, h => by cases (show some false = some b from h); exact exm1 bC3 lC3 tC3 p0_3 | (n + 1), h => by cases (show (none : Option Bool) = some b from h)
    i_InvalidRow := fun c b h => match c, h with | 0, h => by cases (show some false = some b from h); exact kit1 lC3 tC3 p0_3 (subne pp3 p0_3) | (n + 1), h => by cases (show (none : Option Bool) = some b from h)
    n_ValueError := PySem.W.mg_none_of X G z_ValueError
    n_abs := PySem.W.mg_none_of X G z_abs
    n_all := PySem.W.mg_none_of X G z_all
    n_bool := PySem.W.mg_none_of X G z_bool
    n_int := PySem.W.mg_none_of X G z_int
    n_isinstance := PySem.W.mg_none_of X G z_isinstance
    n_len := PySem.W.mg_none_of X G z_len
    n_list := PySem.W.mg_none_of X G z_list
    n_range := PySem.W.mg_none_of X G z_range
    n_str := PySem.W.mg_none_of X G z_str
    n_sum := PySem.W.mg_none_of X G z_sum
    n_tuple := PySem.W.mg_none_of X G z_tuple
    c_DIGITS := ⟨_, PySem.W.mg_of X G y_DIGITS⟩
    c_LETTERS := ⟨_, PySem.W.mg_of X G y_LETTERS⟩
    F_law_pool := F0
    g_law_pool := PySem.W.mg_of X G a0
    b_law_pool := F0.binds (ps := ["_law_script"]) fun _ _ _ _ _ _ us hl => match us, hl with | [_], _ => rfl
    F_law_draw := F1
    g_law_draw := PySem.W.mg_of X G a1
    b_law_draw := F1.binds (ps := ["_law_draws", "_law_k", "_law_many"]) fun _ _ _ _ _ _ us hl => match us, hl with | [_, _, _], _ => rfl
    F_law_word := F2
    g_law_word := PySem.W.mg_of X G a2
    b_law_word := F2.binds (ps := ["_law_draws", "_law_at"]) fun _ _ _ _ _ _ us hl => match us, hl with | [_, _], _ => rfl
    F_law_same := F3
    g_law_same := PySem.W.mg_of X G a3
    b_law_same := F3.binds (ps := ["_law_actual", "_law_due"]) fun _ _ _ _ _ _ us hl => match us, hl with | [_, _], _ => rfl
    F_law_wrong := F4
    g_law_wrong := PySem.W.mg_of X G a4
    b_law_wrong := F4.binds (ps := ["_law_name", "_law_digit", "_law_letter"]) fun _ _ _ _ _ _ us hl => match us, hl with | [_, _, _], _ => rfl
    F_law_wrong_words := F5
    g_law_wrong_words := PySem.W.mg_of X G a5
    b_law_wrong_words := F5.binds (ps := ["_law_name", "_law_digit", "_law_word_here"]) fun _ _ _ _ _ _ us hl => match us, hl with | [_, _, _], _ => rfl
    F_law_wrong_marks := F6
    g_law_wrong_marks := PySem.W.mg_of X G a6
    b_law_wrong_marks := F6.binds (ps := ["_law_name", "_law_digit", "_law_letter", "_law_mark", "_law_place"]) fun _ _ _ _ _ _ us hl => match us, hl with | [_, _, _, _, _], _ => rfl
    F_is_name := F7
    g_is_name := PySem.W.mg_of X G a7
    b_is_name := F7.binds (ps := ["text"]) fun _ _ _ _ _ _ us hl => match us, hl with | [_], _ => rfl
    F_is_value := F8
    g_is_value := PySem.W.mg_of X G a8
    b_is_value := F8.binds (ps := ["text"]) fun _ _ _ _ _ _ us hl => match us, hl with | [_], _ => rfl
    F_is_target := F9
    g_is_target := PySem.W.mg_of X G a9
    b_is_target := F9.binds (ps := ["text"]) fun _ _ _ _ _ _ us hl => match us, hl with | [_], _ => rfl
    F_parse_row := F10
    g_parse_row := PySem.W.mg_of X G a10
    b_parse_row := F10.binds (ps := ["line"]) fun _ _ _ _ _ _ us hl => match us, hl with | [_], _ => rfl
    F_law_refused := F11
    g_law_refused := PySem.W.mg_of X G a11
    b_law_refused := F11.binds (ps := ["_law_line"]) fun _ _ _ _ _ _ us hl => match us, hl with | [_], _ => rfl
    F_law := F12
    g_law := PySem.W.mg_of X G a12
    b_law := F12.binds (ps := ["_law_script"]) fun _ _ _ _ _ _ us hl => match us, hl with | [_], _ => rfl
  }
  exact ⟨fds 12, fun s u => .of_eq rfl, fun base _ _ => (ok_law T).imp fun _ _ _ _ h => h _⟩
end Lw
namespace Lw
open PySem L2 Mi
theorem draw_ev {l : List Int} {k many : Int} {S : Store} (hk : 0 ≤ k) (hm : 0 < many) : m_law_draw [.lst (l.map .int), .int k, .int many] S = some (.ok (.int (drawF l k many)), S) := by
  unfold m_law_draw b_law_draw
  by_cases h : k < l.length
  · have e := atI_ints hk h
    simp [h, e, v_mod, hm, drawF]
  · simp [-List.map_take, h, v_mod, v_mul, hm, drawF, cut40, v_sum]
/-! ### the pool: some ints -/
theorem bd0_ev {a : List Int} {o0 o2 o4 o5 : Option D} {r : Int} (h : a.length < 10000) : ∃ (a' : List Int) (r' : Int), a'.length ≤ a.length + 1 ∧
    bd_law_pool_0 [o0, some (.ref 0), o2, some (.int r), o4, o5] [.lst (a.map .int)] = some (.nx [o0, some (.ref 0), o2, some (.int r'), o4, o5], [.lst (a'.map .int)]) := by
  by_cases hr : 0 < r
  · refine ⟨a ++ [r % 840], r / 840, by simp, ?_⟩
    have hz : szOk (a.length + 1) = true := sz_ok (by omega)
    simp [bd_law_pool_0, hr, v_mod, v_div, atC, hz]
  · exact ⟨a, r, by omega, by simp [bd_law_pool_0, hr]⟩
theorem bd1_ev {a : List Int} {o0 o3 o5 : Option D} {c k : Int} (h : a.length < 10000) (hk : 0 ≤ k ∧ k < 6) : ∃ (a' : List Int) (o5' : Option D), a'.length ≤ a.length + 1 ∧
    bd_law_pool_1 [o0, some (.ref 0), some (.int c), o3, some (.int k), o5] [.lst (a.map .int)] = some (.nx [o0, some (.ref 0), some (.int c), o3, some (.int k), o5'], [.lst (a'.map .int)]) := by
  have h0 : 0 ≤ (c * 48271 + k * 69621 + 17) % 2147483647 := Int.emod_nonneg _ (by decide)
  have h1 : (c * 48271 + k * 69621 + 17) % 2147483647 < 2147483647 := Int.emod_lt_of_pos _ (by decide)
  generalize hone : (c * 48271 + k * 69621 + 17) % 2147483647 = one at h0 h1
  refine ⟨a ++ [(one * one + one * 31 + k) % 1000003 % 840], some (.int one), by simp, ?_⟩
  have e1 : ∀ S, fMul S (.int one) (.int one) = some (.int (one * one)) := fun S => v_mul S _ _ (.inl ⟨by omega, by omega⟩)
  have hz : szOk (a.length + 1) = true := sz_ok (by omega)
  simp [bd_law_pool_1, v_mul, v_mod, hone, e1, atC, hz]
def Pst (o0 : Option D) (n : Nat) (g : Gm) (S : Store) : Prop := ∃ (a : List Int) (o2 o3 o4 o5 : Option D), a.length ≤ n ∧ g = [o0, some (.ref 0), o2, o3, o4, o5] ∧ S = [.lst (a.map .int)]
theorem in60 {a : List Int} {o0 o2 o4 o5 : Option D} {r : Int} (h : a.length < 9000) : ∃ g' S', forGo (rngD 0 60, none) (bN 4) bd_law_pool_0 (rngD 0 60) [o0, some (.ref 0), o2, some (.int r), o4, o5] [.lst (a.map .int)] = some (.nx g', S') ∧ Pst o0 (a.length + 60) g' S' := by
  obtain ⟨g', S', e, a', r', o', h1, h2, h3⟩ := forGo_all (src := (rngD 0 60, none)) (b := bN 4) (body := bd_law_pool_0)
    (fun ds g S => ∃ (a' : List Int) (r' : Int) (o' : Option D), a'.length + ds.length ≤ a.length + 60 ∧ g = [o0, some (.ref 0), o2, some (.int r'), o', o5] ∧ S = [.lst (a'.map .int)])
    (fun d ds g S ⟨a', r', o', h1, h2, h3⟩ => by
      subst h2 h3
      simp only [List.length_cons] at h1
      obtain ⟨b, r2, h4, h5⟩ := bd0_ev (a := a') (o0 := o0) (o2 := o2) (o4 := some d) (o5 := o5) (r := r') (by omega)
      exact ⟨trivial, _, _, _, rfl, .inl h5, b, r2, _, by omega, rfl, rfl⟩) (fun g S _ => trivial) (rngD 0 60) _ _ ⟨a, r, o4, by simp [rngD], rfl, rfl⟩
  exact ⟨g', S', e, a', _, _, _, _, by simpa using h1, h2, h3⟩
theorem in6 {a : List Int} {o0 o3 o4 o5 : Option D} {c : Int} (h : a.length < 9000) : ∃ g' S', forGo (rngD 0 6, none) (bN 4) bd_law_pool_1 (rngD 0 6) [o0, some (.ref 0), some (.int c), o3, o4, o5] [.lst (a.map .int)] = some (.nx g', S') ∧ Pst o0 (a.length + 60) g' S' := by
  obtain ⟨g', S', e, a', o4', o5', h1, h2, h3, _⟩ := forGo_all (src := (rngD 0 6, none)) (b := bN 4) (body := bd_law_pool_1)
    (fun ds g S => ∃ (a' : List Int) (o4' o5' : Option D), a'.length + ds.length ≤ a.length + 6 ∧ g = [o0, some (.ref 0), some (.int c), o3, o4', o5'] ∧ S = [.lst (a'.map .int)] ∧ ∀ d ∈ ds, ∃ k : Int, d = .int k ∧ 0 ≤ k ∧ k < 6)
    (fun d ds g S ⟨a', o4', o5', h1, h2, h3, h4⟩ => by
      subst h2 h3
      simp only [List.length_cons] at h1
      obtain ⟨k, rfl, hk⟩ := h4 d List.mem_cons_self
      obtain ⟨b, o, h5, h6⟩ := bd1_ev (a := a') (o0 := o0) (o3 := o3) (c := c) (k := k) (o5 := o5') (by omega) hk
      exact ⟨trivial, _, _, _, rfl, .inl h6, b, _, _, by omega, rfl, rfl, fun x hx => h4 x (List.mem_cons_of_mem _ hx)⟩) (fun g S _ => trivial) (rngD 0 6) _ _ ⟨a, o4, o5, by simp [rngD], rfl, rfl, fun d hd => by
        simp only [rngD, List.mem_map, List.mem_range] at hd
        obtain ⟨i, hi, rfl⟩ := hd
        exact ⟨i, by simp, by omega, by omega⟩⟩
  exact ⟨g', S', e, a', _, _, _, _, by simp at h1; omega, h2, h3⟩
theorem bd2_ev {o0 : Option D} {n : Nat} {g : Gm} {S : Store} {c : Int} (hn : n < 9000) (h : Pst o0 n g S) : ∃ g2 S2, bd_law_pool_2 (g.set 2 (some (.int c))) S = some (.nx g2, S2) ∧ Pst o0 (n + 60) g2 S2 := by
  obtain ⟨a, o2, o3, o4, o5, h1, rfl, rfl⟩ := h
  by_cases hc : (10 : Int) ^ 18 ≤ (if c < 0 then -c else c)
  · obtain ⟨g', S', e, b, p2, p3, p4, p5, q1, q2, q3⟩ := in60 (a := a) (o0 := o0) (o2 := some (.int c)) (o4 := o4) (o5 := o5) (r := if c < 0 then -c else c) (by omega)
    refine ⟨g', S', ?_, b, p2, p3, p4, p5, by omega, q2, q3⟩
    have hc' : (1000000000000000000 : Int) ≤ (if c < 0 then -c else c) := hc
    simp [bd_law_pool_2, v_pow, hc', big_ok, e]
  · obtain ⟨g', S', e, b, p2, p3, p4, p5, q1, q2, q3⟩ := in6 (a := a) (o0 := o0) (c := c) (o3 := some (.int (if c < 0 then -c else c))) (o4 := o4) (o5 := o5) (by omega)
    refine ⟨g', S', ?_, b, p2, p3, p4, p5, by omega, q2, q3⟩
    have hc' : ¬ (1000000000000000000 : Int) ≤ (if c < 0 then -c else c) := hc
    simp [bd_law_pool_2, v_pow, hc', big_ok, e]
theorem pool_ev (ns : List Int) (h : ns.length ≤ 63) : ∃ p : List Int, m_law_pool [.scr ns] [] = some (.ok (.lst (p.map .int)), []) := by
  obtain ⟨g', S', e, h1, _⟩ := forGo_all (src := (ns.map D.int, none)) (b := bN 2) (body := bd_law_pool_2)
    (fun ds g S => Pst (some (.scr ns)) (60 * (63 - ds.length)) g S ∧ ds.length ≤ 63 ∧ ∀ d ∈ ds, ∃ c, d = .int c)
    (fun d ds g S ⟨h1, h2, h3⟩ => by
      obtain ⟨c, rfl⟩ := h3 d List.mem_cons_self
      simp only [List.length_cons] at h1 h2
      obtain ⟨g2, S2, e2, a, p2, p3, p4, p5, q1, q2, q3⟩ := bd2_ev (c := c) (by omega) h1
      exact ⟨trivial, _, g2, S2, rfl, .inl e2, ⟨a, p2, p3, p4, p5, by omega, q2, q3⟩, by omega, fun x hx => h3 x (List.mem_cons_of_mem _ hx)⟩) (fun g S _ => trivial) (ns.map D.int) [some (.scr ns), some (.ref 0), none, none, none, none] [.lst []]
    ⟨⟨[], _, _, _, _, by simp, rfl, rfl⟩, by simpa using h, fun d hd => by
      obtain ⟨c, _, rfl⟩ := List.mem_map.mp hd
      exact ⟨c, rfl⟩⟩
  obtain ⟨a, p2, p3, p4, p5, q1, rfl, rfl⟩ := h1
  refine ⟨a, ?_⟩
  unfold m_law_pool b_law_pool mTrim
  simp [sz_ok, e, atC, refsLt, refsLts_ints]
end Lw
namespace Lw
open PySem L2 Mi
/-! ### same: a thing and itself -/
mutual
noncomputable def sOk : D → Bool
  | .tup l => szOk l.length && sOks l
  | .lst l => szOk l.length && sOks l
  | .scr _ => false
  | .ref _ => false
  | _ => true
noncomputable def sOks : List D → Bool
  | [] => true
  | d :: ds => sOk d && sOks ds
end
mutual
def dep : D → Nat
  | .tup l => deps l + 1
  | .lst l => deps l + 1
  | _ => 0
def deps : List D → Nat
  | [] => 0
  | d :: ds => max (dep d) (deps ds)
end
theorem sOks_mem : ∀ {l : List D} {d : D}, sOks l = true → d ∈ l → sOk d = true
  | d :: l, x, h, m => by
    simp only [sOks, Bool.and_eq_true] at h
    rcases List.mem_cons.mp m with rfl | m
    · exact h.1
    · exact sOks_mem h.2 m
theorem deps_mem : ∀ {l : List D} {d : D}, d ∈ l → dep d ≤ deps l
  | d :: l, x, m => by
    simp only [deps]
    rcases List.mem_cons.mp m with rfl | m
    · omega
    · have := deps_mem m; omega
theorem eqB_bl (S : Store) (a b : Bool) : eqB S (.bl a) (.bl b) = some (decide (a = b)) := by
  show (if scal (.bl a) (.bl b) = true then some (decide (V.bl a = V.bl b)) else none) = _
  rw [if_pos (show scal (.bl a) (.bl b) = true from rfl)]; simp
theorem eqB_int (S : Store) (a b : Int) : eqB S (.int a) (.int b) = some (decide (a = b)) := by
  show (if scal (.int a) (.int b) = true then some (decide (V.int a = V.int b)) else none) = _
  rw [if_pos (show scal (.int a) (.int b) = true from rfl)]; simp
theorem eqB_str (S : Store) (a b : Str) : eqB S (.str a) (.str b) = some (decide (a = b)) := by
  show (if scal (.str a) (.str b) = true then some (decide (V.str a = V.str b)) else none) = _
  rw [if_pos (show scal (.str a) (.str b) = true from rfl)]; simp
@[simp] theorem v_eqI (S : Store) (a b : Int) : fEq S (.int a) (.int b) = some (.bl (decide (a = b))) := by simp [fEq, eqB_int]
@[simp] theorem v_neI (S : Store) (a b : Int) : fNe S (.int a) (.int b) = some (.bl (!decide (a = b))) := by simp [fNe, eqB_int]
@[simp] theorem v_eqB (S : Store) (a b : Bool) : fEq S (.bl a) (.bl b) = some (.bl (decide (a = b))) := by simp [fEq, eqB_bl]
@[simp] theorem v_neB (S : Store) (a b : Bool) : fNe S (.bl a) (.bl b) = some (.bl (!decide (a = b))) := by simp [fNe, eqB_bl]
@[simp] theorem v_eqS (S : Store) (a b : Str) : fEq S (.str a) (.str b) = some (.bl (decide (a = b))) := by simp [fEq, eqB_str]
@[simp] theorem v_neS (S : Store) (a b : Str) : fNe S (.str a) (.str b) = some (.bl (!decide (a = b))) := by simp [fNe, eqB_str]
theorem alls (S : Store) (m : Nat) : cAll S [.lst (List.replicate m (.bl true))] = some (.bl true) := by
  have := v_all S (List.replicate m true)
  rw [List.map_replicate] at this
  rw [this]; simp
theorem same_seq {S : Store} {n : Nat} (ih : ∀ (d : D), dep d < n → sOk d = true → m_law_same n [d, d] S = some (.ok (.bl true), S)) (l : List D) (hz : szOk l.length = true) (hs : sOks l = true) (hd : deps l < n) (C : List D → D) (hC : ∀ l i, fIx S (C l) (.int i) = atI l i) (hL : cLen S [C l] = some (.int l.length)) :
        mLc [2] (mRng (mCons (mOpA cLen (mCons (mVar 1) mNil)) mNil)) (bN 2) (mP true) (mCall (m_law_same n) (mCons (mOp2 fIx (mVar 0) (mVar 2)) (mCons (mOp2 fIx (mVar 1) (mVar 2)) mNil))) [some (C l), some (C l), none] S = some (.ok (.lst (List.replicate l.length (D.bl true))), S) := by
  have hb : big62 (l.length : Int) = true := big_ok (by have := sz_iff.mp hz; omega)
  refine v_lc (S1 := S) (src := (rngD 0 l.length, none)) (by simp [hb, hL]) ?_
  rw [lcGo_map (src := (rngD 0 l.length, none)) (fun _ => .bl true) True.intro]
  · simp [rngD, List.eq_replicate_iff]
  · intro d hd'
    simp only [rngD, List.mem_map, List.mem_range] at hd'
    obtain ⟨i, hi, rfl⟩ := hd'
    refine ⟨_, rfl, ?_⟩
    have hx : atI l ((0 : Int) + (i : Int)) = some l[i] := atI_natD (by omega) hi
    have hm := List.getElem_mem hi
    have r := ih l[i] (by have := deps_mem hm; omega) (sOks_mem hs hm)
    rw [Int.zero_add] at hx
    simp [wipeG, hC, hx, r]
  · simp [rngD]; exact sz_iff.mp hz
theorem same_tup {S : Store} {n : Nat} (l : List D) (e : mLc [2] (mRng (mCons (mOpA cLen (mCons (mVar 1) mNil)) mNil)) (bN 2) (mP true) (mCall (m_law_same n) (mCons (mOp2 fIx (mVar 0) (mVar 2)) (mCons (mOp2 fIx (mVar 1) (mVar 2)) mNil))) [some (.tup l), some (.tup l), none] S = some (.ok (.lst (List.replicate l.length (D.bl true))), S)) : m_law_same (n + 1) [.tup l, .tup l] S = some (.ok (.bl true), S) := by
  simp [m_law_same, b_law_same, fIsi, isiB, tyN, e, alls]
theorem same_lst {S : Store} {n : Nat} (l : List D) (e : mLc [2] (mRng (mCons (mOpA cLen (mCons (mVar 1) mNil)) mNil)) (bN 2) (mP true) (mCall (m_law_same n) (mCons (mOp2 fIx (mVar 0) (mVar 2)) (mCons (mOp2 fIx (mVar 1) (mVar 2)) mNil))) [some (.lst l), some (.lst l), none] S = some (.ok (.lst (List.replicate l.length (D.bl true))), S)) : m_law_same (n + 1) [.lst l, .lst l] S = some (.ok (.bl true), S) := by
  simp [m_law_same, b_law_same, fIsi, isiB, tyN, e, alls]
theorem same_refl {S : Store} (n : Nat) : ∀ (d : D), dep d < n → sOk d = true → m_law_same n [d, d] S = some (.ok (.bl true), S) := by
  induction n with
  | zero => intro d h _; omega
  | succ n ih =>
    intro d h k
    cases d with
    | tup l =>
      simp only [sOk, Bool.and_eq_true] at k
      simp only [dep] at h
      exact same_tup l (same_seq ih l k.1 k.2 (by omega) D.tup (fun _ _ => rfl) rfl)
    | lst l =>
      simp only [sOk, Bool.and_eq_true] at k
      simp only [dep] at h
      exact same_lst l (same_seq ih l k.1 k.2 (by omega) D.lst (fun _ _ => rfl) rfl)
    | non => simp [m_law_same, b_law_same, fIsi, isiB, tyN, fIsN, isNon]
    | bl b => simp [m_law_same, b_law_same, fIsi, isiB, tyN, fIsN, isNon]
    | int b => simp [m_law_same, b_law_same, fIsi, isiB, tyN, fIsN, isNon]
    | str b => simp [m_law_same, b_law_same, fIsi, isiB, tyN, fIsN, isNon]
    | scr b => simp [sOk] at k
    | ref b => simp [sOk] at k
end Lw
namespace Lw
open PySem L2 Mi TL
/-! ### texts -/
def mkS (l : List Nat) : Str := ⟨l.toArray⟩
theorem tl_mkS (l : List Nat) : tl (mkS l) = l := rfl
theorem len_mkS (l : List Nat) : (mkS l).length = l.length := by simp [mkS, Str.length]
theorem joinL_one : ∀ l : List Nat, joinL [] (l.map fun c => [c]) = l
  | [] => rfl
  | [c] => rfl
  | c :: d :: l => by
    show [c] ++ ([] ++ joinL [] ((d :: l).map fun c => [c])) = _
    rw [joinL_one (d :: l)]; rfl
theorem join_chars (l : List Nat) : Txt.join "" (l.map fun c => mkS [c]) = mkS l := by
  refine ext_tl ?_
  rw [join_eq, tl_join, tl_mkS, List.map_map]
  have e : tl ("" : Str) = [] := by decide +kernel
  rw [e]
  exact joinL_one l
abbrev abc : Str := "abcdefghijklmnopqrstuvwxyz"
abbrev digs : Str := "0123456789"
theorem abc_cps : tl abc = (List.range 26).map (97 + ·) := by decide +kernel
theorem digs_cps : tl digs = (List.range 10).map (48 + ·) := by decide +kernel
theorem ix_abc {S : Store} {i : Int} (h0 : 0 ≤ i) (h1 : i < 26) : fIx S (.str abc) (.int i) = some (.str (mkS [97 + i.toNat])) := by
  have hz : szOk abc.length = true := sz_ok (by decide +kernel)
  show (if szOk abc.length = true then (atI abc.cps.toList i).map _ else none) = _
  rw [if_pos hz]
  have e : i = (i.toNat : Nat) := by omega
  have hj : i.toNat < 26 := by omega
  rw [e, atI_nat (v := 97 + i.toNat)]
  · rfl
  · show (tl abc)[i.toNat]? = _
    rw [abc_cps]; simp [hj]
/-- the word -/
def wordF (l : List Int) (at_ : Int) : List Nat := (List.range (1 + drawF l at_ 6).toNat).map fun (i : Nat) => 97 + (drawF l (at_ + 1 + (i : Int)) 26).toNat
theorem word_ev {l : List Int} {at_ : Int} {S : Store} (h : 0 ≤ at_) : m_law_word [.lst (l.map .int), .int at_] S = some (.ok (.str (mkS (wordF l at_))), S) := by
  have d0 := drawF_ge l at_ (many := 6) (by decide)
  have d1 := drawF_lt l at_ (many := 6) (by decide)
  have e := draw_ev (l := l) (k := at_) (many := 6) (S := S) h (by decide)
  have lc : mLc [4] (mRng (mCons (mVar 3) mNil)) (bN 4) (mP true) (mOp2 fIx (mVar 2) (mCall m_law_draw (mCons (mVar 0) (mCons (mOp2 fAdd (mOp2 fAdd (mVar 1) (mP (.int 1))) (mVar 4)) (mCons (mP (.int 26)) mNil)))))
      [some (.lst (l.map .int)), some (.int at_), some (.str abc), some (.int (1 + drawF l at_ 6)), none] S = some (.ok (.lst (((wordF l at_).map fun c => mkS [c]).map .str)), S) := by
    refine v_lc (S1 := S) (src := (rngD 0 (1 + drawF l at_ 6).toNat, none)) (by simp [big_ok (i := 1 + drawF l at_ 6) (by omega)]) ?_
    rw [lcGo_map (src := (rngD 0 (1 + drawF l at_ 6).toNat, none)) (fun d => match d with | .int i => .str (mkS [97 + (drawF l (at_ + 1 + i) 26).toNat]) | _ => .non) True.intro]
    · simp [rngD, wordF]
    · intro d hd
      simp only [rngD, List.mem_map, List.mem_range] at hd
      obtain ⟨i, hi, rfl⟩ := hd
      refine ⟨_, rfl, ?_⟩
      have e2 := draw_ev (l := l) (k := at_ + 1 + i) (many := 26) (S := S) (by omega) (by decide)
      have e3 := ix_abc (S := S) (drawF_ge l (at_ + 1 + i) (many := 26) (by decide)) (drawF_lt l (at_ + 1 + i) (many := 26) (by decide))
      simp [wipeG, e2, e3]
    · simp [rngD]; omega
  have j : fJoin S (.str "") (.lst (((wordF l at_).map fun c => mkS [c]).map .str)) = some (.str (mkS (wordF l at_))) := by
    show ((some _).bind strsOf).bind _ = _
    rw [Option.bind_some, strsOf_map, Option.bind_some, if_pos (sz_ok ?_), join_chars]
    have e0 : ("" : Str).length = 0 := by decide +kernel
    have e1 : ∀ w : List Nat, ((w.map fun c => mkS [c]).map (·.length)).sum = w.length := fun w => by
      induction w with
      | nil => rfl
      | cons c w ih => simp only [List.map_cons, List.sum_cons, ih, len_mkS, List.length_cons, List.length_nil]; omega
    rw [e0, e1]
    simp [wordF]; omega

  simp [-List.map_map, m_law_word, b_law_word, e, lc, j]
theorem wordF_len (l : List Int) (at_ : Int) : 1 ≤ (wordF l at_).length ∧ (wordF l at_).length ≤ 6 := by
  have d0 := drawF_ge l at_ (many := 6) (by decide)
  have d1 := drawF_lt l at_ (many := 6) (by decide)
  simp [wordF]; omega
theorem wordF_abc (l : List Int) (at_ : Int) : ∀ c ∈ wordF l at_, 97 ≤ c ∧ c ≤ 122 := fun c hc => by
  simp only [wordF, List.mem_map, List.mem_range] at hc
  obtain ⟨i, _, rfl⟩ := hc
  have d0 := drawF_ge l (at_ + 1 + i) (many := 26) (by decide)
  have d1 := drawF_lt l (at_ + 1 + i) (many := 26) (by decide)
  omega
end Lw
namespace Lw
open PySem L2 Mi TL
/-- a text's signs; kept closed -/
def cs (z : Str) : List Nat := z.cps.toList
theorem cs_tl (z : Str) : cs z = tl z := rfl
theorem cs_len (z : Str) : (cs z).length = z.length := by simp [cs, Str.length]
theorem cs_mkS (l : List Nat) : cs (mkS l) = l := rfl
theorem mkS_cs (z : Str) : mkS (cs z) = z := mk_tl z
theorem cs_inj {x y : Str} (h : cs x = cs y) : x = y := ext_tl h
def isLet (c : Nat) : Bool := decide (97 ≤ c) && decide (c ≤ 122)
def isDig (c : Nat) : Bool := decide (48 ≤ c) && decide (c ≤ 57)
def isDig1 (c : Nat) : Bool := decide (49 ≤ c) && decide (c ≤ 57)
theorem mem_let (c : Nat) : decide (c ∈ tl abc) = isLet c := by
  rw [abc_cps, isLet, ← Bool.decide_and]
  refine decide_eq_decide.mpr ⟨fun h => ?_, fun h => ?_⟩
  · obtain ⟨i, hi, rfl⟩ := List.mem_map.mp h
    have := List.mem_range.mp hi; omega
  · exact List.mem_map.mpr ⟨c - 97, List.mem_range.mpr (by omega), by omega⟩
theorem mem_dig (c : Nat) : decide (c ∈ tl digs) = isDig c := by
  rw [digs_cps, isDig, ← Bool.decide_and]
  refine decide_eq_decide.mpr ⟨fun h => ?_, fun h => ?_⟩
  · obtain ⟨i, hi, rfl⟩ := List.mem_map.mp h
    have := List.mem_range.mp hi; omega
  · exact List.mem_map.mpr ⟨c - 48, List.mem_range.mpr (by omega), by omega⟩
theorem mem_dig1 (c : Nat) : decide (c ∈ tl (cutS digs (some 1) none)) = isDig1 c := by
  have e1 : tl (cutS digs (some 1) none) = (List.range 9).map (49 + ·) := by decide +kernel
  rw [e1, isDig1, ← Bool.decide_and]
  refine decide_eq_decide.mpr ⟨fun h => ?_, fun h => ?_⟩
  · obtain ⟨i, hi, rfl⟩ := List.mem_map.mp h
    have := List.mem_range.mp hi; omega
  · exact List.mem_map.mpr ⟨c - 49, List.mem_range.mpr (by omega), by omega⟩
theorem in_let {S : Store} {c : Nat} : fIn S (.str (mkS [c])) (.str abc) = some (.bl (isLet c)) := by rw [← mem_let]; rfl
theorem in_dig {S : Store} {c : Nat} : fIn S (.str (mkS [c])) (.str digs) = some (.bl (isDig c)) := by rw [← mem_dig]; rfl
theorem in_dig1 {S : Store} {c : Nat} : fIn S (.str (mkS [c])) (.str (cutS digs (some 1) none)) = some (.bl (isDig1 c)) := by rw [← mem_dig1]; rfl
/-- the form of a name -/
def nameL (z : List Nat) : Bool := decide (1 ≤ z.length) && decide (z.length ≤ 6) && z.all isLet
theorem chars_eq (z : Str) : chars z = (cs z).map fun c => .str (mkS [c]) := rfl
def hd1 (x : Str) : Nat := (cs x).getD 0 0
theorem hd1_mk (c : Nat) : hd1 (mkS [c]) = c := rfl
theorem is_name_ev {z : Str} {S : Store} (h : z.length ≤ 16777216) : m_is_name [.str z] S = some (.ok (.bl (nameL (cs z))), S) := by
  have lc : mLc [1] (mI (mVar 0)) (bN 1) (mP true) (mOp2 fIn (mVar 1) (mP k_LETTERS)) [some (.str z), none] S = some (.ok (.lst (((cs z).map isLet).map .bl)), S) := by
    refine v_lc (S1 := S) (src := (chars z, none)) (by simp) ?_
    rw [lcGo_map (src := (chars z, none)) (fun d => match d with | .str x => .bl (isLet (hd1 x)) | _ => .non) True.intro]
    · simp [chars_eq, hd1_mk]
    · intro d hd
      rw [chars_eq] at hd
      obtain ⟨c, _, rfl⟩ := List.mem_map.mp hd
      refine ⟨_, rfl, ?_⟩
      simp [wipeG, k_LETTERS, in_let, hd1_mk]
    · simp [chars_eq, cs_len]; exact h
  have a := v_all S ((cs z).map isLet)
  have le := v_lenS S z h
  have e0 := cs_len z
  by_cases h1 : 1 ≤ z.length
  · by_cases h2 : z.length ≤ 6
    · have h1' : (1 : Int) ≤ z.length := by omega
      have h2' : (z.length : Int) ≤ 6 := by omega
      simp [-List.map_map, m_is_name, b_is_name, le, lc, a, h1', h2', nameL, e0, h1, h2, List.all_map]
    · have h1' : (1 : Int) ≤ z.length := by omega
      have h2' : ¬ (z.length : Int) ≤ 6 := by omega
      simp [m_is_name, b_is_name, le, h1', h2', nameL, e0, h2]
  · have h1' : ¬ (1 : Int) ≤ z.length := by omega
    simp [m_is_name, b_is_name, le, h1', nameL, e0, h1]
def valueL : List Nat → Bool
  | [c] => isDig c
  | _ => false
theorem is_value_ev {z : Str} {S : Store} (h : z.length ≤ 16777216) : m_is_value [.str z] S = some (.ok (.bl (valueL (cs z))), S) := by
  have le := v_lenS S z h
  have e0 := cs_len z
  by_cases h1 : z.length = 1
  · have h1' : (z.length : Int) = 1 := by omega
    obtain ⟨c, hc⟩ : ∃ c, cs z = [c] := List.length_eq_one_iff.mp (by rw [e0]; exact h1)
    have ez : z = mkS [c] := cs_inj hc
    have e : fIn S (.str z) (.str digs) = some (.bl (isDig c)) := by rw [ez]; exact in_dig
    simp [m_is_value, b_is_value, le, h1', k_DIGITS, e, hc, valueL]
  · have h1' : ¬ (z.length : Int) = 1 := by omega
    have hv : valueL (cs z) = false := by
      match hz : cs z with
      | [] => rfl
      | [c] => rw [hz] at e0; simp at e0; omega
      | _ :: _ :: _ => rfl
    simp [m_is_value, b_is_value, le, h1', hv]
def targetL : List Nat → Bool
  | [c, d] => isDig1 c && isDig d
  | z => valueL z
theorem ixS_ev {z : Str} {i c : Nat} {S : Store} (h : z.length ≤ 16777216) (hi : (cs z)[i]? = some c) : fIx S (.str z) (.int (i : Int)) = some (.str (mkS [c])) := by
  show (if szOk z.length = true then (atI (cs z) (i : Int)).map _ else none) = _
  rw [if_pos (sz_ok h), atI_nat hi]
  rfl
theorem is_target_ev {z : Str} {S : Store} (h : z.length ≤ 16777216) : m_is_target [.str z] S = some (.ok (.bl (targetL (cs z))), S) := by
  have le := v_lenS S z h
  have e0 := cs_len z
  have v := is_value_ev (S := S) h
  by_cases h1 : z.length = 2
  · have h1' : (z.length : Int) = 2 := by omega
    obtain ⟨c, d, hc⟩ : ∃ c d, cs z = [c, d] := by
      match hz : cs z with
      | [] => rw [hz] at e0; simp at e0; omega
      | [c] => rw [hz] at e0; simp at e0; omega
      | [c, d] => exact ⟨c, d, rfl⟩
      | _ :: _ :: _ :: _ => rw [hz] at e0; simp at e0; omega
    have x0 := ixS_ev (S := S) (i := 0) (c := c) h (by rw [hc]; rfl)
    have x1 := ixS_ev (S := S) (i := 1) (c := d) h (by rw [hc]; rfl)
    have sl : fSl S (.str digs) (some 1) none = some (.str (cutS digs (some 1) none)) := by
      show (if szOk digs.length = true then _ else none) = _
      rw [if_pos (sz_ok (by decide +kernel))]
    simp only [Int.ofNat_zero, Int.natCast_one] at x0 x1
    have n0 := in_dig1 (S := S) (c := c)
    have n1 := in_dig (S := S) (c := d)
    cases q : isDig1 c <;> rw [q] at n0 <;> simp [m_is_target, b_is_target, le, h1', k_DIGITS, x0, x1, sl, n0, n1, targetL, hc, q]
  · have h1' : ¬ (z.length : Int) = 2 := by omega
    have hv : targetL (cs z) = valueL (cs z) := by
      match hz : cs z with
      | [] => rfl
      | [c] => rfl
      | [c, d] => rw [hz] at e0; simp at e0; omega
      | _ :: _ :: _ :: _ => rfl
    simp [m_is_target, b_is_target, le, h1', v, hv]
end Lw
namespace Lw
open PySem L2 Mi TL
@[simp] theorem ms_nil : matchSeqD [] [] = some (some []) := id rfl
@[simp] theorem ms_val (s x : Str) (ps : List PatE) (ds : List D) : matchSeqD (.val s :: ps) (.str x :: ds) = if x = s then matchSeqD ps ds else some none := by
  show (if scal (.str x) (.str s) = true then (if V.str x = V.str s then _ else _) else none) = _
  rw [if_pos (show scal (.str x) (.str s) = true from rfl)]
  by_cases h : x = s
  · subst h; rw [if_pos rfl, if_pos rfl]
  · rw [if_neg h, if_neg (fun e => h (V.str.inj e))]
@[simp] theorem ms_cap (i : Nat) (d : D) (ps : List PatE) (ds : List D) : matchSeqD (.cap i :: ps) (d :: ds) = match matchSeqD ps ds with
    | some (some bs) => some (some ((i, d) :: bs))
    | r => r := id rfl
@[simp] theorem bindAll_nil (g : Gm) : bindAll [] g = g := id rfl
@[simp] theorem bindAll_cons (i : Nat) (d : D) (bs : List (Nat × D)) (g : Gm) : bindAll ((i, d) :: bs) g = bindAll bs (g.set i (some d)) := id rfl
@[simp] theorem asL_lst (S : Store) (l : List D) : asL S (.lst l) = some l := id rfl
@[simp] theorem asL_tup (S : Store) (l : List D) : asL S (.tup l) = some l := id rfl
theorem in_kind {S : Store} {a : Str} : fIn S (.str a) (.tup [.str "store", .str "swap"]) = some (.bl (decide (a = "store") || decide (a = "swap"))) := by
  show some (D.bl (inV (.str a) [.str "store", .str "swap"])) = _
  have e : ∀ x : Str, eqV (.str x) (.str a) = decide (a = x) := fun x => by
    show (x == a) = _
    rw [Bool.beq_eq_decide_eq]; exact decide_eq_decide.mpr ⟨Eq.symm, Eq.symm⟩
  simp [inV, e]
/-- one or two digits' number -/
def tgtN : List Nat → Int
  | [c] => (c : Int) - 48
  | [c, d] => ((c : Int) - 48) * 10 + ((d : Int) - 48)
  | _ => 0
theorem int_dig {S : Store} {z : Str} (h : (cs z).all isDig = true) (hn : cs z ≠ []) (hl : (cs z).length ≤ 2) : cInt S [.str z] = some (.int (tgtN (cs z))) := by
  have ad : NumText.AllDigits z.cps.toList := fun c hc => by
    have := List.all_eq_true.mp h c hc
    simp [isDig] at this
    omega
  have e := intText_digits (x := z) ad hn (by rw [← cs_len]; omega)
  show (if cdec (z.length ≤ 640) = true then (PySem.intText? z).map D.int else none) = _
  rw [if_pos (cdec_iff.mpr (by rw [← cs_len]; omega)), e]
  have : (NumText.digitsVal z.cps.toList : Int) = tgtN (cs z) := by
    show (NumText.digitsVal (cs z) : Int) = _
    match hz : cs z with
    | [] => exact absurd hz hn
    | [c] =>
      rw [hz] at h; simp [isDig] at h
      simp [NumText.digitsVal, tgtN]; omega
    | [c, d] =>
      rw [hz] at h; simp [isDig] at h
      simp [NumText.digitsVal, tgtN]; omega
    | _ :: _ :: _ :: _ => rw [hz] at hl; simp at hl
  simp [this]
theorem value_dig {z : List Nat} (h : valueL z = true) : z.all isDig = true ∧ z ≠ [] ∧ z.length ≤ 2 := by
  match z, h with
  | [c], h => simpa [valueL] using h
theorem target_dig {z : List Nat} (h : targetL z = true) : z.all isDig = true ∧ z ≠ [] ∧ z.length ≤ 2 := by
  match z, h with
  | [c], h => simpa [targetL, valueL] using h
  | [c, d], h =>
    simp [targetL, isDig1, isDig] at h ⊢
    omega
def parseW : List Str → Option D
  | [a] => if a = "fence" then some (.tup [.str "fence"]) else none
  | [a, b] => if a = "load" then (if nameL (cs b) = true then some (.tup [.str "load", .str b]) else none)
      else if a = "jump" then (if targetL (cs b) = true then some (.tup [.str "jump", .int (tgtN (cs b))]) else none) else none
  | [a, b, c] => if a = "test" then (if valueL (cs b) = true ∧ targetL (cs c) = true then some (.tup [.str "test", .int (tgtN (cs b)), .int (tgtN (cs c))]) else none)
      else if (a = "store" ∨ a = "swap") ∧ nameL (cs b) = true then (if c = "r" then some (.tup [.str a, .str b, .str "r"]) else if valueL (cs c) = true then some (.tup [.str a, .str b, .int (tgtN (cs c))]) else none) else none
  | _ => none
theorem sz3 {n : Nat} (h : n ≤ 100 := by decide) : szOk n = true := sz_ok (by omega)
@[simp] theorem v_tup0 (S : Store) (l : List D) (h : szOk l.length = true) : fTup S l = some (.tup l) := if_pos h
theorem parse_pos {line : Str} {S : Store} {ws : List Str} {d : D} (hs : fSplit S (.str line) (.str " ") = some (.lst (ws.map .str))) (hl : ∀ w ∈ ws, w.length ≤ 16777216) (e : parseW ws = some d) : m_parse_row [.str line] S = some (.ok d, S) := by
  match ws, e with
  | [a], e =>
    simp only [parseW] at e
    split at e
    · rename_i h
      subst h; cases e
      simp [m_parse_row, b_parse_row, hs, v_tup0, sz3]
    · cases e
  | [a, b], e =>
    simp only [parseW] at e
    have hb : b.length ≤ 16777216 := hl b (by simp)
    have n1 : ¬ (("load" : Str) = "fence") := by decide +kernel
    have n2 : ¬ (("jump" : Str) = "load") := by decide +kernel
    split at e
    · rename_i h
      subst h
      split at e
      · rename_i hn
        cases e
        have := is_name_ev (S := S) hb
        simp [m_parse_row, b_parse_row, hs, v_tup0, sz3, this, hn]
      · cases e
    · rename_i h0
      split at e
      · rename_i h
        subst h
        split at e
        · rename_i hn
          cases e
          have := is_target_ev (S := S) hb
          obtain ⟨q1, q2, q3⟩ := target_dig hn
          have i := int_dig (S := S) q1 q2 q3
          simp [m_parse_row, b_parse_row, hs, v_tup0, sz3, this, hn, i, n2]
        · cases e
      · cases e
  | [a, b, c], e =>
    simp only [parseW] at e
    have hb : b.length ≤ 16777216 := hl b (by simp)
    have hc : c.length ≤ 16777216 := hl c (by simp)
    split at e
    · rename_i h
      subst h
      split at e
      · rename_i hn
        cases e
        have t1 := is_value_ev (S := S) hb
        have t2 := is_target_ev (S := S) hc
        obtain ⟨q1, q2, q3⟩ := value_dig hn.1
        obtain ⟨q4, q5, q6⟩ := target_dig hn.2
        have i := int_dig (S := S) q1 q2 q3
        have j := int_dig (S := S) q4 q5 q6
        simp [m_parse_row, b_parse_row, hs, v_tup0, sz3, t1, t2, hn.1, hn.2, i, j]
      · cases e
    · rename_i h0
      split at e
      · rename_i hn
        have t1 := is_name_ev (S := S) hb
        have t2 := is_value_ev (S := S) hc
        have k := in_kind (S := S) (a := a)
        have k' : (decide (a = "store") || decide (a = "swap")) = true := by simpa using hn.1
        rw [k'] at k
        split at e
        · rename_i hr
          subst hr
          cases e
          simp [m_parse_row, b_parse_row, hs, v_tup0, sz3, t1, hn.2, k, h0]
        · rename_i hr
          split at e
          · rename_i hv
            cases e
            obtain ⟨q1, q2, q3⟩ := value_dig hv
            have i := int_dig (S := S) q1 q2 q3
            simp [m_parse_row, b_parse_row, hs, v_tup0, sz3, t1, t2, hn.2, k, h0, hr, hv, i]
          · cases e
      · cases e
end Lw
namespace Lw
open PySem L2 Mi TL
theorem split_ev {S : Store} {ws : List Str} (hne : ws ≠ []) (hp : ∀ p ∈ ws, 32 ∉ cs p) (hz : (Txt.join " " ws).length + 2 ≤ 16777216) : fSplit S (.str (Txt.join " " ws)) (.str " ") = some (.lst (ws.map .str)) := by
  have e : Txt.split (Txt.join " " ws) " " = ws := split_join (y := " ") (s := 32) (S := []) (by decide +kernel) (by decide +kernel) hne hp
  show (if _ ∧ _ then _ else none) = _
  rw [if_pos ⟨by decide +kernel, sz_ok hz⟩, e]
theorem sum_le : ∀ {ss : List Str} {k : Nat}, (∀ p ∈ ss, p.length ≤ k) → (ss.map (·.length)).sum ≤ ss.length * k
  | [], _, _ => by simp
  | a :: ss, k, h => by
    have h1 := h a List.mem_cons_self
    have h2 := sum_le (ss := ss) fun x hx => h x (List.mem_cons_of_mem _ hx)
    simp only [List.map_cons, List.sum_cons, List.length_cons, Nat.add_mul]
    omega
theorem joinL_le (S : List Nat) : ∀ ps : List (List Nat), (joinL S ps).length ≤ (ps.map (·.length)).sum + ps.length * S.length
  | [] => by simp [joinL]
  | [p] => by simp [joinL]
  | p :: q :: r => by
    have h := joinL_le S (q :: r)
    show (p ++ (S ++ joinL S (q :: r))).length ≤ _
    simp only [List.length_append, List.map_cons, List.sum_cons, List.length_cons, Nat.add_mul] at h ⊢
    omega
theorem join_le {ss : List Str} {k : Nat} (h : ∀ p ∈ ss, p.length ≤ k) : (Txt.join " " ss).length ≤ ss.length * (k + 1) := by
  rw [len_tl, join_eq, tl_join]
  have e2 : tl (" " : Str) = [32] := by decide +kernel
  rw [e2]
  have h1 := joinL_le [32] (ss.map tl)
  have h2 := sum_le h
  have e : (ss.map tl).map (·.length) = ss.map (·.length) := by
    rw [List.map_map]; exact List.map_congr_left fun x _ => (len_tl x).symm
  rw [e] at h1
  simp only [List.length_map, List.length_cons, List.length_nil] at h1
  rw [Nat.mul_add]; omega
theorem app_len (x y : Str) : (x ++ y).length = x.length + y.length := by rw [len_tl, tl_append, List.length_append, ← len_tl, ← len_tl]
theorem cs_app (x y : Str) : cs (x ++ y) = cs x ++ cs y := tl_append x y
theorem cs_join (ws : List Str) : cs (Txt.join " " ws) = joinL [32] (ws.map cs) := by
  show tl (Txt.join " " ws) = _
  rw [join_eq, tl_join, show tl (" " : Str) = [32] from by decide +kernel]
  rfl
/-! ### parse_row refuses -/
theorem parse_neg {line : Str} {S : Store} {ws : List Str} (hs : fSplit S (.str line) (.str " ") = some (.lst (ws.map .str))) (hl : ∀ w ∈ ws, w.length ≤ 16777216) (e : parseW ws = none) : m_parse_row [.str line] S = some (.exc cx_InvalidText [], S) := by
  have vr : ∀ (c : Nat) (fs : List (Str × D)) (g : Gm) (S : Store), mRaise c fs g S = some (.ex g c fs, S) := fun _ _ _ _ => rfl
  match ws, e with
  | [], _ => simp [m_parse_row, b_parse_row, hs, vr, v_tup0, sz3]
  | [a], e =>
    have h : ¬ a = "fence" := fun h => by simp only [parseW, if_pos h] at e; cases e
    simp [m_parse_row, b_parse_row, hs, vr, v_tup0, sz3, h]
  | [a, b], e =>
    have hb : b.length ≤ 16777216 := hl b (by simp)
    simp only [parseW] at e
    have i1 := is_name_ev (S := S) hb
    have i2 := is_target_ev (S := S) hb
    by_cases h1 : a = "load"
    · rw [if_pos h1] at e
      have hn : nameL (cs b) = false := by
        cases q : nameL (cs b) with
        | false => rfl
        | true => rw [q, if_pos rfl] at e; cases e
      have n2 : ¬ (("load" : Str) = "jump") := by decide +kernel
      subst h1
      simp [m_parse_row, b_parse_row, hs, vr, v_tup0, sz3, i1, hn, n2]
    · rw [if_neg h1] at e
      by_cases h2 : a = "jump"
      · rw [if_pos h2] at e
        have hn : targetL (cs b) = false := by
          cases q : targetL (cs b) with
          | false => rfl
          | true => rw [q, if_pos rfl] at e; cases e
        subst h2
        simp [m_parse_row, b_parse_row, hs, vr, v_tup0, sz3, i2, hn, h1]
      · simp [m_parse_row, b_parse_row, hs, vr, v_tup0, sz3, h1, h2]
  | [a, b, c], e =>
    have hb : b.length ≤ 16777216 := hl b (by simp)
    have hc : c.length ≤ 16777216 := hl c (by simp)
    simp only [parseW] at e
    have t0 := is_name_ev (S := S) hb
    have t1 := is_value_ev (S := S) hb
    have t2 := is_target_ev (S := S) hc
    have t3 := is_value_ev (S := S) hc
    have k := in_kind (S := S) (a := a)
    by_cases h1 : a = "test"
    · rw [if_pos h1] at e
      have hn : ¬ (valueL (cs b) = true ∧ targetL (cs c) = true) := fun z => by rw [if_pos z] at e; cases e
      subst h1
      have kk : (decide (("test" : Str) = "store") || decide (("test" : Str) = "swap")) = false := by decide +kernel
      rw [kk] at k
      cases q : valueL (cs b) with
      | false => rw [q] at t1; simp [m_parse_row, b_parse_row, hs, vr, v_tup0, sz3, t1, k]
      | true =>
        have q2 : targetL (cs c) = false := by
          cases q2 : targetL (cs c) with
          | false => rfl
          | true => exact absurd ⟨q, q2⟩ hn
        rw [q] at t1; rw [q2] at t2
        simp [m_parse_row, b_parse_row, hs, vr, v_tup0, sz3, t1, t2, k]
    · rw [if_neg h1] at e
      by_cases h2 : a = "store" ∨ a = "swap"
      · have k' : (decide (a = "store") || decide (a = "swap")) = true := by simpa using h2
        rw [k'] at k
        cases q : nameL (cs b) with
        | false => rw [q] at t0; simp [m_parse_row, b_parse_row, hs, vr, v_tup0, sz3, t0, k, h1]
        | true =>
          rw [if_pos ⟨h2, q⟩] at e
          rw [q] at t0
          have hr : ¬ c = "r" := fun z => by rw [if_pos z] at e; cases e
          rw [if_neg hr] at e
          have hv : valueL (cs c) = false := by
            cases q2 : valueL (cs c) with
            | false => rfl
            | true => rw [q2, if_pos rfl] at e; cases e
          rw [hv] at t3
          simp [m_parse_row, b_parse_row, hs, vr, v_tup0, sz3, t0, t3, k, h1, hr]
      · have k' : (decide (a = "store") || decide (a = "swap")) = false := by simpa using h2
        rw [k'] at k
        simp [m_parse_row, b_parse_row, hs, vr, v_tup0, sz3, k, h1]
  | a :: b :: c :: d :: r, _ =>
    simp [m_parse_row, b_parse_row, hs, vr, v_tup0, sz3]
/-- the law's look at a refused line -/
def Bad (x : Str) : Prop := ∀ S, m_law_refused [.str x] S = some (.ok (.bl true), S)
theorem bad_ev {x : Str} (h : ∀ S, m_parse_row [.str x] S = some (.exc cx_InvalidText [], S)) : Bad x := fun S => by
  have vt : ∀ (mb : MS) (tab : Nat → Option Bool) (i : Nat) (mh : Nat → List (Str × D) → MS) (g : Gm) (S : Store), mTryAs mb tab i mh g S = match mb g S with
    | some (.ex g1 c fs, S1) => (match tab c with
      | some true => (match mh c fs (g1.set i none) S1 with
        | some (o, S2) => (outE i o).map fun o' => (o', S2)
        | none => none)
      | some false => some (.ex g1 c fs, S1)
      | none => none)
    | r => r := fun _ _ _ _ _ _ => rfl
  simp [m_law_refused, b_law_refused, vt, h, cx_InvalidText, tb_InvalidText, mIsE, tb_InvalidLine, tb_InvalidRow, tb_ElderError, tb_ValueError, outE]
end Lw
namespace Lw
open PySem L2 Mi TL
/-! ### lines and their words -/
structure WN (n : Nat) (p : Str) : Prop where
  s : 32 ∉ cs p
  l : p.length ≤ n
theorem wn_app {n m : Nat} {x y : Str} (h : WN n x) (k : WN m y) : WN (n + m) (x ++ y) := ⟨by rw [cs_app]; simp [h.s, k.s], by rw [app_len]; have := h.l; have := k.l; omega⟩
theorem wn_lit {n : Nat} {p : Str} (h : decide (32 ∉ cs p ∧ p.length ≤ n) = true) : WN n p := ⟨(of_decide_eq_true h).1, (of_decide_eq_true h).2⟩
inductive Ws : List Str → Prop where
  | nil : Ws []
  | cons {n : Nat} {p : Str} {r : List Str} (h : WN n p) (t : Ws r) (hn : n ≤ 100 := by decide) : Ws (p :: r)
theorem Ws.all : ∀ {ws : List Str}, Ws ws → ∀ p ∈ ws, 32 ∉ cs p ∧ p.length ≤ 100
  | _, .nil => fun p h => by cases h
  | _, .cons h t hn => fun p hp => by
    rcases List.mem_cons.mp hp with rfl | hp
    · exact ⟨h.s, Nat.le_trans h.l hn⟩
    · exact t.all p hp
theorem bad_of {ws : List Str} {x : Str} (hx : cs x = joinL [32] (ws.map cs)) (hw : Ws ws) (e : parseW ws = none) (hne : ws ≠ [] := by simp) (hl : ws.length ≤ 10 := by simp) : Bad x := by
  have ex : x = Txt.join " " ws := cs_inj (by rw [hx, cs_join])
  subst ex
  have hw2 : ∀ p ∈ ws, p.length ≤ 100 := fun p hp => (hw.all p hp).2
  have jl := join_le hw2
  exact bad_ev fun S => parse_neg (split_ev hne (fun p hp => (hw.all p hp).1) (by omega)) (fun p hp => by have := hw2 p hp; omega) e
theorem p_one {a : Str} (h : ¬ a = "fence") : parseW [a] = none := if_neg h
theorem p_load {b : Str} (h : nameL (cs b) = false) : parseW ["load", b] = none := by
  simp only [parseW, if_true, h, Bool.false_eq_true, if_false]
theorem p_jump {b : Str} (h : targetL (cs b) = false) : parseW ["jump", b] = none := by
  have n : ¬ (("jump" : Str) = "load") := by decide +kernel
  simp only [parseW, if_true, h, if_neg n, Bool.false_eq_true, if_false]
theorem p_two {a b : Str} (h1 : ¬ a = "load") (h2 : ¬ a = "jump") : parseW [a, b] = none := by simp only [parseW, if_neg h1, if_neg h2]
theorem p_test1 {b c : Str} (h : valueL (cs b) = false) : parseW ["test", b, c] = none := by simp only [parseW, if_true, h, Bool.false_eq_true, false_and, if_false]
theorem p_test2 {b c : Str} (h : targetL (cs c) = false) : parseW ["test", b, c] = none := by simp only [parseW, if_true, h, Bool.false_eq_true, and_false, if_false]
theorem p_st1 {a b c : Str} (ha : ¬ a = "test") (h : nameL (cs b) = false) : parseW [a, b, c] = none := by simp only [parseW, if_neg ha, h, Bool.false_eq_true, and_false, if_false]
theorem p_st2 {a b c : Str} (ha : ¬ a = "test") (h1 : ¬ c = "r") (h : valueL (cs c) = false) : parseW [a, b, c] = none := by
  simp only [parseW, if_neg ha, if_neg h1, h, Bool.false_eq_true, if_false]
  split <;> rfl
theorem p_three {a b c : Str} (h1 : ¬ a = "test") (h2 : ¬ a = "store") (h3 : ¬ a = "swap") : parseW [a, b, c] = none := by
  simp only [parseW, if_neg h1]
  rw [if_neg (fun z => z.1.elim h2 h3)]
theorem p_four {a b c d : Str} {r : List Str} : parseW (a :: b :: c :: d :: r) = none := rfl
/-! ### cuts -/
theorem cs_take (z : Str) (i : Int) (h : 0 ≤ i) : cs (cutS z none (some i)) = (cs z).take i.toNat := by
  have e1 : HT.sIx z.length 0 none = 0 := rfl
  have e2 : HT.sIx z.length z.length (some i) = min i.toNat z.length := by
    unfold HT.sIx; simp; omega
  show ((z.cps.toList.drop _).take _).toArray.toList = _
  rw [e1, e2, List.drop_zero, Nat.sub_zero]
  show (cs z).take (min i.toNat z.length) = _
  rw [← cs_len]
  by_cases q : i.toNat ≤ (cs z).length
  · rw [Nat.min_eq_left q]
  · rw [Nat.min_eq_right (by omega), List.take_of_length_le (Nat.le_refl _), List.take_of_length_le (by omega)]
theorem cs_drop (z : Str) (i : Int) (h : 0 ≤ i) : cs (cutS z (some i) none) = (cs z).drop i.toNat := by
  have e1 : HT.sIx z.length 0 (some i) = min i.toNat z.length := by
    unfold HT.sIx; simp; omega
  have e2 : HT.sIx z.length z.length none = z.length := rfl
  show ((z.cps.toList.drop _).take _).toArray.toList = _
  rw [e1, e2]
  show ((cs z).drop (min i.toNat z.length)).take (z.length - min i.toNat z.length) = _
  rw [← cs_len, List.take_of_length_le (by rw [List.length_drop]; omega)]
  by_cases q : i.toNat ≤ (cs z).length
  · rw [Nat.min_eq_left q]
  · rw [Nat.min_eq_right (by omega), List.drop_of_length_le (by omega), List.drop_of_length_le (by omega)]
/-! ### values of expressions -/
structure EvS (m : M D) (g : Gm) (S : Store) (x : Str) (n : Nat) : Prop where
  e : m g S = some (.ok (.str x), S)
  l : x.length ≤ n
section
variable {g : Gm} {S : Store}
theorem evs_lit {s : Str} {n : Nat} (h : decide (s.length ≤ n) = true) : EvS (mP (.str s)) g S s n := ⟨rfl, of_decide_eq_true h⟩
theorem evs_var {i : Nat} {x : Str} {n : Nat} (hl : x.length ≤ n) (h : g[i]? = some (some (.str x))) : EvS (mVar i) g S x n := ⟨by rw [v_var, h], hl⟩
theorem evs_add {a b : M D} {x y : Str} {n m : Nat} (h1 : EvS a g S x n) (h2 : EvS b g S y m) (hs : n + m ≤ 1000 := by decide) : EvS (mOp2 fAdd a b) g S (x ++ y) (n + m) := by
  have q1 := h1.l
  have q2 := h2.l
  refine ⟨?_, by rw [app_len]; omega⟩
  have e := v_adds S x y
  rw [if_pos (sz_ok (by omega))] at e
  simp [h1.e, h2.e, -v_adds, e]
def BadD (d : D) : Prop := ∃ x : Str, d = .str x ∧ x.length ≤ 1000 ∧ Bad x
structure EvB (m : M (List D)) (g : Gm) (S : Store) (n : Nat) (l : List D) : Prop where
  e : m g S = some (.ok l, S)
  b : ∀ d ∈ l, BadD d
  hn : l.length = n
theorem evb_nil : EvB mNil g S 0 [] := ⟨rfl, fun _ h => (by cases h), rfl⟩
theorem evb_cons {a : M D} {m : M (List D)} {x : Str} {n k : Nat} {l : List D} (h : EvS a g S x k) (hb : Bad x) (t : EvB m g S n l) (hk : k ≤ 1000 := by decide) : EvB (mCons a m) g S (n + 1) (.str x :: l) :=
  ⟨by simp [h.e, t.e], fun d hd => by
    rcases List.mem_cons.mp hd with rfl | hd
    · exact ⟨x, rfl, Nat.le_trans h.l hk, hb⟩
    · exact t.b d hd, by rw [List.length_cons, t.hn]⟩
def EvL (m : M D) (g : Gm) (S : Store) (n : Nat) : Prop := ∃ l, m g S = some (.ok (.lst l), S) ∧ (∀ d ∈ l, BadD d) ∧ l.length = n
theorem evl_lst {m : M (List D)} {n : Nat} {l : List D} (h : EvB m g S n l) (hn : n ≤ 1000 := by decide) : EvL (mOpA fLst m) g S n := by
  refine ⟨l, ?_, h.b, h.hn⟩
  have e : fLst S l = some (.lst l) := if_pos (sz_ok (by have := h.hn; omega))
  simp [h.e, e]
theorem evl_var {i : Nat} {l : List D} {n : Nat} (hb : ∀ d ∈ l, BadD d) (hn : l.length = n) (h : g[i]? = some (some (.lst l))) : EvL (mVar i) g S n := ⟨l, by rw [v_var, h], hb, hn⟩
theorem evl_add {a b : M D} {n m : Nat} (h1 : EvL a g S n) (h2 : EvL b g S m) (hs : n + m ≤ 1000 := by decide) : EvL (mOp2 fAdd a b) g S (n + m) := by
  obtain ⟨l1, e1, b1, n1⟩ := h1
  obtain ⟨l2, e2, b2, n2⟩ := h2
  refine ⟨l1 ++ l2, ?_, fun d hd => (List.mem_append.mp hd).elim (b1 d) (b2 d), by rw [List.length_append, n1, n2]⟩
  have e : fAdd S (.lst l1) (.lst l2) = some (.lst (l1 ++ l2)) := by
    show (if szOk (l1.length + l2.length) = true then _ else _) = _
    rw [if_pos (sz_ok (by omega))]
  simp [e1, e2, e]
def RetL (m : MS) (g : Gm) (S : Store) (n : Nat) : Prop := ∃ l, m g S = some (.rt (.lst l), S) ∧ (∀ d ∈ l, BadD d) ∧ l.length = n
theorem ret_l {m : M D} {n : Nat} (h : EvL m g S n) : RetL (mRet m) g S n := by
  obtain ⟨l, e, b, k⟩ := h
  exact ⟨l, by simp [e], b, k⟩
theorem ret_set {m : M D} {r : MS} {i n k : Nat} (h : EvL m g S n) (t : ∀ l, (∀ d ∈ l, BadD d) → l.length = n → RetL r (g.set i (some (.lst l))) S k) : RetL (mSeq (mSet i m) r) g S k := by
  obtain ⟨l, e, b, q⟩ := h
  obtain ⟨l2, e2, b2, q2⟩ := t l b q
  exact ⟨l2, by simp [e, e2], b2, q2⟩
theorem ret_setS {m : M D} {r : MS} {i n k : Nat} {x : Str} (h : EvS m g S x n) (t : RetL r (g.set i (some (.str x))) S k) : RetL (mSeq (mSet i m) r) g S k := by
  obtain ⟨l2, e2, b2, q2⟩ := t
  exact ⟨l2, by simp [h.e, e2], b2, q2⟩
end
/-- the drawn parts of the lines -/
structure Cxt (name one letter mark up n2 n3 n7 pre post odd camel wd : Str) (digit : Int) (place : Int) (d l k : Nat) : Prop where
  h_name : nameL (cs name) = true
  h_one : cs one = [d]
  h_d : 48 ≤ d ∧ d ≤ 57
  h_letter : cs letter = [l]
  h_l : 97 ≤ l ∧ l ≤ 122 ∧ l ≠ 114
  h_mark : cs mark = [k]
  h_k : 33 ≤ k ∧ k ≤ 126 ∧ ¬ (97 ≤ k ∧ k ≤ 122) ∧ ¬ (48 ≤ k ∧ k ≤ 57)
  h_up : cs up = (cs name).map PyProof.Rows.up1
  h_eup : ∀ S, fUpper S (.str name) = some (.str up)
  h_n2 : cs n2 = (cs name).take 2
  h_e2 : ∀ S, fSl S (.str name) none (some 2) = some (.str n2)
  h_n3 : cs n3 = (cs name).take 3
  h_e3 : ∀ S, fSl S (.str name) none (some 3) = some (.str n3)
  h_n7 : (cs n7).length = 7 ∧ ∀ c ∈ cs n7, isLet c = true
  h_e7 : ∀ S, (fMulS S (.str name) (.int 7)).bind (fun z => fSl S z none (some 7)) = some (.str n7)
  h_pre : cs pre = (cs name).take place.toNat
  h_epre : ∀ S, fSl S (.str name) none (some place) = some (.str pre)
  h_post : cs post = (cs name).drop (place.toNat + 1)
  h_epost : ∀ S, fSl S (.str name) (some (place + 1)) none = some (.str post)
  h_odd : odd = pre ++ mark ++ post
  h_camel : cs camel = (cs name).take 5 ++ [81]
  h_ecamel : ∀ S, ∃ n5, fSl S (.str name) none (some 5) = some (.str n5) ∧ n5.length ≤ 6 ∧ camel = n5 ++ "Q"
  h_wd : nameL (cs wd) = true ∧ ¬ wd = "load" ∧ ¬ wd = "store" ∧ ¬ wd = "swap" ∧ ¬ wd = "fence" ∧ ¬ wd = "test" ∧ ¬ wd = "jump"
  h_estr : ∀ S, cStr S [.int digit] = some (.str one)
  h_place : 0 ≤ place
theorem nameL_of {z : List Nat} (h : nameL z = true) : 1 ≤ z.length ∧ z.length ≤ 6 ∧ ∀ c ∈ z, 97 ≤ c ∧ c ≤ 122 := by
  simpa [nameL, isLet, and_assoc] using h
theorem nameL_mem {z : List Nat} {c : Nat} (h : c ∈ z) (hc : ¬ (97 ≤ c ∧ c ≤ 122)) : nameL z = false := by
  cases q : nameL z with
  | false => rfl
  | true => exact absurd ((nameL_of q).2.2 c h) hc
theorem targetL_name {z : List Nat} (h : nameL z = true) : targetL z = false := by
  obtain ⟨h1, h2, h3⟩ := nameL_of h
  match z, h1, h3 with
  | [c], _, h3 => have := h3 c (by simp); simp [targetL, valueL, isDig]; omega
  | [c, e], _, h3 => have := h3 c (by simp); simp [targetL, isDig1, isDig]; omega
  | _ :: _ :: _ :: _, _, _ => rfl
theorem nosp {z : Str} {n : Nat} (h : ∀ c ∈ cs z, c ≠ 32) (hl : (cs z).length ≤ n) : WN n z := ⟨fun q => h 32 q rfl, by rw [← cs_len]; exact hl⟩
section
variable {name one letter mark up n2 n3 n7 pre post odd camel wd : Str} {digit place : Int} {d l k : Nat}
theorem Cxt.nm (C : Cxt name one letter mark up n2 n3 n7 pre post odd camel wd digit place d l k) : 1 ≤ (cs name).length ∧ (cs name).length ≤ 6 ∧ ∀ c ∈ cs name, 97 ≤ c ∧ c ≤ 122 := nameL_of C.h_name
theorem w_name (C : Cxt name one letter mark up n2 n3 n7 pre post odd camel wd digit place d l k) : WN 6 name := nosp (fun c h => by have := C.nm.2.2 c h; omega) C.nm.2.1
theorem w_one (C : Cxt name one letter mark up n2 n3 n7 pre post odd camel wd digit place d l k) : WN 1 one := nosp (fun c h => by rw [C.h_one] at h; have := C.h_d; simp at h; omega) (by rw [C.h_one]; simp)
theorem w_letter (C : Cxt name one letter mark up n2 n3 n7 pre post odd camel wd digit place d l k) : WN 1 letter := nosp (fun c h => by rw [C.h_letter] at h; have := C.h_l; simp at h; omega) (by rw [C.h_letter]; simp)
theorem w_mark (C : Cxt name one letter mark up n2 n3 n7 pre post odd camel wd digit place d l k) : WN 1 mark := nosp (fun c h => by rw [C.h_mark] at h; have := C.h_k; simp at h; omega) (by rw [C.h_mark]; simp)
theorem up_at (C : Cxt name one letter mark up n2 n3 n7 pre post odd camel wd digit place d l k) : ∀ c ∈ cs up, 65 ≤ c ∧ c ≤ 90 := fun c h => by
  rw [C.h_up] at h
  obtain ⟨x, hx, rfl⟩ := List.mem_map.mp h
  have := C.nm.2.2 x hx
  unfold PyProof.Rows.up1
  rw [if_pos this]; omega
theorem w_up (C : Cxt name one letter mark up n2 n3 n7 pre post odd camel wd digit place d l k) : WN 6 up := nosp (fun c h => by have := up_at C c h; omega) (by rw [C.h_up, List.length_map]; exact C.nm.2.1)
theorem w_n2 (C : Cxt name one letter mark up n2 n3 n7 pre post odd camel wd digit place d l k) : WN 6 n2 := nosp (fun c h => by rw [C.h_n2] at h; have := C.nm.2.2 c (List.mem_of_mem_take h); omega) (by rw [C.h_n2, List.length_take]; have := C.nm.2.1; omega)
theorem w_n3 (C : Cxt name one letter mark up n2 n3 n7 pre post odd camel wd digit place d l k) : WN 6 n3 := nosp (fun c h => by rw [C.h_n3] at h; have := C.nm.2.2 c (List.mem_of_mem_take h); omega) (by rw [C.h_n3, List.length_take]; have := C.nm.2.1; omega)
theorem w_n7 (C : Cxt name one letter mark up n2 n3 n7 pre post odd camel wd digit place d l k) : WN 7 n7 := nosp (fun c h => by have := C.h_n7.2 c h; simp [isLet] at this; omega) (by rw [C.h_n7.1]; decide)
theorem w_pre (C : Cxt name one letter mark up n2 n3 n7 pre post odd camel wd digit place d l k) : WN 6 pre := nosp (fun c h => by rw [C.h_pre] at h; have := C.nm.2.2 c (List.mem_of_mem_take h); omega) (by rw [C.h_pre, List.length_take]; have := C.nm.2.1; omega)
theorem w_post (C : Cxt name one letter mark up n2 n3 n7 pre post odd camel wd digit place d l k) : WN 6 post := nosp (fun c h => by rw [C.h_post] at h; have := C.nm.2.2 c (List.mem_of_mem_drop h); omega) (by rw [C.h_post, List.length_drop]; have := C.nm.2.1; omega)
theorem w_odd (C : Cxt name one letter mark up n2 n3 n7 pre post odd camel wd digit place d l k) : WN 13 odd := by rw [C.h_odd]; exact wn_app (wn_app (w_pre C) (w_mark C)) (w_post C)
theorem w_camel (C : Cxt name one letter mark up n2 n3 n7 pre post odd camel wd digit place d l k) : WN 7 camel := nosp (fun c h => by
  rw [C.h_camel] at h
  rcases List.mem_append.mp h with h | h
  · have := C.nm.2.2 c (List.mem_of_mem_take h); omega
  · simp at h; omega) (by rw [C.h_camel]; simp; omega)
theorem w_wd (C : Cxt name one letter mark up n2 n3 n7 pre post odd camel wd digit place d l k) : WN 6 wd := nosp (fun c h => by have := (nameL_of C.h_wd.1).2.2 c h; omega) (nameL_of C.h_wd.1).2.1
end
end Lw
/-! printed by genk02.py -/
namespace Lw
open PySem L2 Mi TL
@[simp] theorem cl_0 : cs ("" : Str) = [] := by decide +kernel
@[simp] theorem cl_1 : cs (" " : Str) = [32] := by decide +kernel
@[simp] theorem cl_2 : cs ("  " : Str) = [32, 32] := by decide +kernel
@[simp] theorem cl_3 : cs (" +" : Str) = [32, 43] := by decide +kernel
@[simp] theorem cl_4 : cs (" -" : Str) = [32, 45] := by decide +kernel
@[simp] theorem cl_5 : cs (" 0" : Str) = [32, 48] := by decide +kernel
@[simp] theorem cl_6 : cs (" 1" : Str) = [32, 49] := by decide +kernel
@[simp] theorem cl_7 : cs (" 1 1" : Str) = [32, 49, 32, 49] := by decide +kernel
@[simp] theorem cl_8 : cs (" 2" : Str) = [32, 50] := by decide +kernel
@[simp] theorem cl_9 : cs (" R" : Str) = [32, 82] := by decide +kernel
@[simp] theorem cl_10 : cs (" fence" : Str) = [32, 102, 101, 110, 99, 101] := by decide +kernel
@[simp] theorem cl_11 : cs (" load " : Str) = [32, 108, 111, 97, 100, 32] := by decide +kernel
@[simp] theorem cl_12 : cs (" r" : Str) = [32, 114] := by decide +kernel
@[simp] theorem cl_13 : cs (" r " : Str) = [32, 114, 32] := by decide +kernel
@[simp] theorem cl_14 : cs (" rr" : Str) = [32, 114, 114] := by decide +kernel
@[simp] theorem cl_15 : cs ("+" : Str) = [43] := by decide +kernel
@[simp] theorem cl_16 : cs ("-" : Str) = [45] := by decide +kernel
@[simp] theorem cl_17 : cs ("." : Str) = [46] := by decide +kernel
@[simp] theorem cl_18 : cs ("0" : Str) = [48] := by decide +kernel
@[simp] theorem cl_19 : cs ("1" : Str) = [49] := by decide +kernel
@[simp] theorem cl_20 : cs ("10" : Str) = [49, 48] := by decide +kernel
@[simp] theorem cl_21 : cs ("2" : Str) = [50] := by decide +kernel
@[simp] theorem cl_22 : cs ("Fence" : Str) = [70, 101, 110, 99, 101] := by decide +kernel
@[simp] theorem cl_23 : cs ("Jump" : Str) = [74, 117, 109, 112] := by decide +kernel
@[simp] theorem cl_24 : cs ("Jump " : Str) = [74, 117, 109, 112, 32] := by decide +kernel
@[simp] theorem cl_25 : cs ("LOAD" : Str) = [76, 79, 65, 68] := by decide +kernel
@[simp] theorem cl_26 : cs ("LOAD " : Str) = [76, 79, 65, 68, 32] := by decide +kernel
@[simp] theorem cl_27 : cs ("Load" : Str) = [76, 111, 97, 100] := by decide +kernel
@[simp] theorem cl_28 : cs ("Load " : Str) = [76, 111, 97, 100, 32] := by decide +kernel
@[simp] theorem cl_29 : cs ("R" : Str) = [82] := by decide +kernel
@[simp] theorem cl_30 : cs ("STORE" : Str) = [83, 84, 79, 82, 69] := by decide +kernel
@[simp] theorem cl_31 : cs ("STORE " : Str) = [83, 84, 79, 82, 69, 32] := by decide +kernel
@[simp] theorem cl_32 : cs ("Store" : Str) = [83, 116, 111, 114, 101] := by decide +kernel
@[simp] theorem cl_33 : cs ("Store " : Str) = [83, 116, 111, 114, 101, 32] := by decide +kernel
@[simp] theorem cl_34 : cs ("Swap" : Str) = [83, 119, 97, 112] := by decide +kernel
@[simp] theorem cl_35 : cs ("Swap " : Str) = [83, 119, 97, 112, 32] := by decide +kernel
@[simp] theorem cl_36 : cs ("Test" : Str) = [84, 101, 115, 116] := by decide +kernel
@[simp] theorem cl_37 : cs ("Test " : Str) = [84, 101, 115, 116, 32] := by decide +kernel
@[simp] theorem cl_38 : cs ("_" : Str) = [95] := by decide +kernel
@[simp] theorem cl_39 : cs ("abcdefg" : Str) = [97, 98, 99, 100, 101, 102, 103] := by decide +kernel
@[simp] theorem cl_40 : cs ("cells" : Str) = [99, 101, 108, 108, 115] := by decide +kernel
@[simp] theorem cl_41 : cs ("cells " : Str) = [99, 101, 108, 108, 115, 32] := by decide +kernel
@[simp] theorem cl_42 : cs ("fence" : Str) = [102, 101, 110, 99, 101] := by decide +kernel
@[simp] theorem cl_43 : cs ("fence " : Str) = [102, 101, 110, 99, 101, 32] := by decide +kernel
@[simp] theorem cl_44 : cs ("fences" : Str) = [102, 101, 110, 99, 101, 115] := by decide +kernel
@[simp] theorem cl_45 : cs ("halt" : Str) = [104, 97, 108, 116] := by decide +kernel
@[simp] theorem cl_46 : cs ("jump" : Str) = [106, 117, 109, 112] := by decide +kernel
@[simp] theorem cl_47 : cs ("jump " : Str) = [106, 117, 109, 112, 32] := by decide +kernel
@[simp] theorem cl_48 : cs ("jump +" : Str) = [106, 117, 109, 112, 32, 43] := by decide +kernel
@[simp] theorem cl_49 : cs ("jump -" : Str) = [106, 117, 109, 112, 32, 45] := by decide +kernel
@[simp] theorem cl_50 : cs ("jump 0" : Str) = [106, 117, 109, 112, 32, 48] := by decide +kernel
@[simp] theorem cl_51 : cs ("jump 1" : Str) = [106, 117, 109, 112, 32, 49] := by decide +kernel
@[simp] theorem cl_52 : cs ("jump 1 1" : Str) = [106, 117, 109, 112, 32, 49, 32, 49] := by decide +kernel
@[simp] theorem cl_53 : cs ("jump 10" : Str) = [106, 117, 109, 112, 32, 49, 48] := by decide +kernel
@[simp] theorem cl_54 : cs ("jumps" : Str) = [106, 117, 109, 112, 115] := by decide +kernel
@[simp] theorem cl_55 : cs ("jumps " : Str) = [106, 117, 109, 112, 115, 32] := by decide +kernel
@[simp] theorem cl_56 : cs ("load" : Str) = [108, 111, 97, 100] := by decide +kernel
@[simp] theorem cl_57 : cs ("load " : Str) = [108, 111, 97, 100, 32] := by decide +kernel
@[simp] theorem cl_58 : cs ("load  " : Str) = [108, 111, 97, 100, 32, 32] := by decide +kernel
@[simp] theorem cl_59 : cs ("load abcdefg" : Str) = [108, 111, 97, 100, 32, 97, 98, 99, 100, 101, 102, 103] := by decide +kernel
@[simp] theorem cl_60 : cs ("loads" : Str) = [108, 111, 97, 100, 115] := by decide +kernel
@[simp] theorem cl_61 : cs ("loads " : Str) = [108, 111, 97, 100, 115, 32] := by decide +kernel
@[simp] theorem cl_62 : cs ("r" : Str) = [114] := by decide +kernel
@[simp] theorem cl_63 : cs ("rr" : Str) = [114, 114] := by decide +kernel
@[simp] theorem cl_64 : cs ("store" : Str) = [115, 116, 111, 114, 101] := by decide +kernel
@[simp] theorem cl_65 : cs ("store " : Str) = [115, 116, 111, 114, 101, 32] := by decide +kernel
@[simp] theorem cl_66 : cs ("store  " : Str) = [115, 116, 111, 114, 101, 32, 32] := by decide +kernel
@[simp] theorem cl_67 : cs ("store r" : Str) = [115, 116, 111, 114, 101, 32, 114] := by decide +kernel
@[simp] theorem cl_68 : cs ("stores" : Str) = [115, 116, 111, 114, 101, 115] := by decide +kernel
@[simp] theorem cl_69 : cs ("stores " : Str) = [115, 116, 111, 114, 101, 115, 32] := by decide +kernel
@[simp] theorem cl_70 : cs ("swap" : Str) = [115, 119, 97, 112] := by decide +kernel
@[simp] theorem cl_71 : cs ("swap " : Str) = [115, 119, 97, 112, 32] := by decide +kernel
@[simp] theorem cl_72 : cs ("swap r" : Str) = [115, 119, 97, 112, 32, 114] := by decide +kernel
@[simp] theorem cl_73 : cs ("swaps" : Str) = [115, 119, 97, 112, 115] := by decide +kernel
@[simp] theorem cl_74 : cs ("swaps " : Str) = [115, 119, 97, 112, 115, 32] := by decide +kernel
@[simp] theorem cl_75 : cs ("test" : Str) = [116, 101, 115, 116] := by decide +kernel
@[simp] theorem cl_76 : cs ("test " : Str) = [116, 101, 115, 116, 32] := by decide +kernel
@[simp] theorem cl_77 : cs ("test  " : Str) = [116, 101, 115, 116, 32, 32] := by decide +kernel
@[simp] theorem cl_78 : cs ("test -" : Str) = [116, 101, 115, 116, 32, 45] := by decide +kernel
@[simp] theorem cl_79 : cs ("test 1" : Str) = [116, 101, 115, 116, 32, 49] := by decide +kernel
@[simp] theorem cl_80 : cs ("test r 0" : Str) = [116, 101, 115, 116, 32, 114, 32, 48] := by decide +kernel
@[simp] theorem cl_81 : cs ("tests" : Str) = [116, 101, 115, 116, 115] := by decide +kernel
@[simp] theorem cl_82 : cs ("tests " : Str) = [116, 101, 115, 116, 115, 32] := by decide +kernel
@[simp] theorem cl_83 : cs ("thread" : Str) = [116, 104, 114, 101, 97, 100] := by decide +kernel
theorem wl_0 : WN 1 ("." : Str) := wn_lit (by decide +kernel)
theorem wl_1 : WN 4 ("jump" : Str) := wn_lit (by decide +kernel)
theorem wl_2 : WN 5 ("cells" : Str) := wn_lit (by decide +kernel)
theorem wl_3 : WN 6 ("thread" : Str) := wn_lit (by decide +kernel)
theorem wl_4 : WN 4 ("halt" : Str) := wn_lit (by decide +kernel)
theorem wl_5 : WN 1 ("1" : Str) := wn_lit (by decide +kernel)
theorem wl_6 : WN 0 ("" : Str) := wn_lit (by decide +kernel)
theorem wl_7 : WN 1 ("+" : Str) := wn_lit (by decide +kernel)
theorem wl_8 : WN 1 ("-" : Str) := wn_lit (by decide +kernel)
theorem wl_9 : WN 2 ("10" : Str) := wn_lit (by decide +kernel)
theorem wl_10 : WN 5 ("store" : Str) := wn_lit (by decide +kernel)
theorem wl_11 : WN 4 ("test" : Str) := wn_lit (by decide +kernel)
theorem wl_12 : WN 4 ("swap" : Str) := wn_lit (by decide +kernel)
theorem wl_13 : WN 1 ("0" : Str) := wn_lit (by decide +kernel)
theorem wl_14 : WN 1 ("r" : Str) := wn_lit (by decide +kernel)
theorem wl_15 : WN 7 ("abcdefg" : Str) := wn_lit (by decide +kernel)
theorem wl_16 : WN 4 ("load" : Str) := wn_lit (by decide +kernel)
theorem wl_17 : WN 1 ("_" : Str) := wn_lit (by decide +kernel)
theorem wl_18 : WN 2 ("rr" : Str) := wn_lit (by decide +kernel)
theorem wl_19 : WN 1 ("R" : Str) := wn_lit (by decide +kernel)
theorem wl_20 : WN 5 ("loads" : Str) := wn_lit (by decide +kernel)
theorem wl_21 : WN 4 ("LOAD" : Str) := wn_lit (by decide +kernel)
theorem wl_22 : WN 4 ("Load" : Str) := wn_lit (by decide +kernel)
theorem wl_23 : WN 6 ("fences" : Str) := wn_lit (by decide +kernel)
theorem wl_24 : WN 5 ("Fence" : Str) := wn_lit (by decide +kernel)
theorem wl_25 : WN 5 ("fence" : Str) := wn_lit (by decide +kernel)
theorem wl_26 : WN 5 ("jumps" : Str) := wn_lit (by decide +kernel)
theorem wl_27 : WN 5 ("tests" : Str) := wn_lit (by decide +kernel)
theorem wl_28 : WN 5 ("swaps" : Str) := wn_lit (by decide +kernel)
theorem wl_29 : WN 6 ("stores" : Str) := wn_lit (by decide +kernel)
theorem wl_30 : WN 5 ("STORE" : Str) := wn_lit (by decide +kernel)
theorem wl_31 : WN 4 ("Jump" : Str) := wn_lit (by decide +kernel)
theorem wl_32 : WN 4 ("Test" : Str) := wn_lit (by decide +kernel)
theorem wl_33 : WN 4 ("Swap" : Str) := wn_lit (by decide +kernel)
theorem wl_34 : WN 5 ("Store" : Str) := wn_lit (by decide +kernel)
theorem wl_35 : WN 1 ("2" : Str) := wn_lit (by decide +kernel)
theorem ll_0 : decide (("jump " : Str).length ≤ 5) = true := by decide +kernel
theorem ll_1 : decide (("." : Str).length ≤ 1) = true := by decide +kernel
theorem ll_2 : decide ((" " : Str).length ≤ 1) = true := by decide +kernel
theorem ll_3 : decide (("cells " : Str).length ≤ 6) = true := by decide +kernel
theorem ll_4 : decide (("thread" : Str).length ≤ 6) = true := by decide +kernel
theorem ll_5 : decide (("halt" : Str).length ≤ 4) = true := by decide +kernel
theorem ll_6 : decide (("jump 1 1" : Str).length ≤ 8) = true := by decide +kernel
theorem ll_7 : decide (("jump +" : Str).length ≤ 6) = true := by decide +kernel
theorem ll_8 : decide (("jump -" : Str).length ≤ 6) = true := by decide +kernel
theorem ll_9 : decide (("jump 10" : Str).length ≤ 7) = true := by decide +kernel
theorem ll_10 : decide (("store  " : Str).length ≤ 7) = true := by decide +kernel
theorem ll_11 : decide (("test " : Str).length ≤ 5) = true := by decide +kernel
theorem ll_12 : decide (("test  " : Str).length ≤ 6) = true := by decide +kernel
theorem ll_13 : decide (("swap " : Str).length ≤ 5) = true := by decide +kernel
theorem ll_14 : decide (("store " : Str).length ≤ 6) = true := by decide +kernel
theorem ll_15 : decide (("jump 0" : Str).length ≤ 6) = true := by decide +kernel
theorem ll_16 : decide (("test -" : Str).length ≤ 6) = true := by decide +kernel
theorem ll_17 : decide ((" 1" : Str).length ≤ 2) = true := by decide +kernel
theorem ll_18 : decide ((" 1 1" : Str).length ≤ 4) = true := by decide +kernel
theorem ll_19 : decide ((" 0" : Str).length ≤ 2) = true := by decide +kernel
theorem ll_20 : decide ((" r" : Str).length ≤ 2) = true := by decide +kernel
theorem ll_21 : decide (("test r 0" : Str).length ≤ 8) = true := by decide +kernel
theorem ll_22 : decide (("test 1" : Str).length ≤ 6) = true := by decide +kernel
theorem ll_23 : decide (("swap r" : Str).length ≤ 6) = true := by decide +kernel
theorem ll_24 : decide (("store r" : Str).length ≤ 7) = true := by decide +kernel
theorem ll_25 : decide (("load abcdefg" : Str).length ≤ 12) = true := by decide +kernel
theorem ll_26 : decide (("load " : Str).length ≤ 5) = true := by decide +kernel
theorem ll_27 : decide (("_" : Str).length ≤ 1) = true := by decide +kernel
theorem ll_28 : decide ((" +" : Str).length ≤ 2) = true := by decide +kernel
theorem ll_29 : decide ((" -" : Str).length ≤ 2) = true := by decide +kernel
theorem ll_30 : decide ((" r " : Str).length ≤ 3) = true := by decide +kernel
theorem ll_31 : decide ((" rr" : Str).length ≤ 3) = true := by decide +kernel
theorem ll_32 : decide ((" R" : Str).length ≤ 2) = true := by decide +kernel
theorem ll_33 : decide (("  " : Str).length ≤ 2) = true := by decide +kernel
theorem ll_34 : decide (("loads " : Str).length ≤ 6) = true := by decide +kernel
theorem ll_35 : decide (("LOAD " : Str).length ≤ 5) = true := by decide +kernel
theorem ll_36 : decide (("Load " : Str).length ≤ 5) = true := by decide +kernel
theorem ll_37 : decide ((" load " : Str).length ≤ 6) = true := by decide +kernel
theorem ll_38 : decide (("load  " : Str).length ≤ 6) = true := by decide +kernel
theorem ll_39 : decide (("fences" : Str).length ≤ 6) = true := by decide +kernel
theorem ll_40 : decide (("Fence" : Str).length ≤ 5) = true := by decide +kernel
theorem ll_41 : decide (("fence " : Str).length ≤ 6) = true := by decide +kernel
theorem ll_42 : decide ((" fence" : Str).length ≤ 6) = true := by decide +kernel
theorem ll_43 : decide (("jump" : Str).length ≤ 4) = true := by decide +kernel
theorem ll_44 : decide (("store" : Str).length ≤ 5) = true := by decide +kernel
theorem ll_45 : decide (("load" : Str).length ≤ 4) = true := by decide +kernel
theorem ll_46 : decide (("" : Str).length ≤ 0) = true := by decide +kernel
theorem ll_47 : decide (("jumps " : Str).length ≤ 6) = true := by decide +kernel
theorem ll_48 : decide (("tests " : Str).length ≤ 6) = true := by decide +kernel
theorem ll_49 : decide (("swaps " : Str).length ≤ 6) = true := by decide +kernel
theorem ll_50 : decide (("stores " : Str).length ≤ 7) = true := by decide +kernel
theorem ll_51 : decide (("STORE " : Str).length ≤ 6) = true := by decide +kernel
theorem ll_52 : decide (("Jump " : Str).length ≤ 5) = true := by decide +kernel
theorem ll_53 : decide (("Test " : Str).length ≤ 5) = true := by decide +kernel
theorem ll_54 : decide (("Swap " : Str).length ≤ 5) = true := by decide +kernel
theorem ll_55 : decide (("Store " : Str).length ≤ 6) = true := by decide +kernel
theorem ll_56 : decide ((" 2" : Str).length ≤ 2) = true := by decide +kernel
theorem ll_57 : decide (("1" : Str).length ≤ 1) = true := by decide +kernel
theorem ll_58 : decide (("jump 1" : Str).length ≤ 6) = true := by decide +kernel
section
variable {name one letter mark up n2 n3 n7 pre post odd camel wd : Str} {digit place : Int} {d l k : Nat}
theorem ft_0 (C : Cxt name one letter mark up n2 n3 n7 pre post odd camel wd digit place d l k) : targetL (cs (one ++ ("." : Str) ++ one)) = false := by
  have h1 := C.h_d; have h2 := C.h_l; have h3 := C.h_k; simp [cs_app, C.h_one, C.h_letter, C.h_mark, targetL, valueL, isDig1, isDig] <;> omega
theorem ft_1 (C : Cxt name one letter mark up n2 n3 n7 pre post odd camel wd digit place d l k) : ¬ one = ("fence" : Str) := fun h => by
  have e := congrArg cs h
  have h1 := C.h_d; have h2 := C.h_l; have h3 := C.h_k; simp [cs_app, C.h_one, C.h_letter, C.h_mark] at e <;> omega
theorem ft_2 (C : Cxt name one letter mark up n2 n3 n7 pre post odd camel wd digit place d l k) : ¬ up = ("load" : Str) := fun h => by
  have h1 := up_at C 108 (by rw [h]; simp)
  omega
theorem ft_3 (C : Cxt name one letter mark up n2 n3 n7 pre post odd camel wd digit place d l k) : ¬ up = ("jump" : Str) := fun h => by
  have h1 := up_at C 106 (by rw [h]; simp)
  omega
theorem ft_4 : ¬ ("cells" : Str) = ("load" : Str) := by decide +kernel
theorem ft_5 : ¬ ("cells" : Str) = ("jump" : Str) := by decide +kernel
theorem ft_6 : ¬ ("thread" : Str) = ("fence" : Str) := by decide +kernel
theorem ft_7 : ¬ ("halt" : Str) = ("fence" : Str) := by decide +kernel
theorem ft_8 : ¬ ("jump" : Str) = ("test" : Str) := by decide +kernel
theorem ft_9 : ¬ ("jump" : Str) = ("store" : Str) := by decide +kernel
theorem ft_10 : ¬ ("jump" : Str) = ("swap" : Str) := by decide +kernel
theorem ft_11 (C : Cxt name one letter mark up n2 n3 n7 pre post odd camel wd digit place d l k) : targetL (cs name) = false := targetL_name C.h_name
theorem ft_12 (C : Cxt name one letter mark up n2 n3 n7 pre post odd camel wd digit place d l k) : targetL (cs (("+" : Str) ++ one)) = false := by
  have h1 := C.h_d; have h2 := C.h_l; have h3 := C.h_k; simp [cs_app, C.h_one, C.h_letter, C.h_mark, targetL, valueL, isDig1, isDig] <;> omega
theorem ft_13 (C : Cxt name one letter mark up n2 n3 n7 pre post odd camel wd digit place d l k) : targetL (cs (("-" : Str) ++ one)) = false := by
  have h1 := C.h_d; have h2 := C.h_l; have h3 := C.h_k; simp [cs_app, C.h_one, C.h_letter, C.h_mark, targetL, valueL, isDig1, isDig] <;> omega
theorem ft_14 (C : Cxt name one letter mark up n2 n3 n7 pre post odd camel wd digit place d l k) : targetL (cs (("10" : Str) ++ one)) = false := by
  have h1 := C.h_d; have h2 := C.h_l; have h3 := C.h_k; simp [cs_app, C.h_one, C.h_letter, C.h_mark, targetL, valueL, isDig1, isDig] <;> omega
theorem ft_15 : ¬ ("store" : Str) = ("test" : Str) := by decide +kernel
theorem ft_16 : nameL (cs ("" : Str)) = false := by decide +kernel
theorem ft_17 : targetL (cs ("" : Str)) = false := by decide +kernel
theorem ft_18 : valueL (cs ("" : Str)) = false := by decide +kernel
theorem ft_19 : ¬ ("swap" : Str) = ("test" : Str) := by decide +kernel
theorem ft_20 : ¬ ("" : Str) = ("r" : Str) := by decide +kernel
theorem ft_21 (C : Cxt name one letter mark up n2 n3 n7 pre post odd camel wd digit place d l k) : targetL (cs (("0" : Str) ++ one)) = false := by
  have h1 := C.h_d; have h2 := C.h_l; have h3 := C.h_k; simp [cs_app, C.h_one, C.h_letter, C.h_mark, targetL, valueL, isDig1, isDig] <;> omega
theorem ft_22 (C : Cxt name one letter mark up n2 n3 n7 pre post odd camel wd digit place d l k) : valueL (cs (("-" : Str) ++ one)) = false := by
  have h1 := C.h_d; have h2 := C.h_l; have h3 := C.h_k; simp [cs_app, C.h_one, C.h_letter, C.h_mark, targetL, valueL, isDig1, isDig] <;> omega
theorem ft_23 : ¬ ("test" : Str) = ("load" : Str) := by decide +kernel
theorem ft_24 : ¬ ("test" : Str) = ("jump" : Str) := by decide +kernel
theorem ft_25 : targetL (cs ("r" : Str)) = false := by decide +kernel
theorem ft_26 : valueL (cs ("r" : Str)) = false := by decide +kernel
theorem ft_27 (C : Cxt name one letter mark up n2 n3 n7 pre post odd camel wd digit place d l k) : valueL (cs (("1" : Str) ++ one)) = false := by
  have h1 := C.h_d; have h2 := C.h_l; have h3 := C.h_k; simp [cs_app, C.h_one, C.h_letter, C.h_mark, targetL, valueL, isDig1, isDig] <;> omega
theorem ft_28 : ¬ ("swap" : Str) = ("load" : Str) := by decide +kernel
theorem ft_29 : ¬ ("swap" : Str) = ("jump" : Str) := by decide +kernel
theorem ft_30 : ¬ ("store" : Str) = ("load" : Str) := by decide +kernel
theorem ft_31 : ¬ ("store" : Str) = ("jump" : Str) := by decide +kernel
theorem ft_32 (C : Cxt name one letter mark up n2 n3 n7 pre post odd camel wd digit place d l k) : nameL (cs n7) = false := by
  cases e : nameL (cs n7) with
  | false => rfl
  | true => have h1 := (nameL_of e).2.1; have h2 := C.h_n7.1; omega
theorem ft_33 (C : Cxt name one letter mark up n2 n3 n7 pre post odd camel wd digit place d l k) : nameL (cs up) = false := by
  have h1 := C.nm.1
  have h2 : (cs up).length = (cs name).length := by rw [C.h_up, List.length_map]
  match h : cs up with
  | [] => rfl
  | c :: r => have h3 := up_at C c (by rw [h]; simp); exact nameL_mem (c := c) (by simp) (by omega)
theorem ft_34 : nameL (cs ("abcdefg" : Str)) = false := by decide +kernel
theorem ft_35 (C : Cxt name one letter mark up n2 n3 n7 pre post odd camel wd digit place d l k) : nameL (cs (n2 ++ ("_" : Str))) = false := nameL_mem (c := 95) (by simp [cs_app, C.h_one, C.h_letter, C.h_mark]) (by have h1 := C.h_d; have h2 := C.h_l; have h3 := C.h_k; omega)
theorem ft_36 (C : Cxt name one letter mark up n2 n3 n7 pre post odd camel wd digit place d l k) : nameL (cs one) = false := nameL_mem (c := d) (by simp [cs_app, C.h_one, C.h_letter, C.h_mark]) (by have h1 := C.h_d; have h2 := C.h_l; have h3 := C.h_k; omega)
theorem ft_37 (C : Cxt name one letter mark up n2 n3 n7 pre post odd camel wd digit place d l k) : nameL (cs (n3 ++ one)) = false := nameL_mem (c := d) (by simp [cs_app, C.h_one, C.h_letter, C.h_mark]) (by have h1 := C.h_d; have h2 := C.h_l; have h3 := C.h_k; omega)
theorem ft_38 (C : Cxt name one letter mark up n2 n3 n7 pre post odd camel wd digit place d l k) : ¬ (("+" : Str) ++ one) = ("r" : Str) := fun h => by
  have e := congrArg cs h
  have h1 := C.h_d; have h2 := C.h_l; have h3 := C.h_k; simp [cs_app, C.h_one, C.h_letter, C.h_mark] at e <;> omega
theorem ft_39 (C : Cxt name one letter mark up n2 n3 n7 pre post odd camel wd digit place d l k) : valueL (cs (("+" : Str) ++ one)) = false := by
  have h1 := C.h_d; have h2 := C.h_l; have h3 := C.h_k; simp [cs_app, C.h_one, C.h_letter, C.h_mark, targetL, valueL, isDig1, isDig] <;> omega
theorem ft_40 (C : Cxt name one letter mark up n2 n3 n7 pre post odd camel wd digit place d l k) : ¬ (("-" : Str) ++ one) = ("r" : Str) := fun h => by
  have e := congrArg cs h
  have h1 := C.h_d; have h2 := C.h_l; have h3 := C.h_k; simp [cs_app, C.h_one, C.h_letter, C.h_mark] at e <;> omega
theorem ft_41 : ¬ ("rr" : Str) = ("r" : Str) := by decide +kernel
theorem ft_42 : valueL (cs ("rr" : Str)) = false := by decide +kernel
theorem ft_43 : ¬ ("R" : Str) = ("r" : Str) := by decide +kernel
theorem ft_44 : valueL (cs ("R" : Str)) = false := by decide +kernel
theorem ft_45 (C : Cxt name one letter mark up n2 n3 n7 pre post odd camel wd digit place d l k) : ¬ letter = ("r" : Str) := fun h => by
  have e := congrArg cs h
  have h1 := C.h_d; have h2 := C.h_l; have h3 := C.h_k; simp [cs_app, C.h_one, C.h_letter, C.h_mark] at e <;> omega
theorem ft_46 (C : Cxt name one letter mark up n2 n3 n7 pre post odd camel wd digit place d l k) : valueL (cs letter) = false := by
  have h1 := C.h_d; have h2 := C.h_l; have h3 := C.h_k; simp [cs_app, C.h_one, C.h_letter, C.h_mark, targetL, valueL, isDig1, isDig] <;> omega
theorem ft_47 (C : Cxt name one letter mark up n2 n3 n7 pre post odd camel wd digit place d l k) : ¬ (("0" : Str) ++ one) = ("r" : Str) := fun h => by
  have e := congrArg cs h
  have h1 := C.h_d; have h2 := C.h_l; have h3 := C.h_k; simp [cs_app, C.h_one, C.h_letter, C.h_mark] at e <;> omega
theorem ft_48 (C : Cxt name one letter mark up n2 n3 n7 pre post odd camel wd digit place d l k) : valueL (cs (("0" : Str) ++ one)) = false := by
  have h1 := C.h_d; have h2 := C.h_l; have h3 := C.h_k; simp [cs_app, C.h_one, C.h_letter, C.h_mark, targetL, valueL, isDig1, isDig] <;> omega
theorem ft_49 (C : Cxt name one letter mark up n2 n3 n7 pre post odd camel wd digit place d l k) : ¬ (("1" : Str) ++ one) = ("r" : Str) := fun h => by
  have e := congrArg cs h
  have h1 := C.h_d; have h2 := C.h_l; have h3 := C.h_k; simp [cs_app, C.h_one, C.h_letter, C.h_mark] at e <;> omega
theorem ft_50 : ¬ ("loads" : Str) = ("load" : Str) := by decide +kernel
theorem ft_51 : ¬ ("loads" : Str) = ("jump" : Str) := by decide +kernel
theorem ft_52 : ¬ ("LOAD" : Str) = ("load" : Str) := by decide +kernel
theorem ft_53 : ¬ ("LOAD" : Str) = ("jump" : Str) := by decide +kernel
theorem ft_54 : ¬ ("Load" : Str) = ("load" : Str) := by decide +kernel
theorem ft_55 : ¬ ("Load" : Str) = ("jump" : Str) := by decide +kernel
theorem ft_56 : ¬ ("load" : Str) = ("test" : Str) := by decide +kernel
theorem ft_57 : ¬ ("load" : Str) = ("store" : Str) := by decide +kernel
theorem ft_58 : ¬ ("load" : Str) = ("swap" : Str) := by decide +kernel
theorem ft_59 : ¬ ("" : Str) = ("test" : Str) := by decide +kernel
theorem ft_60 : ¬ ("" : Str) = ("store" : Str) := by decide +kernel
theorem ft_61 : ¬ ("" : Str) = ("swap" : Str) := by decide +kernel
theorem ft_62 : ¬ ("fences" : Str) = ("fence" : Str) := by decide +kernel
theorem ft_63 : ¬ ("Fence" : Str) = ("fence" : Str) := by decide +kernel
theorem ft_64 : ¬ ("fence" : Str) = ("load" : Str) := by decide +kernel
theorem ft_65 : ¬ ("fence" : Str) = ("jump" : Str) := by decide +kernel
theorem ft_66 : ¬ ("" : Str) = ("load" : Str) := by decide +kernel
theorem ft_67 : ¬ ("" : Str) = ("jump" : Str) := by decide +kernel
theorem ft_68 : ¬ ("jump" : Str) = ("fence" : Str) := by decide +kernel
theorem ft_69 : ¬ ("store" : Str) = ("fence" : Str) := by decide +kernel
theorem ft_70 : ¬ ("load" : Str) = ("fence" : Str) := by decide +kernel
theorem ft_71 : ¬ ("" : Str) = ("fence" : Str) := by decide +kernel
theorem ft_72 (C : Cxt name one letter mark up n2 n3 n7 pre post odd camel wd digit place d l k) : ¬ wd = ("test" : Str) := C.h_wd.2.2.2.2.2.1
theorem ft_73 (C : Cxt name one letter mark up n2 n3 n7 pre post odd camel wd digit place d l k) : ¬ wd = ("store" : Str) := C.h_wd.2.2.1
theorem ft_74 (C : Cxt name one letter mark up n2 n3 n7 pre post odd camel wd digit place d l k) : ¬ wd = ("swap" : Str) := C.h_wd.2.2.2.1
theorem ft_75 (C : Cxt name one letter mark up n2 n3 n7 pre post odd camel wd digit place d l k) : ¬ wd = ("load" : Str) := C.h_wd.2.1
theorem ft_76 (C : Cxt name one letter mark up n2 n3 n7 pre post odd camel wd digit place d l k) : ¬ wd = ("jump" : Str) := C.h_wd.2.2.2.2.2.2
theorem ft_77 (C : Cxt name one letter mark up n2 n3 n7 pre post odd camel wd digit place d l k) : ¬ wd = ("fence" : Str) := C.h_wd.2.2.2.2.1
theorem ft_78 : ¬ ("jumps" : Str) = ("load" : Str) := by decide +kernel
theorem ft_79 : ¬ ("jumps" : Str) = ("jump" : Str) := by decide +kernel
theorem ft_80 : ¬ ("tests" : Str) = ("test" : Str) := by decide +kernel
theorem ft_81 : ¬ ("tests" : Str) = ("store" : Str) := by decide +kernel
theorem ft_82 : ¬ ("tests" : Str) = ("swap" : Str) := by decide +kernel
theorem ft_83 : ¬ ("swaps" : Str) = ("test" : Str) := by decide +kernel
theorem ft_84 : ¬ ("swaps" : Str) = ("store" : Str) := by decide +kernel
theorem ft_85 : ¬ ("swaps" : Str) = ("swap" : Str) := by decide +kernel
theorem ft_86 : ¬ ("stores" : Str) = ("test" : Str) := by decide +kernel
theorem ft_87 : ¬ ("stores" : Str) = ("store" : Str) := by decide +kernel
theorem ft_88 : ¬ ("stores" : Str) = ("swap" : Str) := by decide +kernel
theorem ft_89 : ¬ ("STORE" : Str) = ("test" : Str) := by decide +kernel
theorem ft_90 : ¬ ("STORE" : Str) = ("store" : Str) := by decide +kernel
theorem ft_91 : ¬ ("STORE" : Str) = ("swap" : Str) := by decide +kernel
theorem ft_92 : ¬ ("Jump" : Str) = ("load" : Str) := by decide +kernel
theorem ft_93 : ¬ ("Jump" : Str) = ("jump" : Str) := by decide +kernel
theorem ft_94 : ¬ ("Test" : Str) = ("test" : Str) := by decide +kernel
theorem ft_95 : ¬ ("Test" : Str) = ("store" : Str) := by decide +kernel
theorem ft_96 : ¬ ("Test" : Str) = ("swap" : Str) := by decide +kernel
theorem ft_97 : ¬ ("Swap" : Str) = ("test" : Str) := by decide +kernel
theorem ft_98 : ¬ ("Swap" : Str) = ("store" : Str) := by decide +kernel
theorem ft_99 : ¬ ("Swap" : Str) = ("swap" : Str) := by decide +kernel
theorem ft_100 : ¬ ("Store" : Str) = ("test" : Str) := by decide +kernel
theorem ft_101 : ¬ ("Store" : Str) = ("store" : Str) := by decide +kernel
theorem ft_102 : ¬ ("Store" : Str) = ("swap" : Str) := by decide +kernel
theorem ft_103 (C : Cxt name one letter mark up n2 n3 n7 pre post odd camel wd digit place d l k) : targetL (cs (letter ++ one)) = false := by
  have h1 := C.h_d; have h2 := C.h_l; have h3 := C.h_k; simp [cs_app, C.h_one, C.h_letter, C.h_mark, targetL, valueL, isDig1, isDig] <;> omega
theorem ft_104 (C : Cxt name one letter mark up n2 n3 n7 pre post odd camel wd digit place d l k) : targetL (cs mark) = false := by
  have h1 := C.h_d; have h2 := C.h_l; have h3 := C.h_k; simp [cs_app, C.h_one, C.h_letter, C.h_mark, targetL, valueL, isDig1, isDig] <;> omega
theorem ft_105 (C : Cxt name one letter mark up n2 n3 n7 pre post odd camel wd digit place d l k) : targetL (cs (("1" : Str) ++ mark)) = false := by
  have h1 := C.h_d; have h2 := C.h_l; have h3 := C.h_k; simp [cs_app, C.h_one, C.h_letter, C.h_mark, targetL, valueL, isDig1, isDig] <;> omega
theorem ft_106 (C : Cxt name one letter mark up n2 n3 n7 pre post odd camel wd digit place d l k) : targetL (cs (("1" : Str) ++ letter)) = false := by
  have h1 := C.h_d; have h2 := C.h_l; have h3 := C.h_k; simp [cs_app, C.h_one, C.h_letter, C.h_mark, targetL, valueL, isDig1, isDig] <;> omega
theorem ft_107 (C : Cxt name one letter mark up n2 n3 n7 pre post odd camel wd digit place d l k) : targetL (cs (one ++ letter)) = false := by
  have h1 := C.h_d; have h2 := C.h_l; have h3 := C.h_k; simp [cs_app, C.h_one, C.h_letter, C.h_mark, targetL, valueL, isDig1, isDig] <;> omega
theorem ft_108 (C : Cxt name one letter mark up n2 n3 n7 pre post odd camel wd digit place d l k) : valueL (cs (one ++ letter)) = false := by
  have h1 := C.h_d; have h2 := C.h_l; have h3 := C.h_k; simp [cs_app, C.h_one, C.h_letter, C.h_mark, targetL, valueL, isDig1, isDig] <;> omega
theorem ft_109 (C : Cxt name one letter mark up n2 n3 n7 pre post odd camel wd digit place d l k) : valueL (cs mark) = false := by
  have h1 := C.h_d; have h2 := C.h_l; have h3 := C.h_k; simp [cs_app, C.h_one, C.h_letter, C.h_mark, targetL, valueL, isDig1, isDig] <;> omega
theorem ft_110 (C : Cxt name one letter mark up n2 n3 n7 pre post odd camel wd digit place d l k) : targetL (cs (one ++ ("." : Str))) = false := by
  have h1 := C.h_d; have h2 := C.h_l; have h3 := C.h_k; simp [cs_app, C.h_one, C.h_letter, C.h_mark, targetL, valueL, isDig1, isDig] <;> omega
theorem ft_111 (C : Cxt name one letter mark up n2 n3 n7 pre post odd camel wd digit place d l k) : targetL (cs (("10" : Str) ++ letter)) = false := by
  have h1 := C.h_d; have h2 := C.h_l; have h3 := C.h_k; simp [cs_app, C.h_one, C.h_letter, C.h_mark, targetL, valueL, isDig1, isDig] <;> omega
theorem ft_112 (C : Cxt name one letter mark up n2 n3 n7 pre post odd camel wd digit place d l k) : targetL (cs (mark ++ ("1" : Str))) = false := by
  have h1 := C.h_d; have h2 := C.h_l; have h3 := C.h_k; simp [cs_app, C.h_one, C.h_letter, C.h_mark, targetL, valueL, isDig1, isDig] <;> omega
theorem ft_113 (C : Cxt name one letter mark up n2 n3 n7 pre post odd camel wd digit place d l k) : ¬ (one ++ mark) = ("r" : Str) := fun h => by
  have e := congrArg cs h
  have h1 := C.h_d; have h2 := C.h_l; have h3 := C.h_k; simp [cs_app, C.h_one, C.h_letter, C.h_mark] at e <;> omega
theorem ft_114 (C : Cxt name one letter mark up n2 n3 n7 pre post odd camel wd digit place d l k) : valueL (cs (one ++ mark)) = false := by
  have h1 := C.h_d; have h2 := C.h_l; have h3 := C.h_k; simp [cs_app, C.h_one, C.h_letter, C.h_mark, targetL, valueL, isDig1, isDig] <;> omega
theorem ft_115 (C : Cxt name one letter mark up n2 n3 n7 pre post odd camel wd digit place d l k) : ¬ mark = ("r" : Str) := fun h => by
  have e := congrArg cs h
  have h1 := C.h_d; have h2 := C.h_l; have h3 := C.h_k; simp [cs_app, C.h_one, C.h_letter, C.h_mark] at e <;> omega
theorem ft_116 (C : Cxt name one letter mark up n2 n3 n7 pre post odd camel wd digit place d l k) : nameL (cs (pre ++ one ++ post)) = false := nameL_mem (c := d) (by simp [cs_app, C.h_one, C.h_letter, C.h_mark]) (by have h1 := C.h_d; have h2 := C.h_l; have h3 := C.h_k; omega)
theorem ft_117 (C : Cxt name one letter mark up n2 n3 n7 pre post odd camel wd digit place d l k) : nameL (cs camel) = false := nameL_mem (c := 81) (by simp [cs_app, C.h_one, C.h_letter, C.h_mark, C.h_camel]) (by have h1 := C.h_d; have h2 := C.h_l; have h3 := C.h_k; omega)
theorem ft_118 (C : Cxt name one letter mark up n2 n3 n7 pre post odd camel wd digit place d l k) : nameL (cs odd) = false := nameL_mem (c := k) (by simp [cs_app, C.h_one, C.h_letter, C.h_mark, C.h_odd]) (by have h1 := C.h_d; have h2 := C.h_l; have h3 := C.h_k; omega)
theorem ln_0 (C : Cxt name one letter mark up n2 n3 n7 pre post odd camel wd digit place d l k) : Bad (("jump " : Str) ++ one ++ ("." : Str) ++ one) := bad_of (ws := [("jump" : Str), (one ++ ("." : Str) ++ one)]) (by simp [cs_app, joinL]) (Ws.cons wl_1 (Ws.cons (wn_app (wn_app (w_one C) wl_0) (w_one C)) Ws.nil)) (p_jump (ft_0 C))
theorem ln_1 (C : Cxt name one letter mark up n2 n3 n7 pre post odd camel wd digit place d l k) : Bad one := bad_of (ws := [one]) (by simp [cs_app, joinL]) (Ws.cons (w_one C) Ws.nil) (p_one (ft_1 C))
theorem ln_2 (C : Cxt name one letter mark up n2 n3 n7 pre post odd camel wd digit place d l k) : Bad (up ++ (" " : Str) ++ name) := bad_of (ws := [up, name]) (by simp [cs_app, joinL]) (Ws.cons (w_up C) (Ws.cons (w_name C) Ws.nil)) (p_two (ft_2 C) (ft_3 C))
theorem ln_3 (C : Cxt name one letter mark up n2 n3 n7 pre post odd camel wd digit place d l k) : Bad (("cells " : Str) ++ name) := bad_of (ws := [("cells" : Str), name]) (by simp [cs_app, joinL]) (Ws.cons wl_2 (Ws.cons (w_name C) Ws.nil)) (p_two ft_4 ft_5)
theorem ln_4 (C : Cxt name one letter mark up n2 n3 n7 pre post odd camel wd digit place d l k) : Bad ("thread" : Str) := bad_of (ws := [("thread" : Str)]) (by simp [cs_app, joinL]) (Ws.cons wl_3 Ws.nil) (p_one ft_6)
theorem ln_5 (C : Cxt name one letter mark up n2 n3 n7 pre post odd camel wd digit place d l k) : Bad ("halt" : Str) := bad_of (ws := [("halt" : Str)]) (by simp [cs_app, joinL]) (Ws.cons wl_4 Ws.nil) (p_one ft_7)
theorem ln_6 (C : Cxt name one letter mark up n2 n3 n7 pre post odd camel wd digit place d l k) : Bad ("jump 1 1" : Str) := bad_of (ws := [("jump" : Str), ("1" : Str), ("1" : Str)]) (by simp [cs_app, joinL]) (Ws.cons wl_1 (Ws.cons wl_5 (Ws.cons wl_5 Ws.nil))) (p_three ft_8 ft_9 ft_10)
theorem ln_7 (C : Cxt name one letter mark up n2 n3 n7 pre post odd camel wd digit place d l k) : Bad (("jump " : Str) ++ one ++ (" " : Str)) := bad_of (ws := [("jump" : Str), one, ("" : Str)]) (by simp [cs_app, joinL]) (Ws.cons wl_1 (Ws.cons (w_one C) (Ws.cons wl_6 Ws.nil))) (p_three ft_8 ft_9 ft_10)
theorem ln_8 (C : Cxt name one letter mark up n2 n3 n7 pre post odd camel wd digit place d l k) : Bad (("jump " : Str) ++ name) := bad_of (ws := [("jump" : Str), name]) (by simp [cs_app, joinL]) (Ws.cons wl_1 (Ws.cons (w_name C) Ws.nil)) (p_jump (ft_11 C))
theorem ln_9 (C : Cxt name one letter mark up n2 n3 n7 pre post odd camel wd digit place d l k) : Bad (("jump +" : Str) ++ one) := bad_of (ws := [("jump" : Str), (("+" : Str) ++ one)]) (by simp [cs_app, joinL]) (Ws.cons wl_1 (Ws.cons (wn_app wl_7 (w_one C)) Ws.nil)) (p_jump (ft_12 C))
theorem ln_10 (C : Cxt name one letter mark up n2 n3 n7 pre post odd camel wd digit place d l k) : Bad (("jump -" : Str) ++ one) := bad_of (ws := [("jump" : Str), (("-" : Str) ++ one)]) (by simp [cs_app, joinL]) (Ws.cons wl_1 (Ws.cons (wn_app wl_8 (w_one C)) Ws.nil)) (p_jump (ft_13 C))
theorem ln_11 (C : Cxt name one letter mark up n2 n3 n7 pre post odd camel wd digit place d l k) : Bad (("jump 10" : Str) ++ one) := bad_of (ws := [("jump" : Str), (("10" : Str) ++ one)]) (by simp [cs_app, joinL]) (Ws.cons wl_1 (Ws.cons (wn_app wl_9 (w_one C)) Ws.nil)) (p_jump (ft_14 C))
theorem ln_12 (C : Cxt name one letter mark up n2 n3 n7 pre post odd camel wd digit place d l k) : Bad (("store  " : Str) ++ one) := bad_of (ws := [("store" : Str), ("" : Str), one]) (by simp [cs_app, joinL]) (Ws.cons wl_10 (Ws.cons wl_6 (Ws.cons (w_one C) Ws.nil))) (p_st1 ft_15 ft_16)
theorem ln_13 (C : Cxt name one letter mark up n2 n3 n7 pre post odd camel wd digit place d l k) : Bad (("test " : Str) ++ one ++ (" " : Str)) := bad_of (ws := [("test" : Str), one, ("" : Str)]) (by simp [cs_app, joinL]) (Ws.cons wl_11 (Ws.cons (w_one C) (Ws.cons wl_6 Ws.nil))) (p_test2 ft_17)
theorem ln_14 (C : Cxt name one letter mark up n2 n3 n7 pre post odd camel wd digit place d l k) : Bad (("test  " : Str) ++ one) := bad_of (ws := [("test" : Str), ("" : Str), one]) (by simp [cs_app, joinL]) (Ws.cons wl_11 (Ws.cons wl_6 (Ws.cons (w_one C) Ws.nil))) (p_test1 ft_18)
theorem ln_15 (C : Cxt name one letter mark up n2 n3 n7 pre post odd camel wd digit place d l k) : Bad (("swap " : Str) ++ name ++ (" " : Str)) := bad_of (ws := [("swap" : Str), name, ("" : Str)]) (by simp [cs_app, joinL]) (Ws.cons wl_12 (Ws.cons (w_name C) (Ws.cons wl_6 Ws.nil))) (p_st2 ft_19 ft_20 ft_18)
theorem ln_16 (C : Cxt name one letter mark up n2 n3 n7 pre post odd camel wd digit place d l k) : Bad (("store " : Str) ++ name ++ (" " : Str)) := bad_of (ws := [("store" : Str), name, ("" : Str)]) (by simp [cs_app, joinL]) (Ws.cons wl_10 (Ws.cons (w_name C) (Ws.cons wl_6 Ws.nil))) (p_st2 ft_15 ft_20 ft_18)
theorem ln_17 (C : Cxt name one letter mark up n2 n3 n7 pre post odd camel wd digit place d l k) : Bad (("jump 0" : Str) ++ one) := bad_of (ws := [("jump" : Str), (("0" : Str) ++ one)]) (by simp [cs_app, joinL]) (Ws.cons wl_1 (Ws.cons (wn_app wl_13 (w_one C)) Ws.nil)) (p_jump (ft_21 C))
theorem ln_18 (C : Cxt name one letter mark up n2 n3 n7 pre post odd camel wd digit place d l k) : Bad (("test " : Str) ++ one ++ (" " : Str) ++ name) := bad_of (ws := [("test" : Str), one, name]) (by simp [cs_app, joinL]) (Ws.cons wl_11 (Ws.cons (w_one C) (Ws.cons (w_name C) Ws.nil))) (p_test2 (ft_11 C))
theorem ln_19 (C : Cxt name one letter mark up n2 n3 n7 pre post odd camel wd digit place d l k) : Bad (("test -" : Str) ++ one ++ (" 1" : Str)) := bad_of (ws := [("test" : Str), (("-" : Str) ++ one), ("1" : Str)]) (by simp [cs_app, joinL]) (Ws.cons wl_11 (Ws.cons (wn_app wl_8 (w_one C)) (Ws.cons wl_5 Ws.nil))) (p_test1 (ft_22 C))
theorem ln_20 (C : Cxt name one letter mark up n2 n3 n7 pre post odd camel wd digit place d l k) : Bad (("test " : Str) ++ one ++ (" 1 1" : Str)) := bad_of (ws := [("test" : Str), one, ("1" : Str), ("1" : Str)]) (by simp [cs_app, joinL]) (Ws.cons wl_11 (Ws.cons (w_one C) (Ws.cons wl_5 (Ws.cons wl_5 Ws.nil)))) (p_four)
theorem ln_21 (C : Cxt name one letter mark up n2 n3 n7 pre post odd camel wd digit place d l k) : Bad (("test " : Str) ++ one) := bad_of (ws := [("test" : Str), one]) (by simp [cs_app, joinL]) (Ws.cons wl_11 (Ws.cons (w_one C) Ws.nil)) (p_two ft_23 ft_24)
theorem ln_22 (C : Cxt name one letter mark up n2 n3 n7 pre post odd camel wd digit place d l k) : Bad (("test " : Str) ++ one ++ (" 0" : Str) ++ one) := bad_of (ws := [("test" : Str), one, (("0" : Str) ++ one)]) (by simp [cs_app, joinL]) (Ws.cons wl_11 (Ws.cons (w_one C) (Ws.cons (wn_app wl_13 (w_one C)) Ws.nil))) (p_test2 (ft_21 C))
theorem ln_23 (C : Cxt name one letter mark up n2 n3 n7 pre post odd camel wd digit place d l k) : Bad (("test " : Str) ++ one ++ (" r" : Str)) := bad_of (ws := [("test" : Str), one, ("r" : Str)]) (by simp [cs_app, joinL]) (Ws.cons wl_11 (Ws.cons (w_one C) (Ws.cons wl_14 Ws.nil))) (p_test2 ft_25)
theorem ln_24 (C : Cxt name one letter mark up n2 n3 n7 pre post odd camel wd digit place d l k) : Bad ("test r 0" : Str) := bad_of (ws := [("test" : Str), ("r" : Str), ("0" : Str)]) (by simp [cs_app, joinL]) (Ws.cons wl_11 (Ws.cons wl_14 (Ws.cons wl_13 Ws.nil))) (p_test1 ft_26)
theorem ln_25 (C : Cxt name one letter mark up n2 n3 n7 pre post odd camel wd digit place d l k) : Bad (("test 1" : Str) ++ one ++ (" 0" : Str)) := bad_of (ws := [("test" : Str), (("1" : Str) ++ one), ("0" : Str)]) (by simp [cs_app, joinL]) (Ws.cons wl_11 (Ws.cons (wn_app wl_5 (w_one C)) (Ws.cons wl_13 Ws.nil))) (p_test1 (ft_27 C))
theorem ln_26 (C : Cxt name one letter mark up n2 n3 n7 pre post odd camel wd digit place d l k) : Bad ("swap r" : Str) := bad_of (ws := [("swap" : Str), ("r" : Str)]) (by simp [cs_app, joinL]) (Ws.cons wl_12 (Ws.cons wl_14 Ws.nil)) (p_two ft_28 ft_29)
theorem ln_27 (C : Cxt name one letter mark up n2 n3 n7 pre post odd camel wd digit place d l k) : Bad ("store r" : Str) := bad_of (ws := [("store" : Str), ("r" : Str)]) (by simp [cs_app, joinL]) (Ws.cons wl_10 (Ws.cons wl_14 Ws.nil)) (p_two ft_30 ft_31)
theorem ln_28 (C : Cxt name one letter mark up n2 n3 n7 pre post odd camel wd digit place d l k) : Bad (("swap " : Str) ++ n7 ++ (" " : Str) ++ one) := bad_of (ws := [("swap" : Str), n7, one]) (by simp [cs_app, joinL]) (Ws.cons wl_12 (Ws.cons (w_n7 C) (Ws.cons (w_one C) Ws.nil))) (p_st1 ft_19 (ft_32 C))
theorem ln_29 (C : Cxt name one letter mark up n2 n3 n7 pre post odd camel wd digit place d l k) : Bad (("store " : Str) ++ up ++ (" " : Str) ++ one) := bad_of (ws := [("store" : Str), up, one]) (by simp [cs_app, joinL]) (Ws.cons wl_10 (Ws.cons (w_up C) (Ws.cons (w_one C) Ws.nil))) (p_st1 ft_15 (ft_33 C))
theorem ln_30 (C : Cxt name one letter mark up n2 n3 n7 pre post odd camel wd digit place d l k) : Bad ("load abcdefg" : Str) := bad_of (ws := [("load" : Str), ("abcdefg" : Str)]) (by simp [cs_app, joinL]) (Ws.cons wl_16 (Ws.cons wl_15 Ws.nil)) (p_load ft_34)
theorem ln_31 (C : Cxt name one letter mark up n2 n3 n7 pre post odd camel wd digit place d l k) : Bad (("load " : Str) ++ n7) := bad_of (ws := [("load" : Str), n7]) (by simp [cs_app, joinL]) (Ws.cons wl_16 (Ws.cons (w_n7 C) Ws.nil)) (p_load (ft_32 C))
theorem ln_32 (C : Cxt name one letter mark up n2 n3 n7 pre post odd camel wd digit place d l k) : Bad (("load " : Str) ++ n2 ++ ("_" : Str)) := bad_of (ws := [("load" : Str), (n2 ++ ("_" : Str))]) (by simp [cs_app, joinL]) (Ws.cons wl_16 (Ws.cons (wn_app (w_n2 C) wl_17) Ws.nil)) (p_load (ft_35 C))
theorem ln_33 (C : Cxt name one letter mark up n2 n3 n7 pre post odd camel wd digit place d l k) : Bad (("load " : Str) ++ up) := bad_of (ws := [("load" : Str), up]) (by simp [cs_app, joinL]) (Ws.cons wl_16 (Ws.cons (w_up C) Ws.nil)) (p_load (ft_33 C))
theorem ln_34 (C : Cxt name one letter mark up n2 n3 n7 pre post odd camel wd digit place d l k) : Bad (("load " : Str) ++ one) := bad_of (ws := [("load" : Str), one]) (by simp [cs_app, joinL]) (Ws.cons wl_16 (Ws.cons (w_one C) Ws.nil)) (p_load (ft_36 C))
theorem ln_35 (C : Cxt name one letter mark up n2 n3 n7 pre post odd camel wd digit place d l k) : Bad (("load " : Str) ++ n3 ++ one) := bad_of (ws := [("load" : Str), (n3 ++ one)]) (by simp [cs_app, joinL]) (Ws.cons wl_16 (Ws.cons (wn_app (w_n3 C) (w_one C)) Ws.nil)) (p_load (ft_37 C))
theorem ln_36 (C : Cxt name one letter mark up n2 n3 n7 pre post odd camel wd digit place d l k) : Bad (("swap " : Str) ++ name ++ (" +" : Str) ++ one) := bad_of (ws := [("swap" : Str), name, (("+" : Str) ++ one)]) (by simp [cs_app, joinL]) (Ws.cons wl_12 (Ws.cons (w_name C) (Ws.cons (wn_app wl_7 (w_one C)) Ws.nil))) (p_st2 ft_19 (ft_38 C) (ft_39 C))
theorem ln_37 (C : Cxt name one letter mark up n2 n3 n7 pre post odd camel wd digit place d l k) : Bad (("store " : Str) ++ name ++ (" -" : Str) ++ one) := bad_of (ws := [("store" : Str), name, (("-" : Str) ++ one)]) (by simp [cs_app, joinL]) (Ws.cons wl_10 (Ws.cons (w_name C) (Ws.cons (wn_app wl_8 (w_one C)) Ws.nil))) (p_st2 ft_15 (ft_40 C) (ft_22 C))
theorem ln_38 (C : Cxt name one letter mark up n2 n3 n7 pre post odd camel wd digit place d l k) : Bad (("store " : Str) ++ name ++ (" r " : Str)) := bad_of (ws := [("store" : Str), name, ("r" : Str), ("" : Str)]) (by simp [cs_app, joinL]) (Ws.cons wl_10 (Ws.cons (w_name C) (Ws.cons wl_14 (Ws.cons wl_6 Ws.nil)))) (p_four)
theorem ln_39 (C : Cxt name one letter mark up n2 n3 n7 pre post odd camel wd digit place d l k) : Bad (("swap " : Str) ++ name ++ (" rr" : Str)) := bad_of (ws := [("swap" : Str), name, ("rr" : Str)]) (by simp [cs_app, joinL]) (Ws.cons wl_12 (Ws.cons (w_name C) (Ws.cons wl_18 Ws.nil))) (p_st2 ft_19 ft_41 ft_42)
theorem ln_40 (C : Cxt name one letter mark up n2 n3 n7 pre post odd camel wd digit place d l k) : Bad (("swap " : Str) ++ name ++ (" R" : Str)) := bad_of (ws := [("swap" : Str), name, ("R" : Str)]) (by simp [cs_app, joinL]) (Ws.cons wl_12 (Ws.cons (w_name C) (Ws.cons wl_19 Ws.nil))) (p_st2 ft_19 ft_43 ft_44)
theorem ln_41 (C : Cxt name one letter mark up n2 n3 n7 pre post odd camel wd digit place d l k) : Bad (("store " : Str) ++ name ++ (" " : Str) ++ letter) := bad_of (ws := [("store" : Str), name, letter]) (by simp [cs_app, joinL]) (Ws.cons wl_10 (Ws.cons (w_name C) (Ws.cons (w_letter C) Ws.nil))) (p_st2 ft_15 (ft_45 C) (ft_46 C))
theorem ln_42 (C : Cxt name one letter mark up n2 n3 n7 pre post odd camel wd digit place d l k) : Bad (("swap " : Str) ++ name ++ (" 0" : Str) ++ one) := bad_of (ws := [("swap" : Str), name, (("0" : Str) ++ one)]) (by simp [cs_app, joinL]) (Ws.cons wl_12 (Ws.cons (w_name C) (Ws.cons (wn_app wl_13 (w_one C)) Ws.nil))) (p_st2 ft_19 (ft_47 C) (ft_48 C))
theorem ln_43 (C : Cxt name one letter mark up n2 n3 n7 pre post odd camel wd digit place d l k) : Bad (("store " : Str) ++ name ++ (" 1" : Str) ++ one) := bad_of (ws := [("store" : Str), name, (("1" : Str) ++ one)]) (by simp [cs_app, joinL]) (Ws.cons wl_10 (Ws.cons (w_name C) (Ws.cons (wn_app wl_5 (w_one C)) Ws.nil))) (p_st2 ft_15 (ft_49 C) (ft_27 C))
theorem ln_44 (C : Cxt name one letter mark up n2 n3 n7 pre post odd camel wd digit place d l k) : Bad (("store " : Str) ++ name ++ (" " : Str) ++ one ++ (" " : Str) ++ one) := bad_of (ws := [("store" : Str), name, one, one]) (by simp [cs_app, joinL]) (Ws.cons wl_10 (Ws.cons (w_name C) (Ws.cons (w_one C) (Ws.cons (w_one C) Ws.nil)))) (p_four)
theorem ln_45 (C : Cxt name one letter mark up n2 n3 n7 pre post odd camel wd digit place d l k) : Bad (("store  " : Str) ++ name ++ (" " : Str) ++ one) := bad_of (ws := [("store" : Str), ("" : Str), name, one]) (by simp [cs_app, joinL]) (Ws.cons wl_10 (Ws.cons wl_6 (Ws.cons (w_name C) (Ws.cons (w_one C) Ws.nil)))) (p_four)
theorem ln_46 (C : Cxt name one letter mark up n2 n3 n7 pre post odd camel wd digit place d l k) : Bad (("store " : Str) ++ name ++ (" " : Str) ++ one ++ (" " : Str)) := bad_of (ws := [("store" : Str), name, one, ("" : Str)]) (by simp [cs_app, joinL]) (Ws.cons wl_10 (Ws.cons (w_name C) (Ws.cons (w_one C) (Ws.cons wl_6 Ws.nil)))) (p_four)
theorem ln_47 (C : Cxt name one letter mark up n2 n3 n7 pre post odd camel wd digit place d l k) : Bad (("store " : Str) ++ name ++ ("  " : Str) ++ one) := bad_of (ws := [("store" : Str), name, ("" : Str), one]) (by simp [cs_app, joinL]) (Ws.cons wl_10 (Ws.cons (w_name C) (Ws.cons wl_6 (Ws.cons (w_one C) Ws.nil)))) (p_four)
theorem ln_48 (C : Cxt name one letter mark up n2 n3 n7 pre post odd camel wd digit place d l k) : Bad (("loads " : Str) ++ name) := bad_of (ws := [("loads" : Str), name]) (by simp [cs_app, joinL]) (Ws.cons wl_20 (Ws.cons (w_name C) Ws.nil)) (p_two ft_50 ft_51)
theorem ln_49 (C : Cxt name one letter mark up n2 n3 n7 pre post odd camel wd digit place d l k) : Bad (("LOAD " : Str) ++ name) := bad_of (ws := [("LOAD" : Str), name]) (by simp [cs_app, joinL]) (Ws.cons wl_21 (Ws.cons (w_name C) Ws.nil)) (p_two ft_52 ft_53)
theorem ln_50 (C : Cxt name one letter mark up n2 n3 n7 pre post odd camel wd digit place d l k) : Bad (("Load " : Str) ++ name) := bad_of (ws := [("Load" : Str), name]) (by simp [cs_app, joinL]) (Ws.cons wl_22 (Ws.cons (w_name C) Ws.nil)) (p_two ft_54 ft_55)
theorem ln_51 (C : Cxt name one letter mark up n2 n3 n7 pre post odd camel wd digit place d l k) : Bad (("load " : Str) ++ name ++ (" " : Str) ++ name) := bad_of (ws := [("load" : Str), name, name]) (by simp [cs_app, joinL]) (Ws.cons wl_16 (Ws.cons (w_name C) (Ws.cons (w_name C) Ws.nil))) (p_three ft_56 ft_57 ft_58)
theorem ln_52 (C : Cxt name one letter mark up n2 n3 n7 pre post odd camel wd digit place d l k) : Bad ((" load " : Str) ++ name) := bad_of (ws := [("" : Str), ("load" : Str), name]) (by simp [cs_app, joinL]) (Ws.cons wl_6 (Ws.cons wl_16 (Ws.cons (w_name C) Ws.nil))) (p_three ft_59 ft_60 ft_61)
theorem ln_53 (C : Cxt name one letter mark up n2 n3 n7 pre post odd camel wd digit place d l k) : Bad (("load " : Str) ++ name ++ (" " : Str)) := bad_of (ws := [("load" : Str), name, ("" : Str)]) (by simp [cs_app, joinL]) (Ws.cons wl_16 (Ws.cons (w_name C) (Ws.cons wl_6 Ws.nil))) (p_three ft_56 ft_57 ft_58)
theorem ln_54 (C : Cxt name one letter mark up n2 n3 n7 pre post odd camel wd digit place d l k) : Bad (("load  " : Str) ++ name) := bad_of (ws := [("load" : Str), ("" : Str), name]) (by simp [cs_app, joinL]) (Ws.cons wl_16 (Ws.cons wl_6 (Ws.cons (w_name C) Ws.nil))) (p_three ft_56 ft_57 ft_58)
theorem ln_55 (C : Cxt name one letter mark up n2 n3 n7 pre post odd camel wd digit place d l k) : Bad ("fences" : Str) := bad_of (ws := [("fences" : Str)]) (by simp [cs_app, joinL]) (Ws.cons wl_23 Ws.nil) (p_one ft_62)
theorem ln_56 (C : Cxt name one letter mark up n2 n3 n7 pre post odd camel wd digit place d l k) : Bad ("Fence" : Str) := bad_of (ws := [("Fence" : Str)]) (by simp [cs_app, joinL]) (Ws.cons wl_24 Ws.nil) (p_one ft_63)
theorem ln_57 (C : Cxt name one letter mark up n2 n3 n7 pre post odd camel wd digit place d l k) : Bad (("fence " : Str) ++ name) := bad_of (ws := [("fence" : Str), name]) (by simp [cs_app, joinL]) (Ws.cons wl_25 (Ws.cons (w_name C) Ws.nil)) (p_two ft_64 ft_65)
theorem ln_58 (C : Cxt name one letter mark up n2 n3 n7 pre post odd camel wd digit place d l k) : Bad (" fence" : Str) := bad_of (ws := [("" : Str), ("fence" : Str)]) (by simp [cs_app, joinL]) (Ws.cons wl_6 (Ws.cons wl_25 Ws.nil)) (p_two ft_66 ft_67)
theorem ln_59 (C : Cxt name one letter mark up n2 n3 n7 pre post odd camel wd digit place d l k) : Bad ("fence " : Str) := bad_of (ws := [("fence" : Str), ("" : Str)]) (by simp [cs_app, joinL]) (Ws.cons wl_25 (Ws.cons wl_6 Ws.nil)) (p_two ft_64 ft_65)
theorem ln_60 (C : Cxt name one letter mark up n2 n3 n7 pre post odd camel wd digit place d l k) : Bad ("jump " : Str) := bad_of (ws := [("jump" : Str), ("" : Str)]) (by simp [cs_app, joinL]) (Ws.cons wl_1 (Ws.cons wl_6 Ws.nil)) (p_jump ft_17)
theorem ln_61 (C : Cxt name one letter mark up n2 n3 n7 pre post odd camel wd digit place d l k) : Bad ("jump" : Str) := bad_of (ws := [("jump" : Str)]) (by simp [cs_app, joinL]) (Ws.cons wl_1 Ws.nil) (p_one ft_68)
theorem ln_62 (C : Cxt name one letter mark up n2 n3 n7 pre post odd camel wd digit place d l k) : Bad (("swap " : Str) ++ name) := bad_of (ws := [("swap" : Str), name]) (by simp [cs_app, joinL]) (Ws.cons wl_12 (Ws.cons (w_name C) Ws.nil)) (p_two ft_28 ft_29)
theorem ln_63 (C : Cxt name one letter mark up n2 n3 n7 pre post odd camel wd digit place d l k) : Bad (("store " : Str) ++ name) := bad_of (ws := [("store" : Str), name]) (by simp [cs_app, joinL]) (Ws.cons wl_10 (Ws.cons (w_name C) Ws.nil)) (p_two ft_30 ft_31)
theorem ln_64 (C : Cxt name one letter mark up n2 n3 n7 pre post odd camel wd digit place d l k) : Bad ("store" : Str) := bad_of (ws := [("store" : Str)]) (by simp [cs_app, joinL]) (Ws.cons wl_10 Ws.nil) (p_one ft_69)
theorem ln_65 (C : Cxt name one letter mark up n2 n3 n7 pre post odd camel wd digit place d l k) : Bad ("load " : Str) := bad_of (ws := [("load" : Str), ("" : Str)]) (by simp [cs_app, joinL]) (Ws.cons wl_16 (Ws.cons wl_6 Ws.nil)) (p_load ft_16)
theorem ln_66 (C : Cxt name one letter mark up n2 n3 n7 pre post odd camel wd digit place d l k) : Bad ("load" : Str) := bad_of (ws := [("load" : Str)]) (by simp [cs_app, joinL]) (Ws.cons wl_16 Ws.nil) (p_one ft_70)
theorem ln_67 (C : Cxt name one letter mark up n2 n3 n7 pre post odd camel wd digit place d l k) : Bad (" " : Str) := bad_of (ws := [("" : Str), ("" : Str)]) (by simp [cs_app, joinL]) (Ws.cons wl_6 (Ws.cons wl_6 Ws.nil)) (p_two ft_66 ft_67)
theorem ln_68 (C : Cxt name one letter mark up n2 n3 n7 pre post odd camel wd digit place d l k) : Bad ("" : Str) := bad_of (ws := [("" : Str)]) (by simp [cs_app, joinL]) (Ws.cons wl_6 Ws.nil) (p_one ft_71)
theorem ln_69 (C : Cxt name one letter mark up n2 n3 n7 pre post odd camel wd digit place d l k) : Bad (wd ++ (" " : Str) ++ name ++ (" " : Str) ++ one ++ (" " : Str) ++ one) := bad_of (ws := [wd, name, one, one]) (by simp [cs_app, joinL]) (Ws.cons (w_wd C) (Ws.cons (w_name C) (Ws.cons (w_one C) (Ws.cons (w_one C) Ws.nil)))) (p_four)
theorem ln_70 (C : Cxt name one letter mark up n2 n3 n7 pre post odd camel wd digit place d l k) : Bad (wd ++ (" " : Str) ++ one ++ (" " : Str) ++ one) := bad_of (ws := [wd, one, one]) (by simp [cs_app, joinL]) (Ws.cons (w_wd C) (Ws.cons (w_one C) (Ws.cons (w_one C) Ws.nil))) (p_three (ft_72 C) (ft_73 C) (ft_74 C))
theorem ln_71 (C : Cxt name one letter mark up n2 n3 n7 pre post odd camel wd digit place d l k) : Bad (wd ++ (" " : Str) ++ name ++ (" " : Str) ++ one) := bad_of (ws := [wd, name, one]) (by simp [cs_app, joinL]) (Ws.cons (w_wd C) (Ws.cons (w_name C) (Ws.cons (w_one C) Ws.nil))) (p_three (ft_72 C) (ft_73 C) (ft_74 C))
theorem ln_72 (C : Cxt name one letter mark up n2 n3 n7 pre post odd camel wd digit place d l k) : Bad (wd ++ (" " : Str) ++ name ++ (" r" : Str)) := bad_of (ws := [wd, name, ("r" : Str)]) (by simp [cs_app, joinL]) (Ws.cons (w_wd C) (Ws.cons (w_name C) (Ws.cons wl_14 Ws.nil))) (p_three (ft_72 C) (ft_73 C) (ft_74 C))
theorem ln_73 (C : Cxt name one letter mark up n2 n3 n7 pre post odd camel wd digit place d l k) : Bad (wd ++ (" " : Str) ++ one) := bad_of (ws := [wd, one]) (by simp [cs_app, joinL]) (Ws.cons (w_wd C) (Ws.cons (w_one C) Ws.nil)) (p_two (ft_75 C) (ft_76 C))
theorem ln_74 (C : Cxt name one letter mark up n2 n3 n7 pre post odd camel wd digit place d l k) : Bad (wd ++ (" " : Str) ++ name) := bad_of (ws := [wd, name]) (by simp [cs_app, joinL]) (Ws.cons (w_wd C) (Ws.cons (w_name C) Ws.nil)) (p_two (ft_75 C) (ft_76 C))
theorem ln_75 (C : Cxt name one letter mark up n2 n3 n7 pre post odd camel wd digit place d l k) : Bad wd := bad_of (ws := [wd]) (by simp [cs_app, joinL]) (Ws.cons (w_wd C) Ws.nil) (p_one (ft_77 C))
theorem ln_76 (C : Cxt name one letter mark up n2 n3 n7 pre post odd camel wd digit place d l k) : Bad (("jumps " : Str) ++ one) := bad_of (ws := [("jumps" : Str), one]) (by simp [cs_app, joinL]) (Ws.cons wl_26 (Ws.cons (w_one C) Ws.nil)) (p_two ft_78 ft_79)
theorem ln_77 (C : Cxt name one letter mark up n2 n3 n7 pre post odd camel wd digit place d l k) : Bad (("tests " : Str) ++ one ++ (" 0" : Str)) := bad_of (ws := [("tests" : Str), one, ("0" : Str)]) (by simp [cs_app, joinL]) (Ws.cons wl_27 (Ws.cons (w_one C) (Ws.cons wl_13 Ws.nil))) (p_three ft_80 ft_81 ft_82)
theorem ln_78 (C : Cxt name one letter mark up n2 n3 n7 pre post odd camel wd digit place d l k) : Bad (("swaps " : Str) ++ name ++ (" r" : Str)) := bad_of (ws := [("swaps" : Str), name, ("r" : Str)]) (by simp [cs_app, joinL]) (Ws.cons wl_28 (Ws.cons (w_name C) (Ws.cons wl_14 Ws.nil))) (p_three ft_83 ft_84 ft_85)
theorem ln_79 (C : Cxt name one letter mark up n2 n3 n7 pre post odd camel wd digit place d l k) : Bad (("stores " : Str) ++ name ++ (" " : Str) ++ one) := bad_of (ws := [("stores" : Str), name, one]) (by simp [cs_app, joinL]) (Ws.cons wl_29 (Ws.cons (w_name C) (Ws.cons (w_one C) Ws.nil))) (p_three ft_86 ft_87 ft_88)
theorem ln_80 (C : Cxt name one letter mark up n2 n3 n7 pre post odd camel wd digit place d l k) : Bad (("STORE " : Str) ++ name ++ (" r" : Str)) := bad_of (ws := [("STORE" : Str), name, ("r" : Str)]) (by simp [cs_app, joinL]) (Ws.cons wl_30 (Ws.cons (w_name C) (Ws.cons wl_14 Ws.nil))) (p_three ft_89 ft_90 ft_91)
theorem ln_81 (C : Cxt name one letter mark up n2 n3 n7 pre post odd camel wd digit place d l k) : Bad (("Jump " : Str) ++ one) := bad_of (ws := [("Jump" : Str), one]) (by simp [cs_app, joinL]) (Ws.cons wl_31 (Ws.cons (w_one C) Ws.nil)) (p_two ft_92 ft_93)
theorem ln_82 (C : Cxt name one letter mark up n2 n3 n7 pre post odd camel wd digit place d l k) : Bad (("Test " : Str) ++ one ++ (" 0" : Str)) := bad_of (ws := [("Test" : Str), one, ("0" : Str)]) (by simp [cs_app, joinL]) (Ws.cons wl_32 (Ws.cons (w_one C) (Ws.cons wl_13 Ws.nil))) (p_three ft_94 ft_95 ft_96)
theorem ln_83 (C : Cxt name one letter mark up n2 n3 n7 pre post odd camel wd digit place d l k) : Bad (("Swap " : Str) ++ name ++ (" r" : Str)) := bad_of (ws := [("Swap" : Str), name, ("r" : Str)]) (by simp [cs_app, joinL]) (Ws.cons wl_33 (Ws.cons (w_name C) (Ws.cons wl_14 Ws.nil))) (p_three ft_97 ft_98 ft_99)
theorem ln_84 (C : Cxt name one letter mark up n2 n3 n7 pre post odd camel wd digit place d l k) : Bad (("Store " : Str) ++ name ++ (" " : Str) ++ one) := bad_of (ws := [("Store" : Str), name, one]) (by simp [cs_app, joinL]) (Ws.cons wl_34 (Ws.cons (w_name C) (Ws.cons (w_one C) Ws.nil))) (p_three ft_100 ft_101 ft_102)
theorem ln_85 (C : Cxt name one letter mark up n2 n3 n7 pre post odd camel wd digit place d l k) : Bad (("test " : Str) ++ one ++ (" " : Str) ++ letter ++ one) := bad_of (ws := [("test" : Str), one, (letter ++ one)]) (by simp [cs_app, joinL]) (Ws.cons wl_11 (Ws.cons (w_one C) (Ws.cons (wn_app (w_letter C) (w_one C)) Ws.nil))) (p_test2 (ft_103 C))
theorem ln_86 (C : Cxt name one letter mark up n2 n3 n7 pre post odd camel wd digit place d l k) : Bad (("test " : Str) ++ one ++ (" " : Str) ++ mark) := bad_of (ws := [("test" : Str), one, mark]) (by simp [cs_app, joinL]) (Ws.cons wl_11 (Ws.cons (w_one C) (Ws.cons (w_mark C) Ws.nil))) (p_test2 (ft_104 C))
theorem ln_87 (C : Cxt name one letter mark up n2 n3 n7 pre post odd camel wd digit place d l k) : Bad (("test " : Str) ++ one ++ (" 1" : Str) ++ mark) := bad_of (ws := [("test" : Str), one, (("1" : Str) ++ mark)]) (by simp [cs_app, joinL]) (Ws.cons wl_11 (Ws.cons (w_one C) (Ws.cons (wn_app wl_5 (w_mark C)) Ws.nil))) (p_test2 (ft_105 C))
theorem ln_88 (C : Cxt name one letter mark up n2 n3 n7 pre post odd camel wd digit place d l k) : Bad (("test " : Str) ++ one ++ (" 1" : Str) ++ letter) := bad_of (ws := [("test" : Str), one, (("1" : Str) ++ letter)]) (by simp [cs_app, joinL]) (Ws.cons wl_11 (Ws.cons (w_one C) (Ws.cons (wn_app wl_5 (w_letter C)) Ws.nil))) (p_test2 (ft_106 C))
theorem ln_89 (C : Cxt name one letter mark up n2 n3 n7 pre post odd camel wd digit place d l k) : Bad (("test " : Str) ++ one ++ (" " : Str) ++ one ++ letter) := bad_of (ws := [("test" : Str), one, (one ++ letter)]) (by simp [cs_app, joinL]) (Ws.cons wl_11 (Ws.cons (w_one C) (Ws.cons (wn_app (w_one C) (w_letter C)) Ws.nil))) (p_test2 (ft_107 C))
theorem ln_90 (C : Cxt name one letter mark up n2 n3 n7 pre post odd camel wd digit place d l k) : Bad (("test " : Str) ++ one ++ letter ++ (" 2" : Str)) := bad_of (ws := [("test" : Str), (one ++ letter), ("2" : Str)]) (by simp [cs_app, joinL]) (Ws.cons wl_11 (Ws.cons (wn_app (w_one C) (w_letter C)) (Ws.cons wl_35 Ws.nil))) (p_test1 (ft_108 C))
theorem ln_91 (C : Cxt name one letter mark up n2 n3 n7 pre post odd camel wd digit place d l k) : Bad (("test " : Str) ++ mark ++ (" " : Str) ++ one) := bad_of (ws := [("test" : Str), mark, one]) (by simp [cs_app, joinL]) (Ws.cons wl_11 (Ws.cons (w_mark C) (Ws.cons (w_one C) Ws.nil))) (p_test1 (ft_109 C))
theorem ln_92 (C : Cxt name one letter mark up n2 n3 n7 pre post odd camel wd digit place d l k) : Bad (("jump " : Str) ++ one ++ ("." : Str)) := bad_of (ws := [("jump" : Str), (one ++ ("." : Str))]) (by simp [cs_app, joinL]) (Ws.cons wl_1 (Ws.cons (wn_app (w_one C) wl_0) Ws.nil)) (p_jump (ft_110 C))
theorem ln_93 (C : Cxt name one letter mark up n2 n3 n7 pre post odd camel wd digit place d l k) : Bad (("jump 10" : Str) ++ letter) := bad_of (ws := [("jump" : Str), (("10" : Str) ++ letter)]) (by simp [cs_app, joinL]) (Ws.cons wl_1 (Ws.cons (wn_app wl_9 (w_letter C)) Ws.nil)) (p_jump (ft_111 C))
theorem ln_94 (C : Cxt name one letter mark up n2 n3 n7 pre post odd camel wd digit place d l k) : Bad (("jump " : Str) ++ mark) := bad_of (ws := [("jump" : Str), mark]) (by simp [cs_app, joinL]) (Ws.cons wl_1 (Ws.cons (w_mark C) Ws.nil)) (p_jump (ft_104 C))
theorem ln_95 (C : Cxt name one letter mark up n2 n3 n7 pre post odd camel wd digit place d l k) : Bad (("jump " : Str) ++ mark ++ ("1" : Str)) := bad_of (ws := [("jump" : Str), (mark ++ ("1" : Str))]) (by simp [cs_app, joinL]) (Ws.cons wl_1 (Ws.cons (wn_app (w_mark C) wl_5) Ws.nil)) (p_jump (ft_112 C))
theorem ln_96 (C : Cxt name one letter mark up n2 n3 n7 pre post odd camel wd digit place d l k) : Bad (("jump 1" : Str) ++ mark) := bad_of (ws := [("jump" : Str), (("1" : Str) ++ mark)]) (by simp [cs_app, joinL]) (Ws.cons wl_1 (Ws.cons (wn_app wl_5 (w_mark C)) Ws.nil)) (p_jump (ft_105 C))
theorem ln_97 (C : Cxt name one letter mark up n2 n3 n7 pre post odd camel wd digit place d l k) : Bad (("jump 1" : Str) ++ letter) := bad_of (ws := [("jump" : Str), (("1" : Str) ++ letter)]) (by simp [cs_app, joinL]) (Ws.cons wl_1 (Ws.cons (wn_app wl_5 (w_letter C)) Ws.nil)) (p_jump (ft_106 C))
theorem ln_98 (C : Cxt name one letter mark up n2 n3 n7 pre post odd camel wd digit place d l k) : Bad (("jump " : Str) ++ letter ++ one) := bad_of (ws := [("jump" : Str), (letter ++ one)]) (by simp [cs_app, joinL]) (Ws.cons wl_1 (Ws.cons (wn_app (w_letter C) (w_one C)) Ws.nil)) (p_jump (ft_103 C))
theorem ln_99 (C : Cxt name one letter mark up n2 n3 n7 pre post odd camel wd digit place d l k) : Bad (("jump " : Str) ++ one ++ letter) := bad_of (ws := [("jump" : Str), (one ++ letter)]) (by simp [cs_app, joinL]) (Ws.cons wl_1 (Ws.cons (wn_app (w_one C) (w_letter C)) Ws.nil)) (p_jump (ft_107 C))
theorem ln_100 (C : Cxt name one letter mark up n2 n3 n7 pre post odd camel wd digit place d l k) : Bad (("swap " : Str) ++ name ++ (" " : Str) ++ one ++ mark) := bad_of (ws := [("swap" : Str), name, (one ++ mark)]) (by simp [cs_app, joinL]) (Ws.cons wl_12 (Ws.cons (w_name C) (Ws.cons (wn_app (w_one C) (w_mark C)) Ws.nil))) (p_st2 ft_19 (ft_113 C) (ft_114 C))
theorem ln_101 (C : Cxt name one letter mark up n2 n3 n7 pre post odd camel wd digit place d l k) : Bad (("store " : Str) ++ name ++ (" " : Str) ++ mark) := bad_of (ws := [("store" : Str), name, mark]) (by simp [cs_app, joinL]) (Ws.cons wl_10 (Ws.cons (w_name C) (Ws.cons (w_mark C) Ws.nil))) (p_st2 ft_15 (ft_115 C) (ft_109 C))
theorem ln_102 (C : Cxt name one letter mark up n2 n3 n7 pre post odd camel wd digit place d l k) : Bad (("load " : Str) ++ pre ++ one ++ post) := bad_of (ws := [("load" : Str), (pre ++ one ++ post)]) (by simp [cs_app, joinL]) (Ws.cons wl_16 (Ws.cons (wn_app (wn_app (w_pre C) (w_one C)) (w_post C)) Ws.nil)) (p_load (ft_116 C))
theorem ln_103 (C : Cxt name one letter mark up n2 n3 n7 pre post odd camel wd digit place d l k) : Bad (("swap " : Str) ++ camel ++ (" r" : Str)) := bad_of (ws := [("swap" : Str), camel, ("r" : Str)]) (by simp [cs_app, joinL]) (Ws.cons wl_12 (Ws.cons (w_camel C) (Ws.cons wl_14 Ws.nil))) (p_st1 ft_19 (ft_117 C))
theorem ln_104 (C : Cxt name one letter mark up n2 n3 n7 pre post odd camel wd digit place d l k) : Bad (("store " : Str) ++ camel ++ (" " : Str) ++ one) := bad_of (ws := [("store" : Str), camel, one]) (by simp [cs_app, joinL]) (Ws.cons wl_10 (Ws.cons (w_camel C) (Ws.cons (w_one C) Ws.nil))) (p_st1 ft_15 (ft_117 C))
theorem ln_105 (C : Cxt name one letter mark up n2 n3 n7 pre post odd camel wd digit place d l k) : Bad (("load " : Str) ++ camel) := bad_of (ws := [("load" : Str), camel]) (by simp [cs_app, joinL]) (Ws.cons wl_16 (Ws.cons (w_camel C) Ws.nil)) (p_load (ft_117 C))
theorem ln_106 (C : Cxt name one letter mark up n2 n3 n7 pre post odd camel wd digit place d l k) : Bad (("swap " : Str) ++ odd ++ (" r" : Str)) := bad_of (ws := [("swap" : Str), odd, ("r" : Str)]) (by simp [cs_app, joinL]) (Ws.cons wl_12 (Ws.cons (w_odd C) (Ws.cons wl_14 Ws.nil))) (p_st1 ft_19 (ft_118 C))
theorem ln_107 (C : Cxt name one letter mark up n2 n3 n7 pre post odd camel wd digit place d l k) : Bad (("store " : Str) ++ odd ++ (" " : Str) ++ one) := bad_of (ws := [("store" : Str), odd, one]) (by simp [cs_app, joinL]) (Ws.cons wl_10 (Ws.cons (w_odd C) (Ws.cons (w_one C) Ws.nil))) (p_st1 ft_15 (ft_118 C))
theorem ln_108 (C : Cxt name one letter mark up n2 n3 n7 pre post odd camel wd digit place d l k) : Bad (("load " : Str) ++ odd) := bad_of (ws := [("load" : Str), odd]) (by simp [cs_app, joinL]) (Ws.cons wl_16 (Ws.cons (w_odd C) Ws.nil)) (p_load (ft_118 C))
end
end Lw
/-! printed by genk02.py -/
namespace Lw
open PySem L2 Mi TL
section
variable {name one letter mark up n2 n3 n7 pre post odd camel wd : Str} {digit place : Int} {d l k : Nat}
theorem fn_ret {N np : Nat} {b : MS} {ds : List D} {g : Gm} {S S' : Store} {d : D} (hl : ds.length = np) (hg : ds.map some ++ List.replicate (N - np) none = g) (e : b g S = some (.rt d, S')) : mFn N np b ds S = some (.ok d, S') := by
  rw [v_fn, if_pos hl, hg, e]
section
variable {g : Gm} {S : Store}
theorem ev_one (C : Cxt name one letter mark up n2 n3 n7 pre post odd camel wd digit place d l k) {i : Nat} (h : g[i]? = some (some (.int digit))) : EvS (mOpA cStr (mCons (mVar i) mNil)) g S one 1 := ⟨by simp [h, C.h_estr], (w_one C).l⟩
theorem ev_up (C : Cxt name one letter mark up n2 n3 n7 pre post odd camel wd digit place d l k) (h : g[0]? = some (some (.str name))) : EvS (mOp1 fUpper (mVar 0)) g S up 6 := ⟨by simp [h, C.h_eup, -v_upper], (w_up C).l⟩
theorem ev_n2 (C : Cxt name one letter mark up n2 n3 n7 pre post odd camel wd digit place d l k) (h : g[0]? = some (some (.str name))) : EvS (mSl (mVar 0) (mP none) (mPart (mP (.int 2)))) g S n2 6 := ⟨by simp [h, C.h_e2], (w_n2 C).l⟩
theorem ev_n3 (C : Cxt name one letter mark up n2 n3 n7 pre post odd camel wd digit place d l k) (h : g[0]? = some (some (.str name))) : EvS (mSl (mVar 0) (mP none) (mPart (mP (.int 3)))) g S n3 6 := ⟨by simp [h, C.h_e3], (w_n3 C).l⟩
theorem ev_n7 (C : Cxt name one letter mark up n2 n3 n7 pre post odd camel wd digit place d l k) (h : g[0]? = some (some (.str name))) : EvS (mSl (mOp2 fMulS (mVar 0) (mP (.int 7))) (mP none) (mPart (mP (.int 7)))) g S n7 7 := by
  refine ⟨?_, (w_n7 C).l⟩
  have e := C.h_e7 S
  cases q : fMulS S (.str name) (.int 7) with
  | none => rw [q] at e; cases e
  | some z => rw [q, Option.bind_some] at e; simp [h, q, -v_mulS, e]
theorem ev_pre (C : Cxt name one letter mark up n2 n3 n7 pre post odd camel wd digit place d l k) (h : g[0]? = some (some (.str name))) (h2 : g[4]? = some (some (.int place))) : EvS (mSl (mVar 0) (mP none) (mPart (mVar 4))) g S pre 6 := ⟨by simp [h, h2, C.h_epre], (w_pre C).l⟩
theorem ev_post (C : Cxt name one letter mark up n2 n3 n7 pre post odd camel wd digit place d l k) (h : g[0]? = some (some (.str name))) (h2 : g[4]? = some (some (.int place))) : EvS (mSl (mVar 0) (mPart (mOp2 fAdd (mVar 4) (mP (.int 1)))) (mP none)) g S post 6 := ⟨by simp [h, h2, C.h_epost], (w_post C).l⟩
theorem ev_odd (C : Cxt name one letter mark up n2 n3 n7 pre post odd camel wd digit place d l k) {m : M D} {n : Nat} (h : EvS m g S (pre ++ mark ++ post) n) : EvS m g S odd 13 := ⟨by rw [C.h_odd]; exact h.e, (w_odd C).l⟩
theorem ev_camel (C : Cxt name one letter mark up n2 n3 n7 pre post odd camel wd digit place d l k) (h : g[0]? = some (some (.str name))) : EvS (mOp2 fAdd (mSl (mVar 0) (mP none) (mPart (mP (.int 5)))) (mP (.str "Q"))) g S camel 7 := by
  obtain ⟨n5, e, hl, ec⟩ := C.h_ecamel S
  have r : EvS (mOp2 fAdd (mSl (mVar 0) (mP none) (mPart (mP (.int 5)))) (mP (.str "Q"))) g S (n5 ++ "Q") (6 + 1) := evs_add ⟨by simp [h, e], hl⟩ (evs_lit (by decide +kernel))
  rw [ec]; exact r
end
theorem law_wrong_ev (C : Cxt name one letter mark up n2 n3 n7 pre post odd camel wd digit place d l k) (S : Store) : ∃ l n, m_law_wrong [.str name, .int digit, .str letter] S = some (.ok (.lst l), S) ∧ (∀ x ∈ l, BadD x) ∧ l.length = n ∧ n ≤ 200 := by
  have r : RetL b_law_wrong [some (.str name), some (.int digit), some (.str letter), none, none] S _ := (ret_setS (ev_one C rfl) (ret_set (evl_lst (evb_cons (evs_lit ll_46) (ln_68 C) (evb_cons (evs_lit ll_2) (ln_67 C) (evb_cons (evs_lit ll_45) (ln_66 C) (evb_cons (evs_lit ll_26) (ln_65 C) (evb_cons (evs_lit ll_44) (ln_64 C) (evb_cons (evs_add (evs_lit ll_14) (evs_var (w_name C).l rfl)) (ln_63 C) (evb_cons (evs_add (evs_lit ll_13) (evs_var (w_name C).l rfl)) (ln_62 C) (evb_cons (evs_add (evs_lit ll_11) (evs_var (w_one C).l rfl)) (ln_21 C) (evb_cons (evs_lit ll_43) (ln_61 C) (evb_cons (evs_lit ll_0) (ln_60 C) evb_nil))))))))))) fun l hb hn => (ret_set (evl_add (evl_var hb hn rfl) (evl_lst (evb_cons (evs_lit ll_41) (ln_59 C) (evb_cons (evs_lit ll_42) (ln_58 C) (evb_cons (evs_add (evs_lit ll_41) (evs_var (w_name C).l rfl)) (ln_57 C) (evb_cons (evs_lit ll_40) (ln_56 C) (evb_cons (evs_lit ll_39) (ln_55 C) (evb_cons (evs_add (evs_lit ll_38) (evs_var (w_name C).l rfl)) (ln_54 C) (evb_cons (evs_add (evs_add (evs_lit ll_26) (evs_var (w_name C).l rfl)) (evs_lit ll_2)) (ln_53 C) evb_nil))))))))) fun l hb hn => (ret_set (evl_add (evl_var hb hn rfl) (evl_lst (evb_cons (evs_add (evs_lit ll_37) (evs_var (w_name C).l rfl)) (ln_52 C) (evb_cons (evs_add (evs_add (evs_add (evs_lit ll_26) (evs_var (w_name C).l rfl)) (evs_lit ll_2)) (evs_var (w_name C).l rfl)) (ln_51 C) (evb_cons (evs_add (evs_lit ll_36) (evs_var (w_name C).l rfl)) (ln_50 C) (evb_cons (evs_add (evs_lit ll_35) (evs_var (w_name C).l rfl)) (ln_49 C) (evb_cons (evs_add (evs_lit ll_34) (evs_var (w_name C).l rfl)) (ln_48 C) evb_nil))))))) fun l hb hn => (ret_set (evl_add (evl_var hb hn rfl) (evl_lst (evb_cons (evs_add (evs_add (evs_add (evs_lit ll_14) (evs_var (w_name C).l rfl)) (evs_lit ll_33)) (evs_var (w_one C).l rfl)) (ln_47 C) (evb_cons (evs_add (evs_add (evs_add (evs_add (evs_lit ll_14) (evs_var (w_name C).l rfl)) (evs_lit ll_2)) (evs_var (w_one C).l rfl)) (evs_lit ll_2)) (ln_46 C) (evb_cons (evs_add (evs_add (evs_add (evs_lit ll_10) (evs_var (w_name C).l rfl)) (evs_lit ll_2)) (evs_var (w_one C).l rfl)) (ln_45 C) evb_nil))))) fun l hb hn => (ret_set (evl_add (evl_var hb hn rfl) (evl_lst (evb_cons (evs_add (evs_add (evs_add (evs_add (evs_add (evs_lit ll_14) (evs_var (w_name C).l rfl)) (evs_lit ll_2)) (evs_var (w_one C).l rfl)) (evs_lit ll_2)) (evs_var (w_one C).l rfl)) (ln_44 C) (evb_cons (evs_add (evs_add (evs_add (evs_lit ll_14) (evs_var (w_name C).l rfl)) (evs_lit ll_17)) (evs_var (w_one C).l rfl)) (ln_43 C) (evb_cons (evs_add (evs_add (evs_add (evs_lit ll_13) (evs_var (w_name C).l rfl)) (evs_lit ll_19)) (evs_var (w_one C).l rfl)) (ln_42 C) evb_nil))))) fun l hb hn => (ret_set (evl_add (evl_var hb hn rfl) (evl_lst (evb_cons (evs_add (evs_add (evs_add (evs_lit ll_14) (evs_var (w_name C).l rfl)) (evs_lit ll_2)) (evs_var (w_letter C).l rfl)) (ln_41 C) (evb_cons (evs_add (evs_add (evs_lit ll_13) (evs_var (w_name C).l rfl)) (evs_lit ll_32)) (ln_40 C) (evb_cons (evs_add (evs_add (evs_lit ll_13) (evs_var (w_name C).l rfl)) (evs_lit ll_31)) (ln_39 C) (evb_cons (evs_add (evs_add (evs_lit ll_14) (evs_var (w_name C).l rfl)) (evs_lit ll_30)) (ln_38 C) evb_nil)))))) fun l hb hn => (ret_set (evl_add (evl_var hb hn rfl) (evl_lst (evb_cons (evs_add (evs_add (evs_add (evs_lit ll_14) (evs_var (w_name C).l rfl)) (evs_lit ll_29)) (evs_var (w_one C).l rfl)) (ln_37 C) (evb_cons (evs_add (evs_add (evs_add (evs_lit ll_13) (evs_var (w_name C).l rfl)) (evs_lit ll_28)) (evs_var (w_one C).l rfl)) (ln_36 C) (evb_cons (evs_add (evs_add (evs_lit ll_26) (ev_n3 C rfl)) (evs_var (w_one C).l rfl)) (ln_35 C) (evb_cons (evs_add (evs_lit ll_26) (evs_var (w_one C).l rfl)) (ln_34 C) evb_nil)))))) fun l hb hn => (ret_set (evl_add (evl_var hb hn rfl) (evl_lst (evb_cons (evs_add (evs_lit ll_26) (ev_up C rfl)) (ln_33 C) (evb_cons (evs_add (evs_add (evs_lit ll_26) (ev_n2 C rfl)) (evs_lit ll_27)) (ln_32 C) (evb_cons (evs_add (evs_lit ll_26) (ev_n7 C rfl)) (ln_31 C) (evb_cons (evs_lit ll_25) (ln_30 C) evb_nil)))))) fun l hb hn => (ret_set (evl_add (evl_var hb hn rfl) (evl_lst (evb_cons (evs_add (evs_add (evs_add (evs_lit ll_14) (ev_up C rfl)) (evs_lit ll_2)) (evs_var (w_one C).l rfl)) (ln_29 C) (evb_cons (evs_add (evs_add (evs_add (evs_lit ll_13) (ev_n7 C rfl)) (evs_lit ll_2)) (evs_var (w_one C).l rfl)) (ln_28 C) (evb_cons (evs_lit ll_24) (ln_27 C) (evb_cons (evs_lit ll_23) (ln_26 C) evb_nil)))))) fun l hb hn => (ret_set (evl_add (evl_var hb hn rfl) (evl_lst (evb_cons (evs_add (evs_add (evs_lit ll_22) (evs_var (w_one C).l rfl)) (evs_lit ll_19)) (ln_25 C) (evb_cons (evs_lit ll_21) (ln_24 C) (evb_cons (evs_add (evs_add (evs_lit ll_11) (evs_var (w_one C).l rfl)) (evs_lit ll_20)) (ln_23 C) (evb_cons (evs_add (evs_add (evs_add (evs_lit ll_11) (evs_var (w_one C).l rfl)) (evs_lit ll_19)) (evs_var (w_one C).l rfl)) (ln_22 C) (evb_cons (evs_add (evs_lit ll_11) (evs_var (w_one C).l rfl)) (ln_21 C) evb_nil))))))) fun l hb hn => (ret_set (evl_add (evl_var hb hn rfl) (evl_lst (evb_cons (evs_add (evs_add (evs_lit ll_11) (evs_var (w_one C).l rfl)) (evs_lit ll_18)) (ln_20 C) (evb_cons (evs_add (evs_add (evs_lit ll_16) (evs_var (w_one C).l rfl)) (evs_lit ll_17)) (ln_19 C) (evb_cons (evs_add (evs_add (evs_add (evs_lit ll_11) (evs_var (w_one C).l rfl)) (evs_lit ll_2)) (evs_var (w_name C).l rfl)) (ln_18 C) (evb_cons (evs_add (evs_lit ll_15) (evs_var (w_one C).l rfl)) (ln_17 C) evb_nil)))))) fun l hb hn => (ret_set (evl_add (evl_var hb hn rfl) (evl_lst (evb_cons (evs_add (evs_add (evs_lit ll_14) (evs_var (w_name C).l rfl)) (evs_lit ll_2)) (ln_16 C) (evb_cons (evs_add (evs_add (evs_lit ll_13) (evs_var (w_name C).l rfl)) (evs_lit ll_2)) (ln_15 C) (evb_cons (evs_add (evs_lit ll_12) (evs_var (w_one C).l rfl)) (ln_14 C) (evb_cons (evs_add (evs_add (evs_lit ll_11) (evs_var (w_one C).l rfl)) (evs_lit ll_2)) (ln_13 C) (evb_cons (evs_add (evs_lit ll_10) (evs_var (w_one C).l rfl)) (ln_12 C) evb_nil))))))) fun l hb hn => (ret_set (evl_add (evl_var hb hn rfl) (evl_lst (evb_cons (evs_add (evs_lit ll_9) (evs_var (w_one C).l rfl)) (ln_11 C) (evb_cons (evs_add (evs_lit ll_8) (evs_var (w_one C).l rfl)) (ln_10 C) (evb_cons (evs_add (evs_lit ll_7) (evs_var (w_one C).l rfl)) (ln_9 C) (evb_cons (evs_add (evs_lit ll_0) (evs_var (w_name C).l rfl)) (ln_8 C) (evb_cons (evs_add (evs_add (evs_lit ll_0) (evs_var (w_one C).l rfl)) (evs_lit ll_2)) (ln_7 C) (evb_cons (evs_lit ll_6) (ln_6 C) evb_nil)))))))) fun l hb hn => (ret_l (evl_add (evl_var hb hn rfl) (evl_lst (evb_cons (evs_lit ll_5) (ln_5 C) (evb_cons (evs_lit ll_4) (ln_4 C) (evb_cons (evs_add (evs_lit ll_3) (evs_var (w_name C).l rfl)) (ln_3 C) (evb_cons (evs_add (evs_add (ev_up C rfl) (evs_lit ll_2)) (evs_var (w_name C).l rfl)) (ln_2 C) (evb_cons (evs_var (w_one C).l rfl) (ln_1 C) (evb_cons (evs_add (evs_add (evs_add (evs_lit ll_0) (evs_var (w_one C).l rfl)) (evs_lit ll_1)) (evs_var (w_one C).l rfl)) (ln_0 C) evb_nil)))))))))))))))))))))))
  obtain ⟨l, e, b, h⟩ := r
  exact ⟨l, _, fn_ret rfl rfl e, b, h, by decide⟩
theorem law_wrong_words_ev (C : Cxt name one letter mark up n2 n3 n7 pre post odd camel wd digit place d l k) (S : Store) : ∃ l n, m_law_wrong_words [.str name, .int digit, .str wd] S = some (.ok (.lst l), S) ∧ (∀ x ∈ l, BadD x) ∧ l.length = n ∧ n ≤ 200 := by
  have r : RetL b_law_wrong_words [some (.str name), some (.int digit), some (.str wd), none, none] S _ := (ret_setS (ev_one C rfl) (ret_set (evl_lst (evb_cons (evs_add (evs_add (evs_add (evs_lit ll_55) (evs_var (w_name C).l rfl)) (evs_lit ll_2)) (evs_var (w_one C).l rfl)) (ln_84 C) (evb_cons (evs_add (evs_add (evs_lit ll_54) (evs_var (w_name C).l rfl)) (evs_lit ll_20)) (ln_83 C) (evb_cons (evs_add (evs_add (evs_lit ll_53) (evs_var (w_one C).l rfl)) (evs_lit ll_19)) (ln_82 C) evb_nil)))) fun l hb hn => (ret_set (evl_add (evl_var hb hn rfl) (evl_lst (evb_cons (evs_add (evs_lit ll_52) (evs_var (w_one C).l rfl)) (ln_81 C) (evb_cons (evs_add (evs_add (evs_lit ll_51) (evs_var (w_name C).l rfl)) (evs_lit ll_20)) (ln_80 C) (evb_cons (evs_add (evs_add (evs_add (evs_lit ll_50) (evs_var (w_name C).l rfl)) (evs_lit ll_2)) (evs_var (w_one C).l rfl)) (ln_79 C) evb_nil))))) fun l hb hn => (ret_set (evl_add (evl_var hb hn rfl) (evl_lst (evb_cons (evs_add (evs_add (evs_lit ll_49) (evs_var (w_name C).l rfl)) (evs_lit ll_20)) (ln_78 C) (evb_cons (evs_add (evs_add (evs_lit ll_48) (evs_var (w_one C).l rfl)) (evs_lit ll_19)) (ln_77 C) (evb_cons (evs_add (evs_lit ll_47) (evs_var (w_one C).l rfl)) (ln_76 C) evb_nil))))) fun l hb hn => (ret_set (evl_add (evl_var hb hn rfl) (evl_lst (evb_cons (evs_var (w_wd C).l rfl) (ln_75 C) (evb_cons (evs_add (evs_add (evs_var (w_wd C).l rfl) (evs_lit ll_2)) (evs_var (w_name C).l rfl)) (ln_74 C) (evb_cons (evs_add (evs_add (evs_var (w_wd C).l rfl) (evs_lit ll_2)) (evs_var (w_one C).l rfl)) (ln_73 C) (evb_cons (evs_add (evs_add (evs_add (evs_var (w_wd C).l rfl) (evs_lit ll_2)) (evs_var (w_name C).l rfl)) (evs_lit ll_20)) (ln_72 C) evb_nil)))))) fun l hb hn => (ret_set (evl_add (evl_var hb hn rfl) (evl_lst (evb_cons (evs_add (evs_add (evs_add (evs_add (evs_var (w_wd C).l rfl) (evs_lit ll_2)) (evs_var (w_name C).l rfl)) (evs_lit ll_2)) (evs_var (w_one C).l rfl)) (ln_71 C) (evb_cons (evs_add (evs_add (evs_add (evs_add (evs_var (w_wd C).l rfl) (evs_lit ll_2)) (evs_var (w_one C).l rfl)) (evs_lit ll_2)) (evs_var (w_one C).l rfl)) (ln_70 C) evb_nil)))) fun l hb hn => (ret_l (evl_add (evl_var hb hn rfl) (evl_lst (evb_cons (evs_add (evs_add (evs_add (evs_add (evs_add (evs_add (evs_var (w_wd C).l rfl) (evs_lit ll_2)) (evs_var (w_name C).l rfl)) (evs_lit ll_2)) (evs_var (w_one C).l rfl)) (evs_lit ll_2)) (evs_var (w_one C).l rfl)) (ln_69 C) evb_nil))))))))))
  obtain ⟨l, e, b, h⟩ := r
  exact ⟨l, _, fn_ret rfl rfl e, b, h, by decide⟩
theorem law_wrong_marks_ev (C : Cxt name one letter mark up n2 n3 n7 pre post odd camel wd digit place d l k) (S : Store) : ∃ l n, m_law_wrong_marks [.str name, .int digit, .str letter, .str mark, .int place] S = some (.ok (.lst l), S) ∧ (∀ x ∈ l, BadD x) ∧ l.length = n ∧ n ≤ 200 := by
  have r : RetL b_law_wrong_marks [some (.str name), some (.int digit), some (.str letter), some (.str mark), some (.int place), none, none, none, none] S _ := (ret_setS (ev_one C rfl) (ret_setS (x := odd) (n := 13) (ev_odd C (evs_add (evs_add (ev_pre C rfl rfl) (evs_var (w_mark C).l rfl)) (ev_post C rfl rfl))) (ret_setS (ev_camel C rfl) (ret_set (evl_lst (evb_cons (evs_add (evs_lit ll_26) (evs_var (w_odd C).l rfl)) (ln_108 C) (evb_cons (evs_add (evs_add (evs_add (evs_lit ll_14) (evs_var (w_odd C).l rfl)) (evs_lit ll_2)) (evs_var (w_one C).l rfl)) (ln_107 C) (evb_cons (evs_add (evs_add (evs_lit ll_13) (evs_var (w_odd C).l rfl)) (evs_lit ll_20)) (ln_106 C) evb_nil)))) fun l hb hn => (ret_set (evl_add (evl_var hb hn rfl) (evl_lst (evb_cons (evs_add (evs_lit ll_26) (evs_var (w_camel C).l rfl)) (ln_105 C) (evb_cons (evs_add (evs_add (evs_add (evs_lit ll_14) (evs_var (w_camel C).l rfl)) (evs_lit ll_2)) (evs_var (w_one C).l rfl)) (ln_104 C) (evb_cons (evs_add (evs_add (evs_lit ll_13) (evs_var (w_camel C).l rfl)) (evs_lit ll_20)) (ln_103 C) evb_nil))))) fun l hb hn => (ret_set (evl_add (evl_var hb hn rfl) (evl_lst (evb_cons (evs_add (evs_add (evs_add (evs_lit ll_26) (ev_pre C rfl rfl)) (evs_var (w_one C).l rfl)) (ev_post C rfl rfl)) (ln_102 C) evb_nil))) fun l hb hn => (ret_set (evl_add (evl_var hb hn rfl) (evl_lst (evb_cons (evs_add (evs_add (evs_add (evs_lit ll_14) (evs_var (w_name C).l rfl)) (evs_lit ll_2)) (evs_var (w_mark C).l rfl)) (ln_101 C) (evb_cons (evs_add (evs_add (evs_add (evs_add (evs_lit ll_13) (evs_var (w_name C).l rfl)) (evs_lit ll_2)) (evs_var (w_one C).l rfl)) (evs_var (w_mark C).l rfl)) (ln_100 C) evb_nil)))) fun l hb hn => (ret_set (evl_add (evl_var hb hn rfl) (evl_lst (evb_cons (evs_add (evs_add (evs_lit ll_0) (evs_var (w_one C).l rfl)) (evs_var (w_letter C).l rfl)) (ln_99 C) (evb_cons (evs_add (evs_add (evs_lit ll_0) (evs_var (w_letter C).l rfl)) (evs_var (w_one C).l rfl)) (ln_98 C) (evb_cons (evs_add (evs_lit ll_58) (evs_var (w_letter C).l rfl)) (ln_97 C) evb_nil))))) fun l hb hn => (ret_set (evl_add (evl_var hb hn rfl) (evl_lst (evb_cons (evs_add (evs_lit ll_58) (evs_var (w_mark C).l rfl)) (ln_96 C) (evb_cons (evs_add (evs_add (evs_lit ll_0) (evs_var (w_mark C).l rfl)) (evs_lit ll_57)) (ln_95 C) (evb_cons (evs_add (evs_lit ll_0) (evs_var (w_mark C).l rfl)) (ln_94 C) (evb_cons (evs_add (evs_lit ll_9) (evs_var (w_letter C).l rfl)) (ln_93 C) evb_nil)))))) fun l hb hn => (ret_set (evl_add (evl_var hb hn rfl) (evl_lst (evb_cons (evs_add (evs_add (evs_lit ll_0) (evs_var (w_one C).l rfl)) (evs_lit ll_1)) (ln_92 C) (evb_cons (evs_add (evs_add (evs_add (evs_lit ll_11) (evs_var (w_mark C).l rfl)) (evs_lit ll_2)) (evs_var (w_one C).l rfl)) (ln_91 C) (evb_cons (evs_add (evs_add (evs_add (evs_lit ll_11) (evs_var (w_one C).l rfl)) (evs_var (w_letter C).l rfl)) (evs_lit ll_56)) (ln_90 C) evb_nil))))) fun l hb hn => (ret_set (evl_add (evl_var hb hn rfl) (evl_lst (evb_cons (evs_add (evs_add (evs_add (evs_add (evs_lit ll_11) (evs_var (w_one C).l rfl)) (evs_lit ll_2)) (evs_var (w_one C).l rfl)) (evs_var (w_letter C).l rfl)) (ln_89 C) (evb_cons (evs_add (evs_add (evs_add (evs_lit ll_11) (evs_var (w_one C).l rfl)) (evs_lit ll_17)) (evs_var (w_letter C).l rfl)) (ln_88 C) evb_nil)))) fun l hb hn => (ret_set (evl_add (evl_var hb hn rfl) (evl_lst (evb_cons (evs_add (evs_add (evs_add (evs_lit ll_11) (evs_var (w_one C).l rfl)) (evs_lit ll_17)) (evs_var (w_mark C).l rfl)) (ln_87 C) (evb_cons (evs_add (evs_add (evs_add (evs_lit ll_11) (evs_var (w_one C).l rfl)) (evs_lit ll_2)) (evs_var (w_mark C).l rfl)) (ln_86 C) evb_nil)))) fun l hb hn => (ret_l (evl_add (evl_var hb hn rfl) (evl_lst (evb_cons (evs_add (evs_add (evs_add (evs_add (evs_lit ll_11) (evs_var (w_one C).l rfl)) (evs_lit ll_2)) (evs_var (w_letter C).l rfl)) (evs_var (w_one C).l rfl)) (ln_85 C) evb_nil))))))))))))))))
  obtain ⟨l, e, b, h⟩ := r
  exact ⟨l, _, fn_ret rfl rfl e, b, h, by decide⟩
end
end Lw
namespace Lw
open PySem L2 Mi TL
abbrev lets25 : Str := "abcdefghijklmnopqstuvwxyz"
abbrev marks55 : Str := "!#$&'()*+,-./:;<=>?\x40[]^_`{|}~ABCDEFGHIJKLMNOPQRSTUVWXYZ"
theorem one_at : ∀ n : Fin 10, cs (Str.ofString (toString ((n : Nat) : Int))) = [48 + (n : Nat)] := by decide +kernel
theorem let_at : (cs lets25).all (fun c => decide (97 ≤ c ∧ c ≤ 122 ∧ c ≠ 114)) = true ∧ (cs lets25).length = 25 := by decide +kernel
theorem mark_at : (cs marks55).all (fun c => decide (33 ≤ c ∧ c ≤ 126 ∧ ¬ (97 ≤ c ∧ c ≤ 122) ∧ ¬ (48 ≤ c ∧ c ≤ 57))) = true ∧ (cs marks55).length = 55 := by decide +kernel
theorem cstr_one {S : Store} {i : Int} (h0 : 0 ≤ i) (h1 : i < 10) : cStr S [.int i] = some (.str (Str.ofString (toString i))) := by
  show (if cdec (i.natAbs.log2 < 1920) = true then _ else none) = _
  rw [if_pos (cdec_iff.mpr ?_)]
  have h2 : i.natAbs.log2 ≤ i.natAbs := Nat.log2_le_self _
  omega
theorem sl_str {S : Store} {z : Str} {lo hi : Option Int} (h : z.length ≤ 1000) : fSl S (.str z) lo hi = some (.str (cutS z lo hi)) := by
  show (if szOk z.length = true then _ else none) = _
  rw [if_pos (sz_ok (by omega))]
theorem cxt_of {name wd : Str} {digit i j place : Int} (hn : nameL (cs name) = true) (hd : 0 ≤ digit ∧ digit < 10) (hi : 0 ≤ i ∧ i < 25) (hj : 0 ≤ j ∧ j < 55) (hp : 0 ≤ place)
    (hw : nameL (cs wd) = true ∧ ¬ wd = "load" ∧ ¬ wd = "store" ∧ ¬ wd = "swap" ∧ ¬ wd = "fence" ∧ ¬ wd = "test" ∧ ¬ wd = "jump") :
    ∃ one letter mark up n2 n3 n7 pre post odd camel d l k, Cxt name one letter mark up n2 n3 n7 pre post odd camel wd digit place d l k ∧ (∀ S, fIx S (.str lets25) (.int i) = some (.str letter)) ∧ (∀ S, fIx S (.str marks55) (.int j) = some (.str mark)) ∧ (d : Int) = 48 + digit := by
  have nm := nameL_of hn
  have nl : name.length ≤ 6 := by rw [← cs_len]; exact nm.2.1
  have nl1 : 1 ≤ name.length := by rw [← cs_len]; exact nm.1
  have o := one_at ⟨digit.toNat, by omega⟩
  have ed : ((digit.toNat : Nat) : Int) = digit := by omega
  simp only [ed] at o
  have li : i.toNat < (cs lets25).length := by rw [let_at.2]; omega
  have lj : j.toNat < (cs marks55).length := by rw [mark_at.2]; omega
  have fl := of_decide_eq_true (List.all_eq_true.mp let_at.1 _ (List.getElem_mem li))
  have fm := of_decide_eq_true (List.all_eq_true.mp mark_at.1 _ (List.getElem_mem lj))
  have xl : ∀ S, fIx S (.str lets25) (.int i) = some (.str (mkS [(cs lets25)[i.toNat]])) := fun S => by
    have := ixS_ev (S := S) (z := lets25) (i := i.toNat) (c := (cs lets25)[i.toNat]) (by decide +kernel) (List.getElem?_eq_getElem li)
    rwa [show ((i.toNat : Nat) : Int) = i from by omega] at this
  have xm : ∀ S, fIx S (.str marks55) (.int j) = some (.str (mkS [(cs marks55)[j.toNat]])) := fun S => by
    have := ixS_ev (S := S) (z := marks55) (i := j.toNat) (c := (cs marks55)[j.toNat]) (by decide +kernel) (List.getElem?_eq_getElem lj)
    rwa [show ((j.toNat : Nat) : Int) = j from by omega] at this
  have asc : ∀ c ∈ name.cps.toList, c < 128 := fun c hc => by have := nm.2.2 c hc; omega
  have cu : cs (Txt.upper name) = (cs name).map PyProof.Rows.up1 := by
    rw [PyProof.Rows.upper_ascii asc]
    show (name.cps.map PyProof.Rows.up1).toList = _
    rw [Array.toList_map]; rfl
  have rl : (repS name 7).length = 7 * name.length := repS_len name 7
  have cr : cs (repS name 7) = (List.replicate 7 (cs name)).flatten := repS_list name 7
  have c7 : cs (cutS (repS name 7) none (some 7)) = (cs (repS name 7)).take 7 := cs_take _ 7 (by decide)
  refine ⟨Str.ofString (toString digit), mkS [(cs lets25)[i.toNat]], mkS [(cs marks55)[j.toNat]], Txt.upper name, cutS name none (some 2), cutS name none (some 3), cutS (repS name 7) none (some 7),
    cutS name none (some place), cutS name (some (place + 1)) none, cutS name none (some place) ++ mkS [(cs marks55)[j.toNat]] ++ cutS name (some (place + 1)) none, cutS name none (some 5) ++ "Q", 48 + digit.toNat, (cs lets25)[i.toNat], (cs marks55)[j.toNat], ?_, xl, xm, by omega⟩
  exact {
    h_name := hn
    h_one := o
    h_d := by omega
    h_letter := rfl
    h_l := fl
    h_mark := rfl
    h_k := fm
    h_up := cu
    h_eup := fun S => by rw [v_upper, if_pos (sz_ok (by omega))]
    h_n2 := cs_take name 2 (by decide)
    h_e2 := fun S => sl_str (by omega)
    h_n3 := cs_take name 3 (by decide)
    h_e3 := fun S => sl_str (by omega)
    h_n7 := ⟨by rw [c7, List.length_take, cs_len, rl]; omega, fun c hc => by
      rw [c7] at hc
      have h1 := List.mem_of_mem_take hc
      rw [cr] at h1
      obtain ⟨z, hz, hc2⟩ := List.mem_flatten.mp h1
      have := (List.mem_replicate.mp hz).2
      subst this
      have := nm.2.2 c hc2
      simp [isLet]; exact this⟩
    h_e7 := fun S => by
      rw [v_mulS, if_pos (show cRep name 7 = true from cdec_iff.mpr ⟨by decide, by decide, by omega, by omega⟩), Option.bind_some]
      exact sl_str (by rw [show (7 : Int).toNat = 7 from rfl, rl]; omega)
    h_pre := cs_take name place hp
    h_epre := fun S => sl_str (by omega)
    h_post := by rw [cs_drop name (place + 1) (by omega), show (place + 1).toNat = place.toNat + 1 from by omega]
    h_epost := fun S => sl_str (by omega)
    h_odd := rfl
    h_camel := by rw [cs_app, cs_take name 5 (by decide), show cs ("Q" : Str) = [81] from by decide +kernel]; rfl
    h_ecamel := fun S => ⟨_, sl_str (by omega), Nat.le_trans (cutS_length _ _ _) nl, rfl⟩
    h_wd := hw
    h_estr := fun S => cstr_one hd.1 hd.2
    h_place := hp }
theorem name_at (l : List Int) (at_ : Int) : nameL (cs (mkS (wordF l at_))) = true ∧ (mkS (wordF l at_)).length ≤ 6 := by
  obtain ⟨h1, h2⟩ := wordF_len l at_
  have h3 := wordF_abc l at_
  rw [cs_mkS, len_mkS]
  refine ⟨?_, h2⟩
  simp only [nameL, Bool.and_eq_true, decide_eq_true_eq, List.all_eq_true, isLet]
  exact ⟨⟨h1, h2⟩, fun c hc => h3 c hc⟩
end Lw
namespace Lw
open PySem L2 Mi TL
theorem strOk_of {z : Str} (h : nameL (cs z) = true) : PyData.strOk z = true := by
  unfold PyData.strOk
  rw [← Array.all_toList, List.all_eq_true]
  intro c hc
  have := (nameL_of h).2.2 c hc
  exact decide_eq_true (by omega)
theorem in_six {S : Store} {a b1 b2 b3 b4 b5 b6 : Str} (h0 : PyData.strOk a = true) (h1 : PyData.strOk b1 = true) (h2 : PyData.strOk b2 = true) (h3 : PyData.strOk b3 = true) (h4 : PyData.strOk b4 = true) (h5 : PyData.strOk b5 = true) (h6 : PyData.strOk b6 = true) : fIn S (.str a) (.lst [.str b1, .str b2, .str b3, .str b4, .str b5, .str b6]) = some (.bl (decide (a = b1) || (decide (a = b2) || (decide (a = b3) || (decide (a = b4) || (decide (a = b5) || decide (a = b6))))))) := by
  have e : ∀ x : Str, (x == a) = decide (a = x) := fun x => by
    rw [Bool.beq_eq_decide_eq]; exact decide_eq_decide.mpr ⟨Eq.symm, Eq.symm⟩
  simp [fIn, inB, toPS, atC, toP, toPs, SeqAt.shaped, PyData.eqv, e, PyData.canLay0, PyData.canLayAll0, PyData.depth, PyData.depthAll, h0, h1, h2, h3, h4, h5, h6]
theorem loop_ev {l : List D} (hb : ∀ d ∈ l, BadD d) (g : Gm) (hg : 10 < g.length) (S : Store) : ∃ g', forGo (l, none) (bN 10) bd_law_0 l g S = some (.nx g', S) ∧ ∀ i, i < 10 → g'[i]? = g[i]? := by
  obtain ⟨g', S', e, h1, h2, h3, h4⟩ := forGo_all (src := (l, none)) (b := bN 10) (body := bd_law_0) (fun ds g' S' => (∀ d ∈ ds, BadD d) ∧ S' = S ∧ g'.length = g.length ∧ ∀ i, i < 10 → g'[i]? = g[i]?)
    (fun d ds g1 S1 ⟨h1, h2, h3, h4⟩ => by
      subst h2
      obtain ⟨x, rfl, hx, hbx⟩ := h1 d List.mem_cons_self
      refine ⟨True.intro, _, g1.set 10 (some (.str x)), _, rfl, .inl ?_, fun d hd => h1 d (List.mem_cons_of_mem _ hd), rfl, by simpa using h3, fun i hi => ?_⟩
      · have e : (g1.set 10 (some (D.str x)))[10]? = some (some (.str x)) := List.getElem?_set_self (by omega)
        simp [bd_law_0, e, hbx _]
      · rw [List.getElem?_set_ne (by omega)]; exact h4 i hi)
    (fun _ _ _ => True.intro) l g S ⟨hb, rfl, rfl, fun _ _ => rfl⟩
  subst h2
  exact ⟨g', e, h4⟩
theorem line2 {a b : Str} {A : Str} (h : cs A = cs a ++ [32]) : A ++ b = Txt.join " " [a, b] := cs_inj (by rw [cs_join, cs_app, h]; simp [joinL])
theorem parse_at {ws : List Str} {d : D} (hw : Ws ws) (e : parseW ws = some d) (hne : ws ≠ [] := by simp) (hl : ws.length ≤ 10 := by simp) (S : Store) : m_parse_row [.str (Txt.join " " ws)] S = some (.ok d, S) := by
  have hw2 : ∀ p ∈ ws, p.length ≤ 100 := fun p hp => (hw.all p hp).2
  have jl := join_le hw2
  exact parse_pos (split_ev hne (fun p hp => (hw.all p hp).1) (by omega)) (fun p hp => by have := hw2 p hp; omega) e
theorem law_true (ns : List Int) (h : ns.length ≤ 63) : m_law [.scr ns] [] = some (.ok (.bl true), []) := by
  obtain ⟨p, e0⟩ := pool_ev ns h
  have e1 := word_ev (l := p) (at_ := 0) (S := []) (by decide)
  have e2 := draw_ev (l := p) (k := 7) (many := 10) (S := []) (by decide) (by decide)
  have e3 := draw_ev (l := p) (k := 8) (many := 25) (S := []) (by decide) (by decide)
  have e4 := draw_ev (l := p) (k := 9) (many := 55) (S := []) (by decide) (by decide)
  have hn := name_at p 0
  have hl1 : 1 ≤ (mkS (wordF p 0)).length := by rw [← cs_len]; exact (nameL_of hn.1).1
  have e5 := draw_ev (l := p) (k := 10) (many := ((mkS (wordF p 0)).length : Int)) (S := []) (by decide) (by omega)
  have e6 := word_ev (l := p) (at_ := 11) (S := []) (by decide)
  have hw := name_at p 11
  have b2 := And.intro (drawF_ge p 7 (many := 10) (by decide)) (drawF_lt p 7 (many := 10) (by decide))
  have b3 := And.intro (drawF_ge p 8 (many := 25) (by decide)) (drawF_lt p 8 (many := 25) (by decide))
  have b4 := And.intro (drawF_ge p 9 (many := 55) (by decide)) (drawF_lt p 9 (many := 55) (by decide))
  have b5 := drawF_ge p 10 (many := ((mkS (wordF p 0)).length : Int)) (by omega)
  have len := v_lenS [] (mkS (wordF p 0)) (by omega)
  have len2 := v_lenS [] marks55 (by decide +kernel)
  rw [show ((marks55.length : Nat) : Int) = 55 from by decide +kernel] at len2
  generalize mkS (wordF p 0) = name at *
  generalize mkS (wordF p 11) = w0 at *
  generalize drawF p 7 10 = digit at *
  generalize drawF p 8 25 = i at *
  generalize drawF p 9 55 = j at *
  generalize drawF p 10 _ = place at *
  have y6 : ∀ a b c d e f : D, ∀ S, fLst S [a, b, c, d, e, f] = some (.lst [a, b, c, d, e, f]) := fun a b c d e f S => if_pos (sz_ok (by simp only [List.length_cons, List.length_nil]; omega))
  have six := in_six (S := []) (a := w0) (b1 := "load") (b2 := "store") (b3 := "swap") (b4 := "fence") (b5 := "test") (b6 := "jump") (strOk_of hw.1) (by decide +kernel) (by decide +kernel) (by decide +kernel) (by decide +kernel) (by decide +kernel) (by decide +kernel)
  obtain ⟨wd, hwd, ewd⟩ : ∃ wd, (nameL (cs wd) = true ∧ ¬ wd = "load" ∧ ¬ wd = "store" ∧ ¬ wd = "swap" ∧ ¬ wd = "fence" ∧ ¬ wd = "test" ∧ ¬ wd = "jump") ∧
      wd = (if (decide (w0 = "load") || (decide (w0 = "store") || (decide (w0 = "swap") || (decide (w0 = "fence") || (decide (w0 = "test") || decide (w0 = "jump")))))) = true then ("set" : Str) else w0) := by
    split
    · exact ⟨"set", by decide +kernel, rfl⟩
    · rename_i hq
      refine ⟨w0, ?_, rfl⟩
      simpa using And.intro hw.1 hq
  obtain ⟨one, letter, mark, up, n2, n3, n7, pre, post, odd, camel, d, l, k, C, xl, xm, hd⟩ := cxt_of (name := name) (wd := wd) hn.1 b2 b3 b4 b5 hwd
  obtain ⟨l1, n1, q1, z1, m1, k1⟩ := law_wrong_ev C []
  obtain ⟨l2, n2', q2, z2, m2, k2⟩ := law_wrong_words_ev C []
  obtain ⟨l3, n3', q3, z3, m3, k3⟩ := law_wrong_marks_ev C []
  have hL : ∃ L12 L, L12 = l1 ++ l2 ∧ L = L12 ++ l3 := ⟨_, _, rfl, rfl⟩
  obtain ⟨L12, L, eL1, eL2⟩ := hL
  have a1 : fAdd [] (.lst l1) (.lst l2) = some (.lst L12) := by
    rw [eL1]
    show (if szOk (l1.length + l2.length) = true then _ else _) = _
    rw [if_pos (sz_ok (by omega))]
  have a2 : fAdd [] (.lst L12) (.lst l3) = some (.lst L) := by
    rw [eL2, eL1]
    show (if szOk ((l1 ++ l2).length + l3.length) = true then _ else _) = _
    rw [if_pos (sz_ok (by rw [List.length_append]; omega))]
  have hb : ∀ x ∈ L, BadD x := fun x hx => by
    rw [eL2, eL1] at hx
    rcases List.mem_append.mp hx with hx | hx
    · rcases List.mem_append.mp hx with hx | hx
      · exact z1 x hx
      · exact z2 x hx
    · exact z3 x hx
  have st : cStr [] [.int digit] = some (.str one) := C.h_estr []
  have ol : one.length ≤ 1 := (w_one C).l
  have nl : name.length ≤ 6 := (w_name C).l
  have dg : tgtN (cs one) = digit := by rw [C.h_one]; simp [tgtN]; omega
  have dv : valueL (cs one) = true := by rw [C.h_one]; simp [valueL, isDig]; exact C.h_d
  have p1 := parse_at (ws := ["load", name]) (d := .tup [.str "load", .str name]) (.cons (n := 4) (wn_lit (by decide +kernel)) (.cons (w_name C) .nil)) (by simp [parseW, C.h_name]) (S := [])
  have p2 := parse_at (ws := ["swap", name, one]) (d := .tup [.str "swap", .str name, .int digit]) (.cons (n := 4) (wn_lit (by decide +kernel)) (.cons (w_name C) (.cons (w_one C) .nil))) (by
    have h1 : ¬ (("swap" : Str) = "test") := by decide +kernel
    have h2 : ¬ one = "r" := fun h => by
      have e := congrArg cs h
      rw [C.h_one] at e
      have := C.h_d
      simp at e; omega
    simp [parseW, C.h_name, h1, h2, dv, dg]) (S := [])
  have p3 := parse_at (ws := ["test", one, ("1" : Str) ++ one]) (d := .tup [.str "test", .int digit, .int (10 + digit)]) (.cons (n := 4) (wn_lit (by decide +kernel)) (.cons (w_one C) (.cons (wn_app (n := 1) (wn_lit (by decide +kernel)) (w_one C)) .nil))) (by
    have t1 : targetL (cs (("1" : Str) ++ one)) = true := by have := C.h_d; simp [cs_app, C.h_one, targetL, isDig1, isDig]; exact this
    have t2 : tgtN (cs (("1" : Str) ++ one)) = 10 + digit := by simp [cs_app, C.h_one, tgtN]; omega
    simp [parseW, dv, t1, t2, dg]) (S := [])
  have j1 : ("load " : Str) ++ name = Txt.join " " ["load", name] := cs_inj (by simp [cs_join, cs_app, joinL])
  have j2 : ("swap " : Str) ++ name ++ " " ++ one = Txt.join " " ["swap", name, one] := cs_inj (by simp [cs_join, cs_app, joinL])
  have j3 : ("test " : Str) ++ one ++ " 1" ++ one = Txt.join " " ["test", one, ("1" : Str) ++ one] := cs_inj (by
    have c1 : cs (" 1" : Str) = [32, 49] := by decide +kernel
    simp [cs_join, cs_app, joinL, c1])
  rw [← j1] at p1
  rw [← j2] at p2
  rw [← j3] at p3
  have ad : ∀ x y : Str, x.length ≤ 1000 → y.length ≤ 1000 → ∀ S, fAdd S (.str x) (.str y) = some (.str (x ++ y)) := fun x y h1 h2 S => by
    rw [v_adds, if_pos (sz_ok (by omega))]
  have c1 : ("load " : Str).length = 5 := by decide +kernel
  have c2 : ("swap " : Str).length = 5 := by decide +kernel
  have c3 : ("test " : Str).length = 5 := by decide +kernel
  have c4 : (" " : Str).length = 1 := by decide +kernel
  have c5 : (" 1" : Str).length = 2 := by decide +kernel
  have g1 := ad "load " name (by omega) (by omega)
  have g2 := ad "swap " name (by omega) (by omega)
  have g3 := ad ("swap " ++ name) " " (by rw [app_len]; omega) (by omega)
  have g4 := ad ("swap " ++ name ++ " ") one (by rw [app_len, app_len]; omega) (by omega)
  have g5 := ad "test " one (by omega) (by omega)
  have g6 := ad ("test " ++ one) " 1" (by rw [app_len]; omega) (by omega)
  have g7 := ad ("test " ++ one ++ " 1") one (by rw [app_len, app_len]; omega) (by omega)
  have y2 : ∀ a b : D, ∀ S, fTup S [a, b] = some (.tup [a, b]) := fun a b S => if_pos (sz_ok (by simp only [List.length_cons, List.length_nil]; omega))
  have y3 : ∀ a b c : D, ∀ S, fTup S [a, b, c] = some (.tup [a, b, c]) := fun a b c S => if_pos (sz_ok (by simp only [List.length_cons, List.length_nil]; omega))
  have s1 := same_refl (S := []) 8 (.tup [.str "load", .str name]) (by simp [dep, deps]) (by simp [sOk, sOks]; exact sz_ok (by simp))
  have s2 := same_refl (S := []) 8 (.tup [.str "swap", .str name, .int digit]) (by simp [dep, deps]) (by simp [sOk, sOks]; exact sz_ok (by simp))
  have s3 := same_refl (S := []) 8 (.tup [.str "test", .int digit, .int (10 + digit)]) (by simp [dep, deps]) (by simp [sOk, sOks]; exact sz_ok (by simp))
  obtain ⟨g', lp, gk⟩ := loop_ev hb [some (.scr ns), some (.lst (p.map .int)), some (.str name), some (.int digit), some (.str letter), some (.str marks55), some (.str mark), some (.int place), some (.str wd), some (.lst L), none] (by simp) []
  have x1 : g'[2]? = some (some (.str name)) := by rw [gk 2 (by decide)]; rfl
  have x2 : g'[3]? = some (some (.int digit)) := by rw [gk 3 (by decide)]; rfl
  by_cases hq : (decide (w0 = "load") || (decide (w0 = "store") || (decide (w0 = "swap") || (decide (w0 = "fence") || (decide (w0 = "test") || decide (w0 = "jump")))))) = true
  · rw [if_pos hq] at ewd
    rw [hq] at six
    subst ewd
    simp [m_law, b_law, -v_adds, e0, e1, e2, e3, e4, e5, e6, len, len2, xl, xm, y6, six, q1, q2, q3, a1, a2, lp, x1, x2, p1, p2, p3, st, g1, g2, g3, g4, g5, g6, g7, y2, y3, s1, s2, s3]
  · rw [if_neg hq] at ewd
    rw [Bool.eq_false_iff.mpr hq] at six
    subst ewd
    simp [m_law, b_law, -v_adds, e0, e1, e2, e3, e4, e5, e6, len, len2, xl, xm, y6, six, q1, q2, q3, a1, a2, lp, x1, x2, p1, p2, p3, st, g1, g2, g3, g4, g5, g6, g7, y2, y3, s1, s2, s3]
end Lw
namespace Lw
open PySem L2 Mi
theorem law_sp {K : PySem.W.Frag} {ns : List Int} (hl : ns.length ≤ 63) {H : Hp} {a : Addr} (hS : SqL K H a (ns.map V.int)) : spA K m_law [.ref a] H (fun v _ => v = .bl true) fun _ _ _ => False :=
  fun _ => law_of (law_true ns hl) hS
end Lw
open PySem PySem.W PyProof.Rows
set_option maxRecDepth 100000 in
set_option maxHeartbeats 0 in
theorem PySem.Challenge.cw_elderreads_k02_wrong_lines_holds : PySem.Challenge.rw_elderreads_k02_wrong_lines.Holds := by
  w_on; o_law; k_head; (case hw => w_witness2)
  k_fill
  refine L2.walk_of (l := PySem.Challenge.rw_elderreads_k02_wrong_lines) (n := 63) (k := 10) (x := "_law_script") (CX := fun w => L2.CX PySem.Challenge.rw_elderreads_k02_wrong_lines.prog w) (sp := fun w => Mi.spA _ Lw.m_law) rfl (by decide) rfl ⟨rfl, by decide, by decide⟩ (fun w h Y => PySem.W.kIn_of Y) ?F (fun w H a ns hl hO hS => Lw.law_sp hl hS) (fun _ _ _ _ _ z => Mi.cx_never z)
  case F =>
    intro w mg fa h KX G hmg
    refine' Lw.all_mk KX G hmg ?a0 ?l0 ?c0 ?k0 ?a1 ?l1 ?c1 ?k1 ?a2 ?l2 ?c2 ?k2 ?a3 ?l3 ?c3 ?k3 ?a4 ?l4 ?c4 ?k4 ?a5 ?l5 ?c5 ?k5 ?a6 ?l6 ?c6 ?k6 ?a7 ?l7 ?c7 ?k7 ?a8 ?l8 ?c8 ?k8 ?a9 ?l9 ?c9 ?k9 ?a10 ?l10 ?c10 ?k10 ?a11 ?l11 ?c11 ?k11 ?a12 ?l12 ?c12 ?k12 ?z_ValueError ?z_abs ?z_all ?z_bool ?z_int ?z_isinstance ?z_len ?z_list ?z_range ?z_str ?z_sum ?z_tuple ?y_DIGITS ?y_LETTERS ?uC0 ?tC0 ?lC0 ?pp0 ?bC0 ?uC1 ?tC1 ?lC1 ?pp1 ?bC1 ?uC2 ?tC2 ?lC2 ?pp2 ?bC2 ?uC3 ?tC3 ?lC3 ?pp3 ?bC3 ?qC0 ?kC0 ?gaC0 ?ggC0 ?hdC0 ?caC0 ?hmC0 ?p0_0 ?p0_1 ?pv0 ?p0_2 ?p0_3 ?snC ?htC
    (case a0 => k_is); (case l0 => k_is); (case c0 => k_is); (case k0 => k_is); (case a1 => k_is); (case l1 => k_is)
    (case c1 => k_is); (case k1 => k_is); (case a2 => k_is); (case l2 => k_is); (case c2 => k_is); (case k2 => k_is)
    (case a3 => k_is); (case l3 => k_is); (case c3 => k_is); (case k3 => k_is); (case a4 => k_is); (case l4 => k_is)
    (case c4 => k_is); (case k4 => k_is); (case a5 => k_is); (case l5 => k_is); (case c5 => k_is); (case k5 => k_is)
    (case a6 => k_is); (case l6 => k_is); (case c6 => k_is); (case k6 => k_is); (case a7 => k_is); (case l7 => k_is)
    (case c7 => k_is); (case k7 => k_is); (case a8 => k_is); (case l8 => k_is); (case c8 => k_is); (case k8 => k_is)
    (case a9 => k_is); (case l9 => k_is); (case c9 => k_is); (case k9 => k_is); (case a10 => k_is); (case l10 => k_is)
    (case c10 => k_is); (case k10 => k_is); (case a11 => k_is); (case l11 => k_is); (case c11 => k_is); (case k11 => k_is)
    (case a12 => k_is); (case l12 => k_is); (case c12 => k_is); (case k12 => k_is); (case z_ValueError => k_is); (case z_abs => k_is)
    (case z_all => k_is); (case z_bool => k_is); (case z_int => k_is); (case z_isinstance => k_is); (case z_len => k_is); (case z_list => k_is)
    (case z_range => k_is); (case z_str => k_is); (case z_sum => k_is); (case z_tuple => k_is); (case y_DIGITS => k_is); (case y_LETTERS => k_is)
    (case uC0 => k_is); (case tC0 => k_is); (case lC0 => k_is); (case pp0 => k_is); (case bC0 => k_is); (case uC1 => k_is)
    (case tC1 => k_is); (case lC1 => k_is); (case pp1 => k_is); (case bC1 => k_is); (case uC2 => k_is); (case tC2 => k_is)
    (case lC2 => k_is); (case pp2 => k_is); (case bC2 => k_is); (case uC3 => k_is); (case tC3 => k_is); (case lC3 => k_is)
    (case pp3 => k_is); (case bC3 => k_is); (case qC0 => k_exc); (case kC0 => k_is); (case gaC0 => k_is); (case ggC0 => k_is)
    (case hdC0 => k_is); (case caC0 => k_is); (case hmC0 => k_is); (case p0_0 => k_is); (case p0_1 => k_is); (case pv0 => k_is)
    (case p0_2 => k_is); (case p0_3 => k_is); (case snC => k_is); (case htC => k_is)
