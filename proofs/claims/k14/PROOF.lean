import PyProof.Rows.All
import HandS.ForMost
import HandS.Wide
import HandS.WideBits
import HandS.Deep
import HandS.IsInst
import HandS.Style
import HandS.TupAny
import HandS.Text
import HandS.SortInts
import HandS.StrMore
import HandS.Iter
import KE.GoesEnumKw
import HandS.SortKw
import KE.SortData
import HandS.RaiseMore
import HandS.Strs
import PyProof.ReprRoads
import PyProof.P3In
import HandS.Ends
import HandS.Words
import HandS.RevRange
import KE.DataFind
import HandS.GenList
import HandS.SetFor
import KE.DataMinMax
import HandS.Flt
import Wide.All
import OpenK.AllK
import Wide.FinOn
import PySem.Challenge.RW_wordsquares_k14_whole_symbols_and_counts
set_option Elab.async false
set_option linter.all false
set_option maxRecDepth 100000
set_option maxHeartbeats 1000000
namespace Mn
open PySem PySem.Spec PyProof.Rows L2

/-- data as a tree -/
inductive D where
  | non | bl (b : Bool) | int (i : Int) | str (x : Str) | lst (l : List D) | tup (l : List D)
  | dct (kv : List (Key × D)) | gl (x : Str)

/-- a list that is read: tracked, known, or the module's own -/
def SqX (K : PySem.W.Frag) (H : Hp) (a : Addr) (xs : List V) : Prop :=
  Rd H a (.lst xs) ∨ ∃ (its : Array Value) (n : Nat), K.lookup a = some { cls := .type "list", data := .seq its n } ∧ its.size ≤ sizeLine ∧ Vals xs its.toList
theorem SqX.sq {K : PySem.W.Frag} {H : Hp} {a : Addr} {xs : List V} (h : SqX K H a xs) : SqL K H a xs := by
  rcases h with h | ⟨its, n, h1, h2, h3⟩
  · exact .inl h
  · exact .inr ⟨_, its, n, h1, rfl, rfl, rfl, h2, h3⟩
theorem SqX.of {K : PySem.W.Frag} {H : Hp} {a : Addr} {xs : List V} (h : H a = some (.lst xs)) : SqX K H a xs := .inl (.inl h)
theorem Same.seqX {K : PySem.W.Frag} {W W' : Hp} {a : Addr} {xs : List V} (e : Same W W') (h : SqX K W a xs) : SqX K W' a xs := by
  rcases h with (h | ⟨o, h⟩) | h
  · exact .inl (.inl (e _ _ h))
  · exact .inl (.inr ⟨o, e _ _ h⟩)
  · exact .inr h
section
variable (K : PySem.W.Frag) (mg : Str → Option Value)
mutual
/-- the value v stands for d, in the part W that never changes -/
def Rep (W : Hp) : D → V → Prop
  | .non, v => v = .non
  | .bl b, v => v = .bl b
  | .int i, v => v = .int i
  | .str x, v => v = .str x
  | .lst l, v => ∃ a vs, v = .ref a ∧ SqX K W a vs ∧ RepL W l vs
  | .tup l, v => ∃ a vs, v = .ref a ∧ SqT K W a vs ∧ RepL W l vs
  | .dct kv, v => ∃ a kvs, v = .ref a ∧ W a = some (.dK kvs) ∧ RepK W kv kvs
  | .gl x, v => ∃ u, mg x = some u ∧ RelV v u
def RepL (W : Hp) : List D → List V → Prop
  | [], vs => vs = []
  | d :: ds, vs => ∃ v r, vs = v :: r ∧ Rep W d v ∧ RepL W ds r
def RepK (W : Hp) : List (Key × D) → List (Key × V) → Prop
  | [], vs => vs = []
  | p :: ds, vs => ∃ v r, vs = (p.1, v) :: r ∧ Rep W p.2 v ∧ RepK W ds r
end
/-- footprints: how often an address is owned -/
abbrev Fp := Addr → Nat
def OwnL (P : D → V → Fp → Prop) : List D → List V → Fp → Prop
  | [], vs, G => vs = [] ∧ ∀ b, G b = 0
  | d :: ds, vs, G => ∃ v r F G', vs = v :: r ∧ P d v F ∧ OwnL P ds r G' ∧ ∀ b, G b = F b + G' b
/-- the value v stands for d; k levels of it are owned here alone (F), what is below stands in W -/
def Own (W H : Hp) : Nat → D → V → Fp → Prop
  | 0, d, v, F => Rep K mg W d v ∧ ∀ b, F b = 0
  | k + 1, .lst l, v, F => ∃ a vs G, v = .ref a ∧ H a = some (.lst vs) ∧ OwnL (Own W H k) l vs G ∧ ∀ b, F b = (if b = a then 1 else 0) + G b
  | k + 1, .tup l, v, F => ∃ a vs G, v = .ref a ∧ H a = some (.tup vs) ∧ OwnL (Own W H k) l vs G ∧ ∀ b, F b = (if b = a then 1 else 0) + G b
  | _ + 1, .dct kv, v, F => ∃ a kvs, v = .ref a ∧ H a = some (.dK kvs) ∧ RepK K mg W kv kvs ∧ ∀ b, F b = (if b = a then 1 else 0)
  | _ + 1, .non, v, F => Rep K mg W .non v ∧ ∀ b, F b = 0
  | _ + 1, .bl c, v, F => Rep K mg W (.bl c) v ∧ ∀ b, F b = 0
  | _ + 1, .int i, v, F => Rep K mg W (.int i) v ∧ ∀ b, F b = 0
  | _ + 1, .str x, v, F => Rep K mg W (.str x) v ∧ ∀ b, F b = 0
  | _ + 1, .gl x, v, F => Rep K mg W (.gl x) v ∧ ∀ b, F b = 0
end
/-- nothing owned can be in it -/
def D.sc : D → Bool
  | .lst _ => false
  | .tup _ => false
  | .dct _ => false
  | _ => true

section
variable {K : PySem.W.Frag} {mg : Str → Option Value} {W W' H H' B : Hp}
theorem Same.seqT {a : Addr} {xs : List V} (e : Same W W') (h : SqT K W a xs) : SqT K W' a xs := by
  rcases h with (h | ⟨o, h⟩) | h
  · exact .inl (.inl (e _ _ h))
  · exact .inl (.inr ⟨o, e _ _ h⟩)
  · exact .inr h
mutual
theorem Rep.mono (e : Same W W') : ∀ (d : D) (v : V), Rep K mg W d v → Rep K mg W' d v
  | .non, _, h => h
  | .bl _, _, h => h
  | .int _, _, h => h
  | .str _, _, h => h
  | .lst l, _, h => by
    obtain ⟨a, vs, e1, h1, h2⟩ := h
    exact ⟨a, vs, e1, Same.seqX e h1, RepL.mono e l vs h2⟩
  | .tup l, _, h => by
    obtain ⟨a, vs, e1, h1, h2⟩ := h
    exact ⟨a, vs, e1, Same.seqT e h1, RepL.mono e l vs h2⟩
  | .dct kv, _, h => by
    obtain ⟨a, vs, e1, h1, h2⟩ := h
    exact ⟨a, vs, e1, e _ _ h1, RepK.mono e kv vs h2⟩
  | .gl _, _, h => h
theorem RepL.mono (e : Same W W') : ∀ (l : List D) (vs : List V), RepL K mg W l vs → RepL K mg W' l vs
  | [], _, h => h
  | d :: ds, _, h => by
    obtain ⟨v, r, e1, h1, h2⟩ := h
    exact ⟨v, r, e1, Rep.mono e d v h1, RepL.mono e ds r h2⟩
theorem RepK.mono (e : Same W W') : ∀ (l : List (Key × D)) (vs : List (Key × V)), RepK K mg W l vs → RepK K mg W' l vs
  | [], _, h => h
  | d :: ds, _, h => by
    obtain ⟨v, r, e1, h1, h2⟩ := h
    exact ⟨v, r, e1, Rep.mono e d.2 v h1, RepK.mono e ds r h2⟩
end
theorem RepL.length : ∀ {l : List D} {vs : List V}, RepL K mg W l vs → vs.length = l.length
  | [], _, h => by cases (show _ = [] from h); rfl
  | _ :: ds, _, h => by
    obtain ⟨v, r, e1, _, h2⟩ := h
    rw [e1, List.length_cons, List.length_cons, RepL.length h2]
theorem RepL.get : ∀ {l : List D} {vs : List V} {i : Nat} {d : D}, RepL K mg W l vs → l[i]? = some d → ∃ v, vs[i]? = some v ∧ Rep K mg W d v
  | [], _, _, _, _, h => by simp at h
  | d :: ds, _, 0, _, h, e => by
    obtain ⟨v, r, rfl, h1, h2⟩ := h
    cases (show some d = _ from e)
    exact ⟨v, rfl, h1⟩
  | d :: ds, _, i + 1, x, h, e => by
    obtain ⟨v, r, rfl, h1, h2⟩ := h
    obtain ⟨v', e', h'⟩ := RepL.get (i := i) (d := x) h2 (by simpa using e)
    exact ⟨v', by simpa using e', h'⟩
theorem RepL.append : ∀ {l m : List D} {vs ws : List V}, RepL K mg W l vs → RepL K mg W m ws → RepL K mg W (l ++ m) (vs ++ ws)
  | [], _, _, _, h, g => by rw [show _ = [] from h]; exact g
  | _ :: ds, _, _, _, h, g => by
    obtain ⟨v, r, rfl, h1, h2⟩ := h
    exact ⟨v, r ++ _, rfl, h1, RepL.append h2 g⟩
theorem RepL.take : ∀ {l : List D} {vs : List V} (n : Nat), RepL K mg W l vs → RepL K mg W (l.take n) (vs.take n)
  | [], _, n, h => by rw [show _ = [] from h]; simp [RepL]
  | _ :: _, _, 0, h => by simp [RepL]
  | _ :: ds, _, n + 1, h => by
    obtain ⟨v, r, rfl, h1, h2⟩ := h
    exact ⟨v, r.take n, rfl, h1, RepL.take n h2⟩
theorem RepL.drop : ∀ {l : List D} {vs : List V} (n : Nat), RepL K mg W l vs → RepL K mg W (l.drop n) (vs.drop n)
  | [], _, n, h => by rw [show _ = [] from h]; simp [RepL]
  | _ :: _, _, 0, h => by simpa using h
  | _ :: ds, _, n + 1, h => by
    obtain ⟨v, r, rfl, h1, h2⟩ := h
    simpa using RepL.drop n h2

theorem OwnL.imp {P Q : D → V → Fp → Prop} : ∀ {l : List D} {vs : List V} {G : Fp}, OwnL P l vs G → (∀ d ∈ l, ∀ v F, (∀ b, F b ≤ G b) → P d v F → Q d v F) → OwnL Q l vs G
  | [], _, _, h, _ => h
  | d :: ds, _, _, h, f => by
    obtain ⟨v, r, F, G', e1, h1, h2, h3⟩ := h
    exact ⟨v, r, F, G', e1, f d List.mem_cons_self v F (fun b => by rw [h3]; omega) h1, OwnL.imp h2 fun d' hd v' F' hF => f d' (List.mem_cons_of_mem _ hd) v' F' fun b => by rw [h3]; have := hF b; omega, h3⟩
theorem OwnL.toRep {P : D → V → Fp → Prop} : ∀ {l : List D} {vs : List V} {G : Fp}, OwnL P l vs G → (∀ d ∈ l, ∀ v F, (∀ b, F b ≤ G b) → P d v F → Rep K mg W d v) → RepL K mg W l vs
  | [], _, _, h, _ => h.1
  | d :: ds, _, _, h, f => by
    obtain ⟨v, r, F, G', e1, h1, h2, h3⟩ := h
    exact ⟨v, r, e1, f d List.mem_cons_self v F (fun b => by rw [h3]; omega) h1, OwnL.toRep h2 fun d' hd v' F' hF => f d' (List.mem_cons_of_mem _ hd) v' F' fun b => by rw [h3]; have := hF b; omega⟩
theorem OwnL.length {P : D → V → Fp → Prop} : ∀ {l : List D} {vs : List V} {G : Fp}, OwnL P l vs G → vs.length = l.length
  | [], _, _, h => by cases h.1; rfl
  | _ :: ds, _, _, h => by
    obtain ⟨v, r, F, G', e1, _, h2, _⟩ := h
    rw [e1, List.length_cons, List.length_cons, OwnL.length h2]

/-- the frozen part grows, the rest of the heap changes elsewhere -/
theorem Own.mono (e : Same W W') : ∀ (k : Nat) (d : D) (v : V) (F : Fp), Own K mg W H k d v F → (∀ a, F a ≠ 0 → H' a = H a) → Own K mg W' H' k d v F
  | 0, d, v, F, h, _ => ⟨Rep.mono e d v h.1, h.2⟩
  | k + 1, .lst l, v, F, h, f => by
    obtain ⟨a, vs, G, e1, h1, h2, h3⟩ := h
    refine ⟨a, vs, G, e1, ?_, h2.imp fun d _ v F' hF hO => Own.mono e k d v F' hO fun b hb => f b ?_, h3⟩
    · rw [f a (by rw [h3, if_pos rfl]; omega)]; exact h1
    · rw [h3]; have := hF b; omega
  | k + 1, .tup l, v, F, h, f => by
    obtain ⟨a, vs, G, e1, h1, h2, h3⟩ := h
    refine ⟨a, vs, G, e1, ?_, h2.imp fun d _ v F' hF hO => Own.mono e k d v F' hO fun b hb => f b ?_, h3⟩
    · rw [f a (by rw [h3, if_pos rfl]; omega)]; exact h1
    · rw [h3]; have := hF b; omega
  | _ + 1, .dct kv, v, F, h, f => by
    obtain ⟨a, vs, e1, h1, h2, h3⟩ := h
    exact ⟨a, vs, e1, by rw [f a (by rw [h3, if_pos rfl]; omega)]; exact h1, RepK.mono e kv vs h2, h3⟩
  | _ + 1, .non, _, _, h, _ => h
  | _ + 1, .bl _, _, _, h, _ => h
  | _ + 1, .int _, _, _, h, _ => h
  | _ + 1, .str _, _, _, h, _ => h
  | _ + 1, .gl _, _, _, h, _ => h
/-- what is owned may be read where it stands -/
theorem Own.rep (e : Same W W') : ∀ (k : Nat) (d : D) (v : V) (F : Fp), Own K mg W H k d v F → (∀ a, F a ≠ 0 → W' a = H a) → Rep K mg W' d v
  | 0, d, v, F, h, _ => Rep.mono e d v h.1
  | k + 1, .lst l, v, F, h, f => by
    obtain ⟨a, vs, G, e1, h1, h2, h3⟩ := h
    refine ⟨a, vs, e1, SqX.of (by rw [f a (by rw [h3, if_pos rfl]; omega)]; exact h1), h2.toRep fun d _ v F' hF hO => Own.rep e k d v F' hO fun b hb => f b ?_⟩
    rw [h3]; have := hF b; omega
  | k + 1, .tup l, v, F, h, f => by
    obtain ⟨a, vs, G, e1, h1, h2, h3⟩ := h
    refine ⟨a, vs, e1, SqT.of (by rw [f a (by rw [h3, if_pos rfl]; omega)]; exact h1), h2.toRep fun d _ v F' hF hO => Own.rep e k d v F' hO fun b hb => f b ?_⟩
    rw [h3]; have := hF b; omega
  | _ + 1, .dct kv, v, F, h, f => by
    obtain ⟨a, vs, e1, h1, h2, h3⟩ := h
    exact ⟨a, vs, e1, by rw [f a (by rw [h3, if_pos rfl]; omega)]; exact h1, RepK.mono e kv vs h2⟩
  | _ + 1, .non, _, _, h, _ => h.1
  | _ + 1, .bl _, _, _, h, _ => h.1
  | _ + 1, .int _, _, _, h, _ => h.1
  | _ + 1, .str _, _, _, h, _ => h.1
  | _ + 1, .gl _, _, _, h, _ => h.1
theorem Own.there : ∀ (k : Nat) (d : D) (v : V) (F : Fp), Own K mg W H k d v F → ∀ a, F a ≠ 0 → H a ≠ none
  | 0, _, _, _, h, a, ha => (ha (h.2 a)).elim
  | k + 1, .lst l, v, F, h, a, ha => by
    obtain ⟨c, vs, G, e1, h1, h2, h3⟩ := h
    by_cases q : a = c
    · rw [q, h1]; simp
    · have hG : G a ≠ 0 := by have := h3 a; rw [if_neg q] at this; omega
      clear h3 h1 e1 ha
      induction l generalizing vs G with
      | nil => exact (hG (h2.2 a)).elim
      | cons d ds ih =>
        obtain ⟨v1, r, F1, G1, _, p1, p2, p3⟩ := h2
        by_cases z : F1 a = 0
        · exact ih r G1 p2 (by have := p3 a; omega)
        · exact Own.there k d v1 F1 p1 a z
  | k + 1, .tup l, v, F, h, a, ha => by
    obtain ⟨c, vs, G, e1, h1, h2, h3⟩ := h
    by_cases q : a = c
    · rw [q, h1]; simp
    · have hG : G a ≠ 0 := by have := h3 a; rw [if_neg q] at this; omega
      clear h3 h1 e1 ha
      induction l generalizing vs G with
      | nil => exact (hG (h2.2 a)).elim
      | cons d ds ih =>
        obtain ⟨v1, r, F1, G1, _, p1, p2, p3⟩ := h2
        by_cases z : F1 a = 0
        · exact ih r G1 p2 (by have := p3 a; omega)
        · exact Own.there k d v1 F1 p1 a z
  | _ + 1, .dct kv, v, F, h, a, ha => by
    obtain ⟨c, vs, e1, h1, h2, h3⟩ := h
    have q : a = c := by
      by_cases q : a = c
      · exact q
      · have := h3 a; rw [if_neg q] at this; omega
    rw [q, h1]; simp
  | _ + 1, .non, _, _, h, a, ha => (ha (h.2 a)).elim
  | _ + 1, .bl _, _, _, h, a, ha => (ha (h.2 a)).elim
  | _ + 1, .int _, _, _, h, a, ha => (ha (h.2 a)).elim
  | _ + 1, .str _, _, _, h, a, ha => (ha (h.2 a)).elim
  | _ + 1, .gl _, _, _, h, a, ha => (ha (h.2 a)).elim
/-- scalars are owned to any depth -/
theorem Own.scal {d : D} (hs : d.sc = true) {k k' : Nat} {v : V} {F : Fp} (h : Own K mg W H k d v F) : Own K mg W H k' d v F := by
  cases d <;> first | (simp [D.sc] at hs; done) | (cases k <;> cases k' <;> exact h)
/-- fewer levels: the lower ones go to the frozen part -/
theorem Own.down : ∀ (k' k : Nat) (d : D) (v : V) (F : Fp), k' ≤ k → (∀ b, F b ≤ 1) → Own K mg W H k d v F →
    ∃ F' : Fp, (∀ b, F' b ≤ F b) ∧ ∀ W' : Hp, Same W W' → (∀ a, F a ≠ 0 → F' a = 0 → W' a = H a) → Own K mg W' H k' d v F'
  | 0, k, d, v, F, _, _, h => ⟨fun _ => 0, fun _ => Nat.zero_le _, fun W' e f => ⟨Own.rep e k d v F h fun a ha => f a ha rfl, fun _ => rfl⟩⟩
  | k' + 1, 0, _, _, _, hk, _, _ => absurd hk (Nat.not_succ_le_zero _)
  | k' + 1, k + 1, d, v, F, hk, hF, h => by
    have key : ∀ (l : List D) (vs : List V) (G : Fp), (∀ b, G b ≤ 1) → OwnL (Own K mg W H k) l vs G → ∃ G' : Fp, (∀ b, G' b ≤ G b) ∧ ∀ W' : Hp, Same W W' → (∀ a, G a ≠ 0 → G' a = 0 → W' a = H a) → OwnL (Own K mg W' H k') l vs G' := by
      intro l
      induction l with
      | nil => exact fun vs G _ h => ⟨fun _ => 0, fun _ => Nat.zero_le _, fun W' _ _ => ⟨h.1, fun _ => rfl⟩⟩
      | cons d ds ih =>
        rintro vs G hG ⟨v1, r, F1, G1, p0, p1, p2, p3⟩
        obtain ⟨F2, q1, q2⟩ := Own.down k' k d v1 F1 (Nat.le_of_succ_le_succ hk) (fun b => by have := hG b; have := p3 b; omega) p1
        obtain ⟨G2, r1, r2⟩ := ih r G1 (fun b => by have := hG b; have := p3 b; omega) p2
        refine ⟨fun b => F2 b + G2 b, fun b => by have := q1 b; have := r1 b; have := p3 b; show F2 b + G2 b ≤ G b; omega, fun W' e f => ⟨v1, r, F2, G2, p0, q2 W' e fun a x y => ?_, r2 W' e fun a x y => ?_, fun _ => rfl⟩⟩
        · exact f a (by have := p3 a; omega) (by show F2 a + G2 a = 0; have := p3 a; have := hG a; have := r1 a; omega)
        · exact f a (by have := p3 a; omega) (by show F2 a + G2 a = 0; have := p3 a; have := hG a; have := q1 a; omega)
    cases d with
    | lst l =>
      obtain ⟨a, vs, G, e1, h1, h2, h3⟩ := h
      obtain ⟨G', g1, g2⟩ := key l vs G (fun b => by have := hF b; have := h3 b; omega) h2
      refine ⟨fun b => (if b = a then 1 else 0) + G' b, fun b => by have := g1 b; have := h3 b; show _ + G' b ≤ F b; omega, fun W' e f => ⟨a, vs, G', e1, h1, g2 W' e fun b x y => f b (by have := h3 b; omega) ?_, fun _ => rfl⟩⟩
      have z : b ≠ a := fun z => by have := hF b; have := h3 b; rw [if_pos z] at this; omega
      show (if b = a then 1 else 0) + G' b = 0
      rw [if_neg z]; omega
    | tup l =>
      obtain ⟨a, vs, G, e1, h1, h2, h3⟩ := h
      obtain ⟨G', g1, g2⟩ := key l vs G (fun b => by have := hF b; have := h3 b; omega) h2
      refine ⟨fun b => (if b = a then 1 else 0) + G' b, fun b => by have := g1 b; have := h3 b; show _ + G' b ≤ F b; omega, fun W' e f => ⟨a, vs, G', e1, h1, g2 W' e fun b x y => f b (by have := h3 b; omega) ?_, fun _ => rfl⟩⟩
      have z : b ≠ a := fun z => by have := hF b; have := h3 b; rw [if_pos z] at this; omega
      show (if b = a then 1 else 0) + G' b = 0
      rw [if_neg z]; omega
    | dct kv =>
      obtain ⟨a, vs, e1, h1, h2, h3⟩ := h
      exact ⟨F, fun _ => Nat.le_refl _, fun W' e f => ⟨a, vs, e1, h1, RepK.mono e kv vs h2, h3⟩⟩
    | non => exact ⟨F, fun _ => Nat.le_refl _, fun W' e f => ⟨Rep.mono e _ _ h.1, h.2⟩⟩
    | bl _ => exact ⟨F, fun _ => Nat.le_refl _, fun W' e f => ⟨Rep.mono e _ _ h.1, h.2⟩⟩
    | int _ => exact ⟨F, fun _ => Nat.le_refl _, fun W' e f => ⟨Rep.mono e _ _ h.1, h.2⟩⟩
    | str _ => exact ⟨F, fun _ => Nat.le_refl _, fun W' e f => ⟨Rep.mono e _ _ h.1, h.2⟩⟩
    | gl _ => exact ⟨F, fun _ => Nat.le_refl _, fun W' e f => ⟨Rep.mono e _ _ h.1, h.2⟩⟩

/-! ### the state of a frame -/
/-- a cell: how many levels are owned, the data -/
abbrev Cell := Nat × D
abbrev Env := List (Option Cell)
def CellR (K : PySem.W.Frag) (mg : Str → Option Value) (W H : Hp) : Option V → Option Cell → Fp → Prop
  | _, none, F => ∀ b, F b = 0
  | ov, some c, F => ∃ v, ov = some v ∧ Own K mg W H c.1 c.2 v F
def Cells (K : PySem.W.Frag) (mg : Str → Option Value) (W H : Hp) : List (Option V) → List (Option Cell) → Fp → Prop
  | [], [], T => ∀ b, T b = 0
  | v :: vs, c :: cs, T => ∃ F G, CellR K mg W H v c F ∧ Cells K mg W H vs cs G ∧ ∀ b, T b = F b + G b
  | _, _, _ => False
theorem CellR.mono (e : Same W W') {ov : Option V} {c : Option Cell} {F : Fp} (h : CellR K mg W H ov c F) (f : ∀ a, F a ≠ 0 → H' a = H a) : CellR K mg W' H' ov c F := by
  cases c with
  | none => exact h
  | some c =>
    obtain ⟨v, e1, h⟩ := h
    exact ⟨v, e1, Own.mono e _ _ _ _ h f⟩
theorem Cells.mono (e : Same W W') : ∀ {vs : List (Option V)} {cs : List (Option Cell)} {T : Fp}, Cells K mg W H vs cs T → (∀ a, T a ≠ 0 → H' a = H a) → Cells K mg W' H' vs cs T
  | [], [], _, h, _ => h
  | v :: vs, c :: cs, T, h, f => by
    obtain ⟨F, G, h1, h2, h3⟩ := h
    exact ⟨F, G, h1.mono e fun a ha => f a (by have := h3 a; omega), h2.mono e fun a ha => f a (by have := h3 a; omega), h3⟩
  | [], _ :: _, _, h, _ => h.elim
  | _ :: _, [], _, h, _ => h.elim
theorem Cells.length : ∀ {vs : List (Option V)} {cs : List (Option Cell)} {T : Fp}, Cells K mg W H vs cs T → vs.length = cs.length
  | [], [], _, _ => rfl
  | v :: vs, c :: cs, T, h => by
    obtain ⟨F, G, h1, h2, h3⟩ := h
    rw [List.length_cons, List.length_cons, h2.length]
  | [], _ :: _, _, h => h.elim
  | _ :: _, [], _, h => h.elim
theorem Cells.there : ∀ {vs : List (Option V)} {cs : List (Option Cell)} {T : Fp}, Cells K mg W H vs cs T → ∀ a, T a ≠ 0 → H a ≠ none
  | [], [], _, h, a, ha => (ha (h a)).elim
  | v :: vs, c :: cs, T, h, a, ha => by
    obtain ⟨F, G, h1, h2, h3⟩ := h
    by_cases z : F a = 0
    · exact h2.there a (by have := h3 a; omega)
    · cases c with
      | none => exact (z (h1 a)).elim
      | some c =>
        obtain ⟨v, e1, h⟩ := h1
        exact Own.there _ _ _ _ h a z
  | [], _ :: _, _, h, _, _ => h.elim
  | _ :: _, [], _, h, _, _ => h.elim
theorem set_self {α : Type} : ∀ {l : List α} {i : Nat} {x : α}, l[i]? = some x → l.set i x = l
  | [], _, _, h => by simp at h
  | a :: r, 0, x, h => by cases (show some a = some x from h); rfl
  | a :: r, i + 1, x, h => by rw [List.set_cons_succ, set_self (by simpa using h)]
/-- one cell looked at, and put back as another -/
theorem Cells.focus : ∀ {vs : List (Option V)} {cs : List (Option Cell)} {T : Fp} {i : Nat} {c : Option Cell}, Cells K mg W H vs cs T → cs[i]? = some c →
    ∃ (v : Option V) (F G : Fp), vs[i]? = some v ∧ CellR K mg W H v c F ∧ (∀ b, T b = F b + G b) ∧
      ∀ (W' H' : Hp) (v' : Option V) (c' : Option Cell) (F' : Fp), Same W W' → (∀ a, G a ≠ 0 → H' a = H a) → CellR K mg W' H' v' c' F' → Cells K mg W' H' (vs.set i v') (cs.set i c') (fun b => F' b + G b)
  | [], [], _, _, _, _, e => by simp at e
  | v :: vs, c :: cs, T, 0, x, h, e => by
    obtain ⟨F, G, h1, h2, h3⟩ := h
    cases (show some c = some x from e)
    exact ⟨v, F, G, rfl, h1, h3, fun W' H' v' c' F' s f hc => ⟨F', G, hc, h2.mono s f, fun _ => rfl⟩⟩
  | v :: vs, c :: cs, T, i + 1, x, h, e => by
    obtain ⟨F, G, h1, h2, h3⟩ := h
    obtain ⟨v0, F0, G0, e0, p1, p2, p3⟩ := Cells.focus (i := i) (c := x) h2 (by simpa using e)
    refine ⟨v0, F0, fun b => F b + G0 b, by simpa using e0, p1, fun b => by have := h3 b; have := p2 b; show T b = F0 b + (F b + G0 b); omega, fun W' H' v' c' F' s f hc => ⟨F, fun b => F' b + G0 b, h1.mono s fun a ha => f a (by show F a + G0 a ≠ 0; omega), p3 W' H' v' c' F' s (fun a ha => f a (by show F a + G0 a ≠ 0; omega)) hc, fun b => by show F' b + (F b + G0 b) = F b + (F' b + G0 b); omega⟩⟩
  | [], _ :: _, _, _, _, h, _ => h.elim
  | _ :: _, [], _, _, _, h, _ => h.elim

/-- W: frozen, data may lean on it; B: what else must not change; vs: the slots (temporary ones ahead), cs: what they stand for -/
structure R (K : PySem.W.Frag) (mg : Str → Option Value) (B W H : Hp) (vs : List (Option V)) (cs : List (Option Cell)) : Prop where
  sw : Same W H
  sb : Same B H
  ex : ∃ T : Fp, Cells K mg W H vs cs T ∧ ∀ b, T b ≤ 1 ∧ (T b ≠ 0 → W b = none ∧ B b = none)
/-- the frozen part grows, not by what is B's -/
structure Gr (B W W' : Hp) : Prop where
  sm : Same W W'
  nb : ∀ a, W a = none → W' a ≠ none → B a = none
theorem Gr.refl (B W : Hp) : Gr B W W := ⟨Same.refl W, fun a e n => (n e).elim⟩
theorem Gr.trans {W1 W2 W3 : Hp} (a : Gr B W1 W2) (b : Gr B W2 W3) : Gr B W1 W3 := ⟨a.sm.trans b.sm, fun c e n => by
  cases q : W2 c with
  | none => exact b.nb c q n
  | some o => exact a.nb c e (by rw [q]; simp)⟩
/-- W with what is owned by F -/
noncomputable def fz (W H : Hp) (F : Fp) : Hp := fun b => if F b = 0 then W b else H b
theorem fz_of {F : Fp} {b : Addr} (h : F b ≠ 0) : fz W H F b = H b := if_neg h
theorem fz_no {F : Fp} {b : Addr} (h : F b = 0) : fz W H F b = W b := if_pos h
theorem fz_same {F : Fp} (h : ∀ b, F b ≠ 0 → W b = none) : Same W (fz W H F) := fun b o e => by
  by_cases z : F b = 0
  · rw [fz_no z]; exact e
  · rw [h b z] at e; cases e
theorem fz_in {F : Fp} (sw : Same W H) : Same (fz W H F) H := fun b o e => by
  by_cases z : F b = 0
  · rw [fz_no z] at e; exact sw b o e
  · rw [fz_of z] at e; exact e

variable {vs : List (Option V)} {cs : List (Option Cell)}
theorem R.length (r : R K mg B W H vs cs) : vs.length = cs.length := let ⟨_, h, _⟩ := r.ex; h.length
/-- a cell to fewer levels -/
theorem R.down (r : R K mg B W H vs cs) {i k k' : Nat} {d : D} (e : cs[i]? = some (some (k, d))) (hk : k' ≤ k) : ∃ W', Gr B W W' ∧ R K mg B W' H vs (cs.set i (some (k', d))) := by
  obtain ⟨T, h, hT⟩ := r.ex
  obtain ⟨v, F, G, ev, ⟨u, eu, ho⟩, h3, put⟩ := h.focus e
  obtain ⟨F', g1, g2⟩ := Own.down k' k d u F hk (fun b => by have := (hT b).1; have := h3 b; omega) ho
  let M : Fp := fun b => if F' b = 0 then F b else 0
  have hM : ∀ b, M b ≠ 0 → F b ≠ 0 ∧ F' b = 0 := fun b hb => by
    by_cases z : F' b = 0
    · exact ⟨by have : M b = F b := if_pos z; omega, z⟩
    · exact (hb (if_neg z)).elim
  have s1 : Same W (fz W H M) := fz_same fun b hb => ((hT b).2 (by have := hM b hb; have := h3 b; omega)).1
  refine ⟨fz W H M, ⟨s1, fun a e1 n1 => ?_⟩, fz_in r.sw, r.sb, fun b => F' b + G b, ?_, fun b => ⟨by have := (hT b).1; have := h3 b; have := g1 b; show F' b + G b ≤ 1; omega, fun hb => ⟨?_, ((hT b).2 (by have := h3 b; have := g1 b; have : F' b + G b ≠ 0 := hb; omega)).2⟩⟩⟩
  · by_cases z : M a = 0
    · rw [fz_no z] at n1; exact (n1 e1).elim
    · exact ((hT a).2 (by have := hM a z; have := h3 a; omega)).2
  · have c := put (fz W H M) H (some u) (some (k', d)) F' s1 (fun _ _ => rfl) ⟨u, rfl, g2 _ s1 fun a ha hz => fz_of (by show (if F' a = 0 then F a else 0) ≠ 0; rw [if_pos hz]; exact ha)⟩
    rw [eu] at ev
    rwa [set_self ev] at c
  · have z : M b = 0 := by
      by_cases z : M b = 0
      · exact z
      · have := hM b z; have := h3 b; have := (hT b).1; have : F' b + G b ≠ 0 := hb; omega
    rw [fz_no z]
    exact ((hT b).2 (by have := h3 b; have := g1 b; have : F' b + G b ≠ 0 := hb; omega)).1
end
end Mn

namespace Mn
open PySem PySem.Spec PyProof.Rows L2

section
variable {K : PySem.W.Frag} {mg : Str → Option Value} {W W' H H' B : Hp} {vs : List (Option V)} {cs : List (Option Cell)} {v : V} {ov : Option V} {oc : Option Cell} {k : Nat} {d : D} {c : Cell}
theorem R.drop (r : R K mg B W H (ov :: vs) (oc :: cs)) : R K mg B W H vs cs := by
  obtain ⟨T, ⟨F, G, h1, h2, h3⟩, hT⟩ := r.ex
  exact ⟨r.sw, r.sb, G, h2, fun b => ⟨by have := (hT b).1; have := h3 b; omega, fun hb => (hT b).2 (by have := h3 b; omega)⟩⟩
theorem R.head0 (r : R K mg B W H (some v :: vs) (some (0, d) :: cs)) : Rep K mg W d v := by
  obtain ⟨T, ⟨F, G, ⟨u, e, h1⟩, h2, h3⟩, hT⟩ := r.ex
  cases e
  exact h1.1
theorem R.pop (r : R K mg B W H (some v :: vs) (some (k, d) :: cs)) : ∃ W', Gr B W W' ∧ R K mg B W' H vs cs ∧ Rep K mg W' d v := by
  obtain ⟨W', g, r'⟩ := r.down (i := 0) (k' := 0) rfl (Nat.zero_le _)
  exact ⟨W', g, R.drop r', R.head0 r'⟩
theorem R.push0 (r : R K mg B W H vs cs) (h : Rep K mg W d v) : R K mg B W H (some v :: vs) (some (0, d) :: cs) := by
  obtain ⟨T, h2, hT⟩ := r.ex
  exact ⟨r.sw, r.sb, T, ⟨fun _ => 0, T, ⟨v, rfl, h, fun _ => rfl⟩, h2, fun b => (Nat.zero_add _).symm⟩, hT⟩
theorem Rep.scalar (hs : d.sc = true) (h : Rep K mg H d v) : Rep K mg W d v := by cases d <;> first | (simp [D.sc] at hs; done) | exact h
theorem R.pushS (r : R K mg B W H vs cs) (hs : d.sc = true) (h : Rep K mg H d v) : R K mg B W H (some v :: vs) (some (k, d) :: cs) := by
  obtain ⟨T, h2, hT⟩ := r.ex
  have h' : Own K mg W H 0 d v fun _ => 0 := ⟨Rep.scalar hs h, fun _ => rfl⟩
  exact ⟨r.sw, r.sb, T, ⟨fun _ => 0, T, ⟨v, rfl, Own.scal hs h'⟩, h2, fun b => (Nat.zero_add _).symm⟩, hT⟩
/-- a cell read where it stands -/
theorem R.rep (r : R K mg B W H vs cs) {i : Nat} (e : cs[i]? = some (some c)) : ∃ v, vs[i]? = some (some v) ∧ Rep K mg H c.2 v := by
  obtain ⟨T, h, hT⟩ := r.ex
  obtain ⟨v, F, G, ev, ⟨u, eu, ho⟩, h3, put⟩ := h.focus e
  exact ⟨u, by rw [ev, eu], Own.rep r.sw _ _ _ _ ho fun _ _ => rfl⟩
theorem R.rep0 (r : R K mg B W H vs cs) {i : Nat} (e : cs[i]? = some (some (0, d))) : ∃ v, vs[i]? = some (some v) ∧ Rep K mg W d v := by
  obtain ⟨T, h, hT⟩ := r.ex
  obtain ⟨v, F, G, ev, ⟨u, eu, ho⟩, h3, put⟩ := h.focus e
  exact ⟨u, by rw [ev, eu], ho.1⟩
/-- the head is stored in a slot -/
theorem R.move (r : R K mg B W H (ov :: vs) (oc :: cs)) (i : Nat) : R K mg B W H (vs.set i ov) (cs.set i oc) := by
  obtain ⟨T, ⟨F, G, h1, h2, h3⟩, hT⟩ := r.ex
  by_cases hi : i < cs.length
  · obtain ⟨v, F0, G0, ev, _, p2, put⟩ := h2.focus (i := i) (c := cs[i]) (by simp [hi])
    refine ⟨r.sw, r.sb, _, put W H ov oc F (Same.refl W) (fun _ _ => rfl) h1, fun b => ⟨?_, fun hb => (hT b).2 ?_⟩⟩
    · have := (hT b).1; have := h3 b; have := p2 b; show F b + G0 b ≤ 1; omega
    · have := h3 b; have := p2 b; have : F b + G0 b ≠ 0 := hb; omega
  · have hl := h2.length
    rw [List.set_eq_of_length_le (by omega), List.set_eq_of_length_le (by omega)]
    exact R.drop r
/-- a slot is forgotten -/
theorem R.clear (r : R K mg B W H vs cs) (i : Nat) (ov : Option V) : R K mg B W H (vs.set i ov) (cs.set i none) := by
  obtain ⟨T, h2, hT⟩ := r.ex
  exact R.move (oc := none) ⟨r.sw, r.sb, T, ⟨fun _ => 0, T, fun _ => rfl, h2, fun b => (Nat.zero_add _).symm⟩, hT⟩ i
/-- a new object elsewhere -/
theorem R.alloc (r : R K mg B W H vs cs) {p : Addr} {o : HO} (np : H p = none) : R K mg B W (upd H p o) vs cs := by
  obtain ⟨T, h, hT⟩ := r.ex
  have ne : ∀ {b u}, H b = some u → b ≠ p := fun e => ne_of_none e np
  refine ⟨fun b u e => by rw [upd_ne (ne (r.sw b u e))]; exact r.sw b u e, fun b u e => by rw [upd_ne (ne (r.sb b u e))]; exact r.sb b u e, T, h.mono (Same.refl W) fun a ha => ?_, hT⟩
  exact upd_ne fun z => h.there a ha (z ▸ np)
/-- values that are held beside the state, k levels of each owned -/
structure RL (K : PySem.W.Frag) (mg : Str → Option Value) (B W H : Hp) (k : Nat) (ds : List D) (xs : List V) (vs : List (Option V)) (cs : List (Option Cell)) : Prop where
  sw : Same W H
  sb : Same B H
  ex : ∃ T G : Fp, Cells K mg W H vs cs T ∧ OwnL (Own K mg W H k) ds xs G ∧ ∀ b, T b + G b ≤ 1 ∧ (T b + G b ≠ 0 → W b = none ∧ B b = none)
theorem RL.nil (r : R K mg B W H vs cs) : RL K mg B W H k [] [] vs cs := by
  obtain ⟨T, h, hT⟩ := r.ex
  exact ⟨r.sw, r.sb, T, fun _ => 0, h, ⟨rfl, fun _ => rfl⟩, hT⟩
theorem RL.cons {ds : List D} {xs : List V} (r : RL K mg B W H k ds xs (some v :: vs) (some (k, d) :: cs)) : RL K mg B W H k (d :: ds) (v :: xs) vs cs := by
  obtain ⟨T, G, ⟨F, T', ⟨u, e, h1⟩, h2, h3⟩, h4, hT⟩ := r.ex
  cases e
  refine ⟨r.sw, r.sb, T', fun b => F b + G b, h2, ⟨v, xs, F, G, rfl, h1, h4, fun _ => rfl⟩, fun b => ⟨?_, fun hb => (hT b).2 ?_⟩⟩
  · have := (hT b).1; have := h3 b; show T' b + (F b + G b) ≤ 1; omega
  · have := h3 b; have : T' b + (F b + G b) ≠ 0 := hb; omega
theorem RL.r {ds : List D} {xs : List V} (r : RL K mg B W H k ds xs vs cs) : R K mg B W H vs cs := by
  obtain ⟨T, G, h2, h4, hT⟩ := r.ex
  exact ⟨r.sw, r.sb, T, h2, fun b => ⟨by have := (hT b).1; omega, fun hb => (hT b).2 (by omega)⟩⟩
theorem RL.rep0 {ds : List D} {xs : List V} (r : RL K mg B W H 0 ds xs vs cs) : RepL K mg W ds xs := by
  obtain ⟨T, G, h2, h4, hT⟩ := r.ex
  exact h4.toRep fun d _ v F _ h => h.1
theorem RL.of0 {ds : List D} {xs : List V} (r : R K mg B W H vs cs) (h : RepL K mg W ds xs) : RL K mg B W H 0 ds xs vs cs := by
  obtain ⟨T, h2, hT⟩ := r.ex
  refine ⟨r.sw, r.sb, T, fun _ => 0, h2, ?_, hT⟩
  clear hT h2
  induction ds generalizing xs with
  | nil => exact ⟨h, fun _ => rfl⟩
  | cons d ds ih =>
    obtain ⟨v, r', rfl, h1, h2⟩ := h
    exact ⟨v, r', fun _ => 0, fun _ => 0, rfl, ⟨h1, fun _ => rfl⟩, ih h2, fun _ => rfl⟩
/-- a new list of them, a new tuple -/
theorem RL.lst {ds : List D} {xs : List V} (r : RL K mg B W H k ds xs vs cs) {p : Addr} (np : H p = none) : R K mg B W (upd H p (.lst xs)) (some (.ref p) :: vs) (some (k + 1, .lst ds) :: cs) := by
  obtain ⟨T, G, h2, h4, hT⟩ := r.ex
  have r' := (RL.r r).alloc (o := .lst xs) np
  have there : ∀ a, G a ≠ 0 → H a ≠ none := by
    intro a ha
    have hc : Own K mg W (upd H p (.lst xs)) (k + 1) (.lst ds) (.ref p) (fun b => (if b = p then 1 else 0) + G b) → True := fun _ => trivial
    clear hc r r' hT h2
    induction ds generalizing xs G with
    | nil => exact (ha (h4.2 a)).elim
    | cons d ds ih =>
      obtain ⟨v1, r1, F1, G1, _, p1, p2, p3⟩ := h4
      by_cases z : F1 a = 0
      · exact ih G1 p2 (by have := p3 a; omega)
      · exact Own.there _ _ _ _ p1 a z
  have gp : G p = 0 := by
    by_cases z : G p = 0
    · exact z
    · exact (there p z np).elim
  have tp : T p = 0 := by
    by_cases z : T p = 0
    · exact z
    · exact (h2.there p z np).elim
  refine ⟨r'.sw, r'.sb, fun b => ((if b = p then 1 else 0) + G b) + T b, ⟨_, T, ⟨.ref p, rfl, p, xs, G, rfl, upd_same, h4.imp fun d _ v F hF hO => Own.mono (Same.refl W) k d v F hO fun a ha => upd_ne fun z => by subst z; have := hF a; omega, fun _ => rfl⟩, h2.mono (Same.refl W) fun a ha => upd_ne fun z => by subst z; omega, fun _ => rfl⟩, fun b => ?_⟩
  by_cases hb : b = p
  · subst hb
    refine ⟨by show (if b = b then 1 else 0) + G b + T b ≤ 1; rw [if_pos rfl]; omega, fun _ => ⟨?_, ?_⟩⟩
    · cases q : W b with
      | none => rfl
      | some o => have := r.sw b o q; rw [np] at this; cases this
    · cases q : B b with
      | none => rfl
      | some o => have := r.sb b o q; rw [np] at this; cases this
  · refine ⟨by show (if b = p then 1 else 0) + G b + T b ≤ 1; rw [if_neg hb]; have := (hT b).1; omega, fun h => (hT b).2 ?_⟩
    have : (if b = p then 1 else 0) + G b + T b ≠ 0 := h
    rw [if_neg hb] at this; omega
theorem RL.tup {ds : List D} {xs : List V} (r : RL K mg B W H k ds xs vs cs) {p : Addr} (np : H p = none) : R K mg B W (upd H p (.tup xs)) (some (.ref p) :: vs) (some (k + 1, .tup ds) :: cs) := by
  obtain ⟨T, G, h2, h4, hT⟩ := r.ex
  have r' := (RL.r r).alloc (o := .tup xs) np
  have there : ∀ a, G a ≠ 0 → H a ≠ none := by
    intro a ha
    clear r r' hT h2
    induction ds generalizing xs G with
    | nil => exact (ha (h4.2 a)).elim
    | cons d ds ih =>
      obtain ⟨v1, r1, F1, G1, _, p1, p2, p3⟩ := h4
      by_cases z : F1 a = 0
      · exact ih G1 p2 (by have := p3 a; omega)
      · exact Own.there _ _ _ _ p1 a z
  have gp : G p = 0 := by
    by_cases z : G p = 0
    · exact z
    · exact (there p z np).elim
  have tp : T p = 0 := by
    by_cases z : T p = 0
    · exact z
    · exact (h2.there p z np).elim
  refine ⟨r'.sw, r'.sb, fun b => ((if b = p then 1 else 0) + G b) + T b, ⟨_, T, ⟨.ref p, rfl, p, xs, G, rfl, upd_same, h4.imp fun d _ v F hF hO => Own.mono (Same.refl W) k d v F hO fun a ha => upd_ne fun z => by subst z; have := hF a; omega, fun _ => rfl⟩, h2.mono (Same.refl W) fun a ha => upd_ne fun z => by subst z; omega, fun _ => rfl⟩, fun b => ?_⟩
  by_cases hb : b = p
  · subst hb
    refine ⟨by show (if b = b then 1 else 0) + G b + T b ≤ 1; rw [if_pos rfl]; omega, fun _ => ⟨?_, ?_⟩⟩
    · cases q : W b with
      | none => rfl
      | some o => have := r.sw b o q; rw [np] at this; cases this
    · cases q : B b with
      | none => rfl
      | some o => have := r.sb b o q; rw [np] at this; cases this
  · refine ⟨by show (if b = p then 1 else 0) + G b + T b ≤ 1; rw [if_neg hb]; have := (hT b).1; omega, fun h => (hT b).2 ?_⟩
    have : (if b = p then 1 else 0) + G b + T b ≠ 0 := h
    rw [if_neg hb] at this; omega
end
end Mn

namespace Mn
open PySem PySem.Spec PyProof.Rows L2

/-- the abstract heap has what the environment says; ts: values held beside it -/
def Sta (X : Cx) (σ : L2.St) (H : Hp) (ρ : Env) : Prop := ∃ (B W : Hp) (ts : List (Option V)) (tc : List (Option Cell)), R X.K X.mg B W H (ts ++ σ) (tc ++ ρ) ∧ ts.length = tc.length
/-- a pure expression: it changes nothing; its value may be read at once -/
def pS (X : Cx) (f : Env → Option D) : TE := fun σ H Q => ∃ ρ d, Sta X σ H ρ ∧ f ρ = some d ∧ ∀ v, Rep X.K X.mg H d v → Q v H
def pA (X : Cx) (f : Env → Option (List D)) : TA := fun σ H Q => ∃ ρ ds, Sta X σ H ρ ∧ f ρ = some ds ∧ ∀ vs, RepL X.K X.mg H ds vs → Q vs H
def pT (X : Cx) (f : Env → Option Bool) : TT := fun σ H Q => ∃ ρ b, Sta X σ H ρ ∧ f ρ = some b ∧ Q b H
/-- an expression: what it hands back may be owned -/
def gS (X : Cx) (m : Env → Option (Cell × Env)) : TE := fun σ H Q => ∃ (B W : Hp) (ts : List (Option V)) (tc : List (Option Cell)) (ρ : Env) (c : Cell) (ρ' : Env), R X.K X.mg B W H (ts ++ σ) (tc ++ ρ) ∧ ts.length = tc.length ∧ m ρ = some (c, ρ') ∧
  ∀ W' H' v, Gr B W W' → R X.K X.mg B W' H' (some v :: (ts ++ σ)) (some c :: (tc ++ ρ')) → Q v H'
def gT (X : Cx) (m : Env → Option (Bool × Env)) : TT := fun σ H Q => ∃ (B W : Hp) (ts : List (Option V)) (tc : List (Option Cell)) (ρ : Env) (c : Bool) (ρ' : Env), R X.K X.mg B W H (ts ++ σ) (tc ++ ρ) ∧ ts.length = tc.length ∧ m ρ = some (c, ρ') ∧
  ∀ W' H', Gr B W W' → R X.K X.mg B W' H' (ts ++ σ) (tc ++ ρ') → Q c H'
/-- several, k levels of each owned -/
def gA (X : Cx) (k : Nat) (m : Env → Option (List D × Env)) : TA := fun σ H Q => ∃ (B W : Hp) (ts : List (Option V)) (tc : List (Option Cell)) (ρ : Env) (ds : List D) (ρ' : Env), R X.K X.mg B W H (ts ++ σ) (tc ++ ρ) ∧ ts.length = tc.length ∧ m ρ = some (ds, ρ') ∧
  ∀ W' H' vs, Gr B W W' → RL X.K X.mg B W' H' k ds vs (ts ++ σ) (tc ++ ρ') → Q vs H'

theorem PEi {X : Cx} {e : Expr} {t t' : TE} (h : PE X e t) (i : ∀ σ H Q, t' σ H Q → t σ H Q) : PE X e t' := ⟨fun pins s σ H Q I q => h.run pins s σ H Q I (i σ H Q q)⟩
theorem PTi {X : Cx} {e : Expr} {t t' : TT} (h : PT X e t) (i : ∀ σ H Q, t' σ H Q → t σ H Q) : PT X e t' := ⟨fun pins s σ H Q I q => h.run pins s σ H Q I (i σ H Q q)⟩
theorem PWi {X : Cx} {e : Expr} {t t' : TT} (h : PW X e t) (i : ∀ σ H Q, t' σ H Q → t σ H Q) : PW X e t' := ⟨fun wh pins s σ H Q I q => h.run wh pins s σ H Q I (i σ H Q q)⟩
theorem PAi {X : Cx} {e : List Expr} {t t' : TA} (h : PA X e t) (i : ∀ σ H Q, t' σ H Q → t σ H Q) : PA X e t' := ⟨fun pos pins s σ H Q I q => h.run pos pins s σ H Q I (i σ H Q q)⟩
theorem PSi {X : Cx} {e : Stmt} {t t' : TS} (h : PS X e t) (i : ∀ D σ H, t' D σ H → t D σ H) : PS X e t' := ⟨fun pins s σ H D I q => h.run pins s σ H D I (i D σ H q)⟩
theorem PSsi {X : Cx} {e : List Stmt} {t t' : TS} (h : PSs X e t) (i : ∀ D σ H, t' D σ H → t D σ H) : PSs X e t' := ⟨fun pins s σ H D I q => h.run pins s σ H D I (i D σ H q)⟩

section
variable {X : Cx} {a b c e : Expr} {es : List Expr} {f g h : Env → Option D} {p q : Env → Option Bool} {fs : Env → Option (List D)} {pos : Pos} {σ : L2.St} {H : Hp} {ρ : Env}
/-! ### names and constants -/
def pVar (i : Nat) : Env → Option D := fun ρ => match ρ[i]? with
  | some (some c) => some c.2
  | _ => none
theorem Sta.var (s : Sta X σ H ρ) {i : Nat} {d : D} (e : pVar i ρ = some d) : ∃ v, σ[i]? = some (some v) ∧ Rep X.K X.mg H d v := by
  obtain ⟨B, W, ts, tc, r, hl⟩ := s
  unfold pVar at e
  split at e
  · rename_i c ec
    cases e
    obtain ⟨v, ev, h⟩ := r.rep (i := tc.length + i) (c := c) (by rw [List.getElem?_append_right (Nat.le_add_right _ _), Nat.add_sub_cancel_left]; exact ec)
    rw [← hl, List.getElem?_append_right (Nat.le_add_right _ _), Nat.add_sub_cancel_left] at ev
    exact ⟨v, ev, h⟩
  · cases e
theorem p_var {i : Nat} (h : PE X a (tVar i)) : PE X a (pS X (pVar i)) := PEi h fun σ H Q ⟨ρ, d, s, e, q⟩ => by
  obtain ⟨v, ev, r⟩ := s.var e
  exact ⟨v, ev, q v r⟩
def pC (d : D) : Env → Option D := fun _ => some d
theorem p_int {i j pos} : PE X (.Constant (.int i) j pos) (pS X (pC (.int i))) := PEi pe_int fun σ H Q ⟨ρ, d, s, e, q⟩ => by cases e; exact q _ rfl
theorem p_bl {i j pos} : PE X (.Constant (.bool i) j pos) (pS X (pC (.bl i))) := PEi pe_bl fun σ H Q ⟨ρ, d, s, e, q⟩ => by cases e; exact q _ rfl
theorem p_non {j pos} : PE X (.Constant .none j pos) (pS X (pC .non)) := PEi pe_non fun σ H Q ⟨ρ, d, s, e, q⟩ => by cases e; exact q _ rfl
theorem p_str {i j pos} : PE X (.Constant (.str i) j pos) (pS X (pC (.str i))) := PEi pe_str fun σ H Q ⟨ρ, d, s, e, q⟩ => by cases e; exact q _ rfl
/-- a global name as a value -/
theorem p_gl {x : Str} {u : Value} {v : V} (hg : Gl X x) (hm : X.mg x = some u) (r : RelV v u) (hd : (x == ("__debug__" : Str)) = false := by decide) : PE X (.Name x pos) (pS X (pC (.gl x))) :=
  PEi (pe_glob hg hm r hd) fun σ H Q ⟨ρ, d, s, e, q⟩ => by cases e; exact q _ ⟨u, hm, r⟩
/-! ### operators on values -/
def pBin (o : D → D → Option D) (f g : Env → Option D) : Env → Option D := fun ρ => (f ρ).bind fun x => (g ρ).bind fun y => o x y
def pUn (o : D → Option D) (f : Env → Option D) : Env → Option D := fun ρ => (f ρ).bind o
/-- an operator's rule, by data -/
def Op2 (X : Cx) (o : D → D → Option D) (r : R2) : Prop := ∀ (H : Hp) (x y z : D) (u v : V) (Q : VK), o x y = some z → Rep X.K X.mg H x u → Rep X.K X.mg H y v → (∀ w, Rep X.K X.mg H z w → Q w H) → r u v H Q
def Op1 (X : Cx) (o : D → Option D) (r : V → Hp → VK → Prop) : Prop := ∀ (H : Hp) (x z : D) (u : V) (Q : VK), o x = some z → Rep X.K X.mg H x u → (∀ w, Rep X.K X.mg H z w → Q w H) → r u H Q
theorem pBin_some {o : D → D → Option D} {z : D} (h : pBin o f g ρ = some z) : ∃ x y, f ρ = some x ∧ g ρ = some y ∧ o x y = some z := by
  unfold pBin at h
  cases ex : f ρ with
  | none => rw [ex] at h; cases h
  | some x =>
    cases ey : g ρ with
    | none => rw [ex, ey] at h; cases h
    | some y => rw [ex, ey] at h; exact ⟨x, y, rfl, rfl, h⟩
theorem pUn_some {o : D → Option D} {z : D} (h : pUn o f ρ = some z) : ∃ x, f ρ = some x ∧ o x = some z := by
  unfold pUn at h
  cases ex : f ρ with
  | none => rw [ex] at h; cases h
  | some x => rw [ex] at h; exact ⟨x, rfl, h⟩
theorem op_imp {o : D → D → Option D} {r : R2} (w : Op2 X o r) {σ : L2.St} {H : Hp} {Q : VK} (h : pS X (pBin o f g) σ H Q) : tOp r (pS X f) (pS X g) σ H Q := by
  obtain ⟨ρ, d, s, e, q⟩ := h
  obtain ⟨x, y, ex, ey, ez⟩ := pBin_some e
  exact ⟨ρ, x, s, ex, fun u hu => ⟨ρ, y, s, ey, fun v hv => w H x y d u v Q ez hu hv q⟩⟩
theorem p_op {op : Operator} {o : D → D → Option D} {r : R2} (ho : OpR X (binaryOp op) r) (w : Op2 X o r) (ha : PE X a (pS X f)) (hb : PE X b (pS X g)) : PE X (.BinOp a op b pos) (pS X (pBin o f g)) :=
  PEi (pe_op ho ha hb) fun σ H Q h => op_imp w h
theorem p_un {op : UnaryOp} {o : D → Option D} {r : V → Hp → VK → Prop} (ho : UnR X (unaryOp op) r) (w : Op1 X o r) (ha : PE X a (pS X f)) : PE X (.UnaryOp op a pos) (pS X (pUn o f)) :=
  PEi (pe_un ho ha) fun σ H Q ⟨ρ, d, s, e, q⟩ => by
    obtain ⟨x, ex, ez⟩ := pUn_some e
    exact ⟨ρ, x, s, ex, fun u hu => w H x d u Q ez hu q⟩
theorem p_cmp {op : CmpOp} {o : D → D → Option D} {r : R2} (ho : OpR X (compareOp op) r) (w : Op2 X o r) (ha : PE X a (pS X f)) (hb : PE X b (pS X g)) (hm : behindInMarks op b = false) : PE X (.Compare a [op] [b] pos) (pS X (pBin o f g)) :=
  PEi (pe_cmpR ho ha hb hm) fun σ H Q h => op_imp w h
theorem p_ix {r : R2} {o : D → D → Option D} (ho : IxR X r) (w : Op2 X o r) (ha : PE X a (pS X f)) (hb : PE X b (pS X g)) (hs : PlainIx b) : PE X (.Subscript a b pos) (pS X (pBin o f g)) :=
  PEi (pe_ix ho ha hb hs) fun σ H Q h => op_imp w h
/-! ### ints -/
def dInt2 (C : Int → Int → Bool) (g : Int → Int → Int) : D → D → Option D
  | .int i, .int j => if C i j then some (.int (g i j)) else none
  | _, _ => none
def dCmp2 (g : Int → Int → Bool) : D → D → Option D
  | .int i, .int j => some (.bl (g i j))
  | _, _ => none
def dInt1 (g : Int → Int) : D → Option D
  | .int i => some (.int (g i))
  | _ => none
theorem w_int2 {C : Int → Int → Bool} {P : Int → Int → Prop} {g : Int → Int → Int} (hC : ∀ i j, C i j = true → P i j) : Op2 X (dInt2 C g) (rI P fun i j => .int (g i j)) := fun H x y z u v Q e hu hv q => by
  cases x <;> cases y <;> first | (cases e; done) | skip
  rename_i i j
  simp only [dInt2] at e
  split at e
  · cases e
    exact ⟨i, j, hu, hv, hC i j (by assumption), q _ rfl⟩
  · cases e
theorem w_int20 {g : Int → Int → Int} : Op2 X (dInt2 (fun _ _ => true) g) (rI0 fun i j => .int (g i j)) := fun H x y z u v Q e hu hv q => by
  cases x <;> cases y <;> first | (cases e; done) | skip
  rename_i i j
  cases e
  exact ⟨i, j, hu, hv, q _ rfl⟩
theorem w_cmp2 {g : Int → Int → Bool} : Op2 X (dCmp2 g) (rI0 fun i j => .bl (g i j)) := fun H x y z u v Q e hu hv q => by
  cases x <;> cases y <;> first | (cases e; done) | skip
  rename_i i j
  cases e
  exact ⟨i, j, hu, hv, q _ rfl⟩
theorem w_int1 {g : Int → Int} : Op1 X (dInt1 g) (rU fun i => .int (g i)) := fun H x z u Q e hu q => by
  cases x <;> first | (cases e; done) | skip
  cases e
  exact ⟨_, hu, q _ rfl⟩
abbrev dAdd := dInt2 (fun _ _ => true) fun i j => i + j
abbrev dSub := dInt2 (fun _ _ => true) fun i j => i - j
def okMul (i j : Int) : Bool := decide (i.natAbs.log2 + j.natAbs.log2 < 1000000)
abbrev dMul := dInt2 okMul fun i j => i * j
abbrev dMod := dInt2 (fun _ j => decide (0 < j)) fun i j => i % j
def okDiv (j : Int) : Bool := decide (j ≠ 0) && decide (j.natAbs.log2 < 9000)
/-- floor division -/
def fd (i j : Int) : Int := if 0 < j then i / j else i.fdiv j
theorem fd_pos {i j : Int} (h : 0 < j) : fd i j = i / j := if_pos h
theorem fd_eq (i j : Int) : fd i j = i.fdiv j := by
  unfold fd
  split
  · rw [Int.fdiv_eq_ediv_of_nonneg i (by omega)]
  · rfl
abbrev dDiv := dInt2 (fun _ j => okDiv j) fd
def okPow (i j : Int) : Bool := decide (0 ≤ j) && decide (j ≤ 1000000) && decide (((i.natAbs.log2 : Nat) + 1 : Int) * j ≤ 2 ^ 27)
abbrev dPow := dInt2 okPow fun i j => i ^ j.toNat
def okShl (i j : Int) : Bool := decide (0 ≤ j) && decide (((i.natAbs.log2 : Nat) + 1 : Int) + j ≤ 2 ^ 27)
abbrev dShl := dInt2 okShl fun i j => i * 2 ^ j.toNat
abbrev dShr := dInt2 (fun _ j => decide (0 ≤ j)) fun i j => i / 2 ^ j.toNat
abbrev dNeg := dInt1 fun i => -i
abbrev dLt := dCmp2 fun i j => decide (i < j)
abbrev dLe := dCmp2 fun i j => decide (i ≤ j)
abbrev dGt := dCmp2 fun i j => decide (j < i)
abbrev dGe := dCmp2 fun i j => decide (j ≤ i)
theorem p_add (ha : PE X a (pS X f)) (hb : PE X b (pS X g)) : PE X (.BinOp a .Add b pos) (pS X (pBin dAdd f g)) := p_op op_add w_int20 ha hb
theorem p_sub (ha : PE X a (pS X f)) (hb : PE X b (pS X g)) : PE X (.BinOp a .Sub b pos) (pS X (pBin dSub f g)) := p_op op_sub w_int20 ha hb
theorem p_mul (ha : PE X a (pS X f)) (hb : PE X b (pS X g)) : PE X (.BinOp a .Mult b pos) (pS X (pBin dMul f g)) := p_op op_mulW (w_int2 fun i j h => of_decide_eq_true (p := i.natAbs.log2 + j.natAbs.log2 < 1000000) h) ha hb
theorem p_mod (ha : PE X a (pS X f)) (hb : PE X b (pS X g)) : PE X (.BinOp a .Mod b pos) (pS X (pBin dMod f g)) := p_op op_mod (w_int2 fun i j h => of_decide_eq_true h) ha hb
theorem op_fdivNW : OpR X (binaryOp .FloorDiv) (rI (fun _ j => j ≠ 0 ∧ j.natAbs.log2 < 9000) fun i j => .int (fd i j)) := opI fun i j _ _ _ _ _ hc q => floordiv_int hc.1 (by rw [← fd_eq]; exact q) (.inl (PyProof.noPylong_of_log2 hc.2))
theorem p_div (ha : PE X a (pS X f)) (hb : PE X b (pS X g)) : PE X (.BinOp a .FloorDiv b pos) (pS X (pBin dDiv f g)) := p_op op_fdivNW (w_int2 fun i j h => by
  unfold okDiv at h
  rw [Bool.and_eq_true] at h
  exact ⟨of_decide_eq_true h.1, of_decide_eq_true h.2⟩) ha hb
theorem okPow_of {i j : Int} (h : okPow i j = true) : 0 ≤ j ∧ (Builtin.Int.intBits i : Int) * j ≤ 2 ^ 27 := by
  unfold okPow at h
  rw [Bool.and_eq_true, Bool.and_eq_true] at h
  have h1 := of_decide_eq_true h.1.1
  have h3 := of_decide_eq_true h.2
  refine ⟨h1, Int.le_trans (Int.mul_le_mul_of_nonneg_right ?_ h1) h3⟩
  have b : Builtin.Int.intBits i ≤ i.natAbs.log2 + 1 := by
    unfold Builtin.Int.intBits
    split <;> omega
  omega
theorem op_powW : OpR X (binaryOp .Pow) (rI (fun i j => okPow i j = true) fun i j => .int (i ^ j.toNat)) := opI fun _ _ _ _ _ _ _ hc q => pow_int (okPow_of hc).1 (okPow_of hc).2 q
theorem p_pow (ha : PE X a (pS X f)) (hb : PE X b (pS X g)) : PE X (.BinOp a .Pow b pos) (pS X (pBin dPow f g)) := p_op op_powW (w_int2 fun i j h => h) ha hb
theorem okShl_of {i j : Int} (h : okShl i j = true) : CShl i j := by
  unfold okShl at h
  rw [Bool.and_eq_true] at h
  have h1 := of_decide_eq_true h.1
  have h3 := of_decide_eq_true h.2
  have b : Builtin.Int.intBits i ≤ i.natAbs.log2 + 1 := by
    unfold Builtin.Int.intBits
    split <;> omega
  exact ⟨h1, by omega⟩
theorem p_shl (ha : PE X a (pS X f)) (hb : PE X b (pS X g)) : PE X (.BinOp a .LShift b pos) (pS X (pBin dShl f g)) := p_op op_shlW (w_int2 fun i j h => okShl_of h) ha hb
theorem p_shr (ha : PE X a (pS X f)) (hb : PE X b (pS X g)) : PE X (.BinOp a .RShift b pos) (pS X (pBin dShr f g)) := p_op op_shr (w_int2 fun i j h => of_decide_eq_true h) ha hb
theorem p_neg (ha : PE X a (pS X f)) : PE X (.UnaryOp .USub a pos) (pS X (pUn dNeg f)) := p_un un_neg w_int1 ha
theorem p_lt (ha : PE X a (pS X f)) (hb : PE X b (pS X g)) : PE X (.Compare a [.Lt] [b] pos) (pS X (pBin dLt f g)) := p_cmp op_lt w_cmp2 ha hb (nomark _)
theorem p_le (ha : PE X a (pS X f)) (hb : PE X b (pS X g)) : PE X (.Compare a [.LtE] [b] pos) (pS X (pBin dLe f g)) := p_cmp op_le w_cmp2 ha hb (nomark _)
theorem p_gt (ha : PE X a (pS X f)) (hb : PE X b (pS X g)) : PE X (.Compare a [.Gt] [b] pos) (pS X (pBin dGt f g)) := p_cmp op_gt w_cmp2 ha hb (nomark _)
theorem p_ge (ha : PE X a (pS X f)) (hb : PE X b (pS X g)) : PE X (.Compare a [.GtE] [b] pos) (pS X (pBin dGe f g)) := p_cmp op_ge w_cmp2 ha hb (nomark _)
end
end Mn

namespace Mn
open PySem PySem.Spec PyProof.Rows L2

mutual
/-- as the library's data, where it has no dict and no global -/
def toP : D → Option PyData
  | .non => some .none
  | .bl b => some (.bool b)
  | .int i => some (.int i)
  | .str x => some (.str x)
  | .lst l => match toPL l with | some ps => some (.list ps) | none => none
  | .tup l => match toPL l with | some ps => some (.tuple ps) | none => none
  | .dct _ => none
  | .gl _ => none
def toPL : List D → Option (List PyData)
  | [] => some []
  | d :: ds => match toP d with
    | some p => match toPL ds with | some ps => some (p :: ps) | none => none
    | none => none
end
section
variable {K : PySem.W.Frag} {mg : Str → Option Value} {H : Hp}
mutual
theorem Rep.dp : ∀ (d : D) (v : V) (p : PyData), Rep K mg H d v → toP d = some p → Dp K H v p
  | .non, _, _, h, e => by cases e; cases (show _ = V.non from h); exact .non
  | .bl b, _, _, h, e => by cases e; cases (show _ = V.bl b from h); exact .bl b
  | .int i, _, _, h, e => by cases e; cases (show _ = V.int i from h); exact .int i
  | .str x, _, _, h, e => by cases e; cases (show _ = V.str x from h); exact .str x
  | .lst l, _, _, h, e => by
    obtain ⟨a, vs, rfl, h1, h2⟩ := h
    simp only [toP] at e
    split at e
    · rename_i ps ep
      cases e
      exact .lst h1.sq (RepL.dp l vs ps h2 ep)
    · cases e
  | .tup l, _, _, h, e => by
    obtain ⟨a, vs, rfl, h1, h2⟩ := h
    simp only [toP] at e
    split at e
    · rename_i ps ep
      cases e
      exact .tup h1 (RepL.dp l vs ps h2 ep)
    · cases e
  | .dct _, _, _, _, e => by cases e
  | .gl _, _, _, _, e => by cases e
theorem RepL.dp : ∀ (l : List D) (vs : List V) (ps : List PyData), RepL K mg H l vs → toPL l = some ps → DpAll K H vs ps
  | [], _, _, h, e => by cases e; cases (show _ = [] from h); exact .nil
  | d :: ds, _, _, h, e => by
    obtain ⟨v, r, rfl, h1, h2⟩ := h
    simp only [toPL] at e
    split at e
    · rename_i p ep
      split at e
      · rename_i ps eps
        cases e
        exact .cons (Rep.dp d v p h1 ep) (RepL.dp ds r ps h2 eps)
      · cases e
    · cases e
end
end
/-- == -/
def dEq : D → D → Option D := fun x y => match toP x, toP y with
  | some p, some q => if SeqAt.shaped p && SeqAt.shaped q then some (.bl (PyData.eqv p q)) else none
  | _, _ => none
def dNe : D → D → Option D := fun x y => match toP x, toP y with
  | some p, some q => if SeqAt.shaped p && SeqAt.shaped q then some (.bl (!PyData.eqv p q)) else none
  | _, _ => none
def dIn : D → D → Option D := fun x y => match toP x, toP y with
  | some p, some (.list q) => if SeqAt.shaped p && SeqAt.shaped (.list q) then some (.bl (q.any fun z => PyData.eqv z p)) else none
  | _, _ => none
def dNotIn : D → D → Option D := fun x y => match toP x, toP y with
  | some p, some (.list q) => if SeqAt.shaped p && SeqAt.shaped (.list q) then some (.bl (!q.any fun z => PyData.eqv z p)) else none
  | _, _ => none
section
variable {X : Cx} {a b c e : Expr} {es : List Expr} {f g h : Env → Option D} {p q : Env → Option Bool} {fs : Env → Option (List D)} {pos : Pos} {σ : L2.St} {H : Hp} {ρ : Env} {rest : List Expr}
theorem w_eq : Op2 X dEq (rEqD X.K) := fun H x y z u v Q e hu hv q => by
  unfold dEq at e
  split at e
  · rename_i px py ex ey
    split at e
    · rename_i hs
      rw [Bool.and_eq_true] at hs
      cases e
      exact ⟨px, py, Rep.dp x u px hu ex, Rep.dp y v py hv ey, hs.1, hs.2, q _ rfl⟩
    · cases e
  · cases e
theorem w_ne : Op2 X dNe (rNeD X.K) := fun H x y z u v Q e hu hv q => by
  unfold dNe at e
  split at e
  · rename_i px py ex ey
    split at e
    · rename_i hs
      rw [Bool.and_eq_true] at hs
      cases e
      exact ⟨px, py, Rep.dp x u px hu ex, Rep.dp y v py hv ey, hs.1, hs.2, q _ rfl⟩
    · cases e
  · cases e
theorem w_in : Op2 X dIn (rInD X.K) := fun H x y z u v Q e hu hv q => by
  unfold dIn at e
  split at e
  · rename_i px py ex ey
    split at e
    · rename_i hs
      rw [Bool.and_eq_true] at hs
      cases e
      exact ⟨px, py, Rep.dp x u px hu ex, Rep.dp y v _ hv ey, hs.1, hs.2, q _ rfl⟩
    · cases e
  · cases e
theorem w_notIn : Op2 X dNotIn (rNotInD X.K) := fun H x y z u v Q e hu hv q => by
  unfold dNotIn at e
  split at e
  · rename_i px py ex ey
    split at e
    · rename_i hs
      rw [Bool.and_eq_true] at hs
      cases e
      exact ⟨px, py, Rep.dp x u px hu ex, Rep.dp y v _ hv ey, hs.1, hs.2, q _ rfl⟩
    · cases e
  · cases e
/-! ### is None -/
def dIsN : D → D → Option D
  | .non, .non => some (.bl true)
  | .gl _, _ => none
  | _, .non => some (.bl false)
  | _, _ => none
def dNotN : D → D → Option D
  | .non, .non => some (.bl false)
  | .gl _, _ => none
  | _, .non => some (.bl true)
  | _, _ => none
theorem Rep.notN {K : PySem.W.Frag} {mg : Str → Option Value} {d : D} {v : V} (h : Rep K mg H d v) (h1 : d ≠ .non) (h2 : ∀ x, d ≠ .gl x) : v ≠ .non := by
  cases d with
  | non => exact (h1 rfl).elim
  | bl _ => cases (show v = _ from h); simp
  | int _ => cases (show v = _ from h); simp
  | str _ => cases (show v = _ from h); simp
  | lst _ => obtain ⟨a, vs, rfl, _⟩ := h; simp
  | tup _ => obtain ⟨a, vs, rfl, _⟩ := h; simp
  | dct _ => obtain ⟨a, vs, rfl, _⟩ := h; simp
  | gl x => exact (h2 x rfl).elim
theorem w_isN : Op2 X dIsN (fun x y H Q => y = .non ∧ Q (.bl (decide (x = .non))) H) := fun H x y z u v Q e hu hv q => by
  by_cases hx : x = .non
  · subst hx
    cases y <;> first | (cases e; done) | skip
    cases e
    cases (show u = V.non from hu)
    exact ⟨hv, q _ rfl⟩
  · have hy : y = .non ∧ z = .bl false ∧ ∀ w, x ≠ .gl w := by
      cases x <;> cases y <;> first | (cases e; done) | (cases e; exact ⟨rfl, rfl, fun w => by simp⟩) | (exact (hx rfl).elim)
    obtain ⟨rfl, rfl, hg⟩ := hy
    exact ⟨hv, by rw [decide_eq_false (Rep.notN hu hx hg)]; exact q _ rfl⟩
theorem w_notN : Op2 X dNotN (fun x y H Q => y = .non ∧ Q (.bl (!decide (x = .non))) H) := fun H x y z u v Q e hu hv q => by
  by_cases hx : x = .non
  · subst hx
    cases y <;> first | (cases e; done) | skip
    cases e
    cases (show u = V.non from hu)
    exact ⟨hv, q _ rfl⟩
  · have hy : y = .non ∧ z = .bl true ∧ ∀ w, x ≠ .gl w := by
      cases x <;> cases y <;> first | (cases e; done) | (cases e; exact ⟨rfl, rfl, fun w => by simp⟩) | (exact (hx rfl).elim)
    obtain ⟨rfl, rfl, hg⟩ := hy
    exact ⟨hv, by rw [decide_eq_false (Rep.notN hu hx hg)]; exact q _ rfl⟩
/-! ### items -/
def dIx : D → D → Option D
  | .lst l, .int i => atI l i
  | .tup l, .int i => atI l i
  | .str z, .int i => if z.length ≤ sizeLine then (match atI z.cps.toList i with | some c => some (.str ⟨#[c]⟩) | none => none) else none
  | _, _ => none
theorem RepL.atI {K : PySem.W.Frag} {mg : Str → Option Value} {l : List D} {vs : List V} {i : Int} {d : D} (h : RepL K mg H l vs) (e : L2.atI l i = some d) : ∃ v, L2.atI vs i = some v ∧ Rep K mg H d v := by
  unfold L2.atI at e ⊢
  rw [h.length]
  cases q : ixN l.length i with
  | none => rw [q] at e; cases e
  | some j =>
    rw [q] at e
    exact h.get e
theorem w_ix : Op2 X dIx (rIx X.K) := fun H x y z u v Q e hu hv q => by
  cases x <;> cases y <;> first | (cases e; done) | skip
  · rename_i z i
    simp only [dIx] at e
    split at e
    · rename_i hz
      split at e
      · rename_i ch ec
        cases e
        exact .inr (.inr ⟨z, i, ch, hu, hv, hz, ec, q _ rfl⟩)
      · cases e
    · cases e
  · rename_i l i
    obtain ⟨a, vs, rfl, h1, h2⟩ := hu
    obtain ⟨w, ew, hw⟩ := h2.atI e
    exact .inl ⟨a, vs, i, w, rfl, hv, h1.sq, ew, q w hw⟩
  · rename_i l i
    obtain ⟨a, vs, rfl, h1, h2⟩ := hu
    obtain ⟨w, ew, hw⟩ := h2.atI e
    exact .inr (.inl ⟨a, vs, i, w, rfl, hv, h1, ew, q w hw⟩)
/-! ### bools -/
def pAnd (f g : Env → Option D) : Env → Option D := fun ρ => match f ρ with
  | some (.bl true) => g ρ
  | some (.bl false) => some (.bl false)
  | _ => none
def pOr (f g : Env → Option D) : Env → Option D := fun ρ => match f ρ with
  | some (.bl false) => g ρ
  | some (.bl true) => some (.bl true)
  | _ => none
theorem p_and (ha : PE X a (pS X f)) (hb : PE X (.BoolOp .And (b :: rest) pos) (pS X g)) : PE X (.BoolOp .And (a :: b :: rest) pos) (pS X (pAnd f g)) :=
  PEi (pe_and ha hb) fun σ H Q ⟨ρ, d, s, e, q⟩ => by
    unfold pAnd at e
    split at e
    · rename_i ef
      exact ⟨ρ, _, s, ef, fun v hv => by cases (show v = V.bl true from hv); exact ⟨true, rfl, iteT ⟨ρ, d, s, e, q⟩⟩⟩
    · rename_i ef
      cases e
      exact ⟨ρ, _, s, ef, fun v hv => by cases (show v = V.bl false from hv); exact ⟨false, rfl, by rw [if_neg (by simp)]; exact q _ rfl⟩⟩
    · cases e
theorem p_or (ha : PE X a (pS X f)) (hb : PE X (.BoolOp .Or (b :: rest) pos) (pS X g)) : PE X (.BoolOp .Or (a :: b :: rest) pos) (pS X (pOr f g)) :=
  PEi (pe_or ha hb) fun σ H Q ⟨ρ, d, s, e, q⟩ => by
    unfold pOr at e
    split at e
    · rename_i ef
      exact ⟨ρ, _, s, ef, fun v hv => by cases (show v = V.bl false from hv); exact ⟨false, rfl, iteF ⟨ρ, d, s, e, q⟩⟩⟩
    · rename_i ef
      cases e
      exact ⟨ρ, _, s, ef, fun v hv => by cases (show v = V.bl true from hv); exact ⟨true, rfl, by rw [if_pos rfl]; exact q _ rfl⟩⟩
    · cases e
theorem p_one {op} (h : PE X a (pS X f)) : PE X (.BoolOp op [a] pos) (pS X f) := pe_one h
def dNot : D → Option D
  | .bl b => some (.bl (!b))
  | _ => none
theorem p_not (ha : PE X a (pS X f)) : PE X (.UnaryOp .Not a pos) (pS X (pUn dNot f)) :=
  PEi (pe_not ha) fun σ H Q ⟨ρ, d, s, e, q⟩ => by
    obtain ⟨x, ex, ez⟩ := pUn_some e
    cases x <;> first | (cases ez; done) | skip
    cases ez
    exact ⟨ρ, _, s, ex, fun v hv => ⟨_, hv, q _ rfl⟩⟩
def pIf (p : Env → Option Bool) (f g : Env → Option D) : Env → Option D := fun ρ => match p ρ with
  | some true => f ρ
  | some false => g ρ
  | none => none
theorem p_if (hc : PT X c (pT X p)) (ha : PE X a (pS X f)) (hb : PE X b (pS X g)) : PE X (.IfExp c a b pos) (pS X (pIf p f g)) :=
  PEi (pe_ifExp hc ha hb) fun σ H Q ⟨ρ, d, s, e, q⟩ => by
    unfold pIf at e
    split at e
    · rename_i ec
      exact ⟨ρ, true, s, ec, iteT ⟨ρ, d, s, e, q⟩⟩
    · rename_i ec
      exact ⟨ρ, false, s, ec, iteF ⟨ρ, d, s, e, q⟩⟩
    · cases e
/-! ### tests -/
/-- a bool's test -/
def pB (f : Env → Option D) : Env → Option Bool := fun ρ => match f ρ with
  | some (.bl b) => some b
  | _ => none
theorem pB_some {f : Env → Option D} {b : Bool} (h : pB f ρ = some b) : f ρ = some (.bl b) := by
  unfold pB at h
  split at h
  · rename_i e; cases h; exact e
  · cases h
theorem t_val (ha : PE X a (pS X f)) (he : ∀ whole, isTrue a X.env whole = (do let v ← whole; standAt a.pos; holding [v] (truthy v)) := by intro _; rfl) : PT X a (pT X (pB f)) :=
  PTi (pt_val ha he) fun σ H Q ⟨ρ, b, s, e, q⟩ => ⟨ρ, _, s, pB_some e, fun v hv => ⟨b, hv, q⟩⟩
theorem t_cmp {op : CmpOp} {o : D → D → Option D} {r : R2} (ho : OpR X (compareOp op) r) (w : Op2 X o r) (ha : PE X a (pS X f)) (hb : PE X b (pS X g)) (hm : behindInMarks op b = false) : PT X (.Compare a [op] [b] pos) (pT X (pB (pBin o f g))) :=
  PTi (pt_cmpR ho ha hb hm) fun σ H Q ⟨ρ, b, s, e, q⟩ => op_imp w ⟨ρ, _, s, pB_some e, fun v hv => ⟨b, hv, q⟩⟩
def dTruth : D → Option Bool
  | .non => some false
  | .bl b => some b
  | .int i => some (i != 0)
  | .str y => if y.length ≤ sizeLine then some ((y.length : Int) != 0) else none
  | .lst l => some (!l.isEmpty)
  | .tup l => some (!l.isEmpty)
  | .dct l => some (!l.isEmpty)
  | .gl _ => none
theorem isEmpty_len {α β : Type} {l : List α} {m : List β} (h : l.length = m.length) : l.isEmpty = m.isEmpty := by
  cases l <;> cases m <;> simp at h ⊢
theorem RepK.length {K : PySem.W.Frag} {mg : Str → Option Value} : ∀ {l : List (Key × D)} {vs : List (Key × V)}, RepK K mg H l vs → vs.length = l.length
  | [], _, h => by cases (show _ = [] from h); rfl
  | _ :: ds, _, h => by
    obtain ⟨v, r, e1, _, h2⟩ := h
    rw [e1, List.length_cons, List.length_cons, RepK.length h2]
theorem dTruth_ok {K : PySem.W.Frag} {mg : Str → Option Value} {d : D} {v : V} {b : Bool} (h : Rep K mg H d v) (e : dTruth d = some b) : TruV K v H b := by
  cases d with
  | non => cases e; cases (show v = _ from h); exact rfl
  | bl _ => cases e; cases (show v = _ from h); exact rfl
  | int _ => cases e; cases (show v = _ from h); exact rfl
  | str y =>
    cases (show v = _ from h)
    simp only [dTruth] at e
    split at e
    · cases e; exact ⟨by assumption, rfl⟩
    · cases e
  | lst l => cases e; obtain ⟨a, vs, rfl, h1, h2⟩ := h; exact .inl ⟨vs, h1.sq, by rw [isEmpty_len h2.length]⟩
  | tup l => cases e; obtain ⟨a, vs, rfl, h1, h2⟩ := h; exact .inr (.inl ⟨vs, h1, by rw [isEmpty_len h2.length]⟩)
  | dct l => cases e; obtain ⟨a, vs, rfl, h1, h2⟩ := h; exact .inr (.inr ⟨vs, h1, by rw [isEmpty_len h2.length]⟩)
  | gl _ => cases e
def pTr (f : Env → Option D) : Env → Option Bool := fun ρ => (f ρ).bind dTruth
theorem pTr_some {f : Env → Option D} {b : Bool} (h : pTr f ρ = some b) : ∃ d, f ρ = some d ∧ dTruth d = some b := by
  unfold pTr at h
  cases e : f ρ with
  | none => rw [e] at h; cases h
  | some d => rw [e] at h; exact ⟨d, rfl, h⟩
theorem t_truth (ha : PE X a (pS X f)) (he : ∀ whole, isTrue a X.env whole = (do let v ← whole; standAt a.pos; holding [v] (truthy v)) := by intro _; rfl) : PT X a (pT X (pTr f)) :=
  PTi (pt_truth ha he) fun σ H Q ⟨ρ, b, s, e, q⟩ => by
    obtain ⟨d, ed, et⟩ := pTr_some e
    exact ⟨ρ, d, s, ed, fun v hv => ⟨b, dTruth_ok hv et, q⟩⟩
def ptAnd (p q : Env → Option Bool) : Env → Option Bool := fun ρ => match p ρ with
  | some true => q ρ
  | some false => some false
  | none => none
def ptOr (p q : Env → Option Bool) : Env → Option Bool := fun ρ => match p ρ with
  | some false => q ρ
  | some true => some true
  | none => none
def ptNot (p : Env → Option Bool) : Env → Option Bool := fun ρ => match p ρ with
  | some b => some (!b)
  | none => none
theorem t_and1 (ha : PT X a (pT X p)) : PW X (.BoolOp .And [a] pos) (pT X p) := pw_and1 ha
theorem t_or1 (ha : PT X a (pT X p)) : PW X (.BoolOp .Or [a] pos) (pT X p) := pw_or1 ha
theorem t_and (ha : PT X a (pT X p)) (hb : PW X (.BoolOp .And (b :: rest) pos) (pT X q)) : PW X (.BoolOp .And (a :: b :: rest) pos) (pT X (ptAnd p q)) :=
  PWi (pw_and ha hb) fun σ H Q ⟨ρ, d, s, e, k⟩ => by
    unfold ptAnd at e
    split at e
    · rename_i ec; exact ⟨ρ, true, s, ec, iteT ⟨ρ, d, s, e, k⟩⟩
    · rename_i ec; cases e; exact ⟨ρ, false, s, ec, iteF k⟩
    · cases e
theorem t_or (ha : PT X a (pT X p)) (hb : PW X (.BoolOp .Or (b :: rest) pos) (pT X q)) : PW X (.BoolOp .Or (a :: b :: rest) pos) (pT X (ptOr p q)) :=
  PWi (pw_or ha hb) fun σ H Q ⟨ρ, d, s, e, k⟩ => by
    unfold ptOr at e
    split at e
    · rename_i ec; exact ⟨ρ, false, s, ec, iteF ⟨ρ, d, s, e, k⟩⟩
    · rename_i ec; cases e; exact ⟨ρ, true, s, ec, iteT k⟩
    · cases e
theorem t_not (ha : PT X a (pT X p)) : PT X (.UnaryOp .Not a pos) (pT X (ptNot p)) :=
  PTi (pt_not ha) fun σ H Q ⟨ρ, d, s, e, k⟩ => by
    unfold ptNot at e
    split at e
    · rename_i ec; cases e; exact ⟨ρ, _, s, ec, k⟩
    · cases e
/-! ### a op b op c -/
def pChain (o o' : D → D → Option D) (f g h : Env → Option D) : Env → Option D := fun ρ => match f ρ, g ρ with
  | some x, some y => match o x y with
    | some (.bl true) => (h ρ).bind fun z => o' y z
    | some (.bl false) => some (.bl false)
    | _ => none
  | _, _ => none
theorem chain_imp {o o' : D → D → Option D} {r r' : R2} (w : Op2 X o r) (w' : Op2 X o' r') {Q : VK} (hq : pS X (pChain o o' f g h) σ H Q) : tChain r r' (pS X f) (pS X g) (pS X h) σ H Q := by
  obtain ⟨ρ, d, s, e, k⟩ := hq
  unfold pChain at e
  split at e
  · rename_i x y ex ey
    refine ⟨ρ, x, s, ex, fun u hu => ⟨ρ, y, s, ey, fun v hv => ?_⟩⟩
    split at e
    · rename_i eo
      refine w H x y _ u v _ eo hu hv fun z hz => ⟨true, hz, ?_⟩
      rw [if_pos rfl]
      cases ez : h ρ with
      | none => rw [ez] at e; cases e
      | some z' => rw [ez] at e; exact ⟨ρ, z', s, ez, fun u' hu' => w' H y z' d v u' Q e hv hu' k⟩
    · rename_i eo
      cases e
      refine w H x y _ u v _ eo hu hv fun z hz => ⟨false, hz, ?_⟩
      rw [if_neg (by simp)]
      exact k _ rfl
    · cases e
  · cases e
theorem p_chain {op op' : CmpOp} {o o' : D → D → Option D} {r r' : R2} (ho : OpR X (compareOp op) r) (ho' : OpR X (compareOp op') r') (w : Op2 X o r) (w' : Op2 X o' r') (ha : PE X a (pS X f)) (hb : PE X b (pS X g)) (hc : PE X c (pS X h))
    (hm : lastMarks [op, op'] [b, c] = false := by with_unfolding_all rfl) : PE X (.Compare a [op, op'] [b, c] pos) (pS X (pChain o o' f g h)) :=
  PEi (pe_chain ho ho' ha hb hc hm) fun σ H Q hq => chain_imp w w' hq
theorem t_chain {op op' : CmpOp} {o o' : D → D → Option D} {r r' : R2} (ho : OpR X (compareOp op) r) (ho' : OpR X (compareOp op') r') (w : Op2 X o r) (w' : Op2 X o' r') (ha : PE X a (pS X f)) (hb : PE X b (pS X g)) (hc : PE X c (pS X h))
    (hm : lastMarks [op, op'] [b, c] = false := by with_unfolding_all rfl) : PT X (.Compare a [op, op'] [b, c] pos) (pT X (pB (pChain o o' f g h))) :=
  PTi (pt_chain ho ho' ha hb hc hm) fun σ H Q ⟨ρ, b, s, e, q⟩ => chain_imp w w' ⟨ρ, _, s, pB_some e, fun v hv => ⟨b, hv, q⟩⟩
/-! ### built-in functions -/
def OpN (X : Cx) (o : List D → Option D) (r : List V → Hp → VK → Prop) : Prop := ∀ (H : Hp) (xs : List D) (z : D) (us : List V) (Q : VK), o xs = some z → RepL X.K X.mg H xs us → (∀ w, Rep X.K X.mg H z w → Q w H) → r us H Q
def pCall (o : List D → Option D) (fs : Env → Option (List D)) : Env → Option D := fun ρ => (fs ρ).bind o
def pNil : Env → Option (List D) := fun _ => some []
def pCons (f : Env → Option D) (fs : Env → Option (List D)) : Env → Option (List D) := fun ρ => (f ρ).bind fun x => (fs ρ).bind fun xs => some (x :: xs)
theorem p_anil : PA X [] (pA X pNil) := PAi pa_nil fun σ H Q ⟨ρ, ds, s, e, q⟩ => by cases e; exact q [] rfl
theorem p_acons (ha : PE X a (pS X f)) (hr : PA X es (pA X fs)) (hs : starEach (a :: es) X.env = (false, eval a X.env) :: starEach es X.env := by rfl) : PA X (a :: es) (pA X (pCons f fs)) :=
  PAi (pa_cons ha hr hs) fun σ H Q ⟨ρ, ds, s, e, q⟩ => by
    unfold pCons at e
    cases ex : f ρ with
    | none => rw [ex] at e; cases e
    | some x =>
      cases ey : fs ρ with
      | none => rw [ex, ey] at e; cases e
      | some xs =>
        rw [ex, ey] at e
        cases e
        exact ⟨ρ, x, s, ex, fun u hu => ⟨ρ, xs, s, ey, fun us hus => q (u :: us) ⟨u, us, rfl, hu, hus⟩⟩⟩
theorem pCall_imp {o : List D → Option D} {r : List V → Hp → VK → Prop} (w : OpN X o r) {Q : VK} (h : pS X (pCall o fs) σ H Q) : tCB r (pA X fs) σ H Q := by
  obtain ⟨ρ, d, s, e, q⟩ := h
  unfold pCall at e
  cases ex : fs ρ with
  | none => rw [ex] at e; cases e
  | some xs => rw [ex] at e; exact ⟨ρ, xs, s, ex, fun us hus => w H xs d us Q e hus q⟩
theorem p_callB {id : String} {o : List D → Option D} {r : List V → Hp → VK → Prop} {x : Str} {p : Pos} (hc : CallR X (.builtin id) r) (w : OpN X o r) (hg : Gl X x) (hm : X.mg x = none) (hv : bootBuiltins x = some (.builtin id)) (ha : PA X (e :: es) (pA X fs)) (hn : x ≠ "__name__" := by decide) (hdb : (x == ("__debug__" : Str)) = false := by decide)
    (he : starEach (e :: es) X.env = (false, eval e X.env) :: starEach es X.env := by rfl) (hpl : (backTo pos (starEach es X.env)).any (·.1) = false := by rfl) : PE X (.Call (.Name x p) (e :: es) [] pos) (pS X (pCall o fs)) :=
  PEi (pe_callB hc hg hm hv ha hn hdb he hpl) fun σ H Q h => pCall_imp w h
theorem p_callTy {T : String} {o : List D → Option D} {r : List V → Hp → VK → Prop} {x : Str} {p : Pos} (hc : CallR X (.type T) r) (w : OpN X o r) (hg : Gl X x) (hm : X.mg x = none) (hv : bootBuiltins x = some (.type T)) (ha : PA X (e :: es) (pA X fs)) (hn : x ≠ "__name__" := by decide) (hdb : (x == ("__debug__" : Str)) = false := by decide)
    (he : starEach (e :: es) X.env = (false, eval e X.env) :: starEach es X.env := by rfl) (hpl : (backTo pos (starEach es X.env)).any (·.1) = false := by rfl) : PE X (.Call (.Name x p) (e :: es) [] pos) (pS X (pCall o fs)) :=
  PEi (pe_callTy hc hg hm hv ha hn hdb he hpl) fun σ H Q h => pCall_imp w h
def dLen : List D → Option D
  | [.lst l] => some (.int l.length)
  | [.tup l] => some (.int l.length)
  | [.str z] => if z.length ≤ sizeLine then some (.int z.length) else none
  | _ => none
theorem repL1 {K : PySem.W.Frag} {mg : Str → Option Value} {x : D} {us : List V} (h : RepL K mg H [x] us) : ∃ u, us = [u] ∧ Rep K mg H x u := by
  obtain ⟨u, r, rfl, h1, h2⟩ := h
  cases (show r = [] from h2)
  exact ⟨u, rfl, h1⟩
theorem repL2 {K : PySem.W.Frag} {mg : Str → Option Value} {x y : D} {us : List V} (h : RepL K mg H [x, y] us) : ∃ u v, us = [u, v] ∧ Rep K mg H x u ∧ Rep K mg H y v := by
  obtain ⟨u, r, rfl, h1, h2⟩ := h
  obtain ⟨v, rfl, h3⟩ := repL1 h2
  exact ⟨u, v, rfl, h1, h3⟩
def rLen (X : Cx) : List V → Hp → VK → Prop := fun xs H Q => (∃ p ys, xs = [.ref p] ∧ (SqL X.K H p ys ∨ SqT X.K H p ys) ∧ Q (.int ys.length) H) ∨ ∃ z, xs = [.str z] ∧ z.length ≤ sizeLine ∧ Q (.int z.length) H
theorem call_lenS : CallR X (.builtin "len") (rLen X) := call_len_seq.or call_len_str
theorem w_len : OpN X dLen (rLen X) := fun H xs z us Q e hu q => by
  unfold dLen at e
  split at e
  · cases e
    obtain ⟨u, rfl, a, vs, rfl, h1, h2⟩ := repL1 hu
    exact .inl ⟨a, vs, rfl, .inl h1.sq, by rw [h2.length]; exact q _ rfl⟩
  · cases e
    obtain ⟨u, rfl, a, vs, rfl, h1, h2⟩ := repL1 hu
    exact .inl ⟨a, vs, rfl, .inr h1, by rw [h2.length]; exact q _ rfl⟩
  · split at e
    · cases e
      obtain ⟨u, rfl, h1⟩ := repL1 hu
      cases (show u = _ from h1)
      exact .inr ⟨_, rfl, by assumption, q _ rfl⟩
    · cases e
  · cases e
def dAbs : List D → Option D
  | [.int i] => some (.int (if i < 0 then -i else i))
  | _ => none
theorem w_abs : OpN X dAbs (fun xs H Q => ∃ i, xs = [.int i] ∧ Q (.int (if i < 0 then -i else i)) H) := fun H xs z us Q e hu q => by
  unfold dAbs at e
  split at e
  · cases e
    obtain ⟨u, rfl, h1⟩ := repL1 hu
    cases (show u = _ from h1)
    exact ⟨_, rfl, q _ rfl⟩
  · cases e
def dMax2 : List D → Option D
  | [.int i, .int j] => some (.int (if j > i then j else i))
  | _ => none
def dMin2 : List D → Option D
  | [.int i, .int j] => some (.int (if j < i then j else i))
  | _ => none
theorem w_max2 : OpN X dMax2 (fun xs H Q => ∃ i j, xs = [.int i, .int j] ∧ Q (.int (if j > i then j else i)) H) := fun H xs z us Q e hu q => by
  unfold dMax2 at e
  split at e
  · cases e
    obtain ⟨u, v, rfl, h1, h2⟩ := repL2 hu
    cases (show u = _ from h1); cases (show v = _ from h2)
    exact ⟨_, _, rfl, q _ rfl⟩
  · cases e
theorem w_min2 : OpN X dMin2 (fun xs H Q => ∃ i j, xs = [.int i, .int j] ∧ Q (.int (if j < i then j else i)) H) := fun H xs z us Q e hu q => by
  unfold dMin2 at e
  split at e
  · cases e
    obtain ⟨u, v, rfl, h1, h2⟩ := repL2 hu
    cases (show u = _ from h1); cases (show v = _ from h2)
    exact ⟨_, _, rfl, q _ rfl⟩
  · cases e
def dInt : List D → Option D
  | [.int i] => some (.int i)
  | [.bl k] => some (.int (if k then 1 else 0))
  | _ => none
theorem w_int : OpN X dInt (fun xs H Q => (∃ i, xs = [.int i] ∧ Q (.int i) H) ∨ ∃ k, xs = [.bl k] ∧ Q (.int (if k then 1 else 0)) H) := fun H xs z us Q e hu q => by
  unfold dInt at e
  split at e
  · cases e
    obtain ⟨u, rfl, h1⟩ := repL1 hu
    cases (show u = _ from h1)
    exact .inl ⟨_, rfl, q _ rfl⟩
  · cases e
    obtain ⟨u, rfl, h1⟩ := repL1 hu
    cases (show u = _ from h1)
    exact .inr ⟨_, rfl, q _ rfl⟩
  · cases e
/-- a list of intsOf -/
def intsOf : List D → Option (List Int)
  | [] => some []
  | .int i :: r => match intsOf r with | some l => some (i :: l) | none => none
  | _ :: _ => none
theorem intsOf_rep {K : PySem.W.Frag} {mg : Str → Option Value} : ∀ {l : List D} {ns : List Int} {vs : List V}, intsOf l = some ns → RepL K mg H l vs → vs = ns.map V.int
  | [], _, _, e, h => by cases e; exact h
  | .int i :: r, ns, vs, e, h => by
    simp only [intsOf] at e
    split at e
    · rename_i m em
      cases e
      obtain ⟨v, r', rfl, h1, h2⟩ := h
      cases (show v = _ from h1)
      rw [intsOf_rep em h2]; rfl
    · cases e
  | .non :: _, _, _, e, _ => by cases e
  | .bl _ :: _, _, _, e, _ => by cases e
  | .str _ :: _, _, _, e, _ => by cases e
  | .lst _ :: _, _, _, e, _ => by cases e
  | .tup _ :: _, _, _, e, _ => by cases e
  | .dct _ :: _, _, _, e, _ => by cases e
  | .gl _ :: _, _, _, e, _ => by cases e
def dSum : List D → Option D
  | [.lst l] => match intsOf l with | some ns => some (.int ns.sum) | none => none
  | _ => none
theorem w_sum : OpN X dSum (rSum X.K) := fun H xs z us Q e hu q => by
  unfold dSum at e
  split at e
  · split at e
    · rename_i ns en
      cases e
      obtain ⟨u, rfl, a, vs, rfl, h1, h2⟩ := repL1 hu
      cases intsOf_rep en h2
      exact ⟨a, ns, rfl, h1.sq, q _ rfl⟩
    · cases e
  · cases e
def dBits : D → Option D
  | .int i => some (.int (Builtin.Int.intBits i : Nat))
  | _ => none
theorem p_bits {apos : Pos} (ha : PE X a (pS X f)) (hbase : attributeBase a "bit_length" X.env (eval a X.env) = eval a X.env := by rfl) (hline : (apos.endLine == pos.line) = true := by rfl) : PE X (.Call (.Attribute a "bit_length" apos) [] [] pos) (pS X (pUn dBits f)) :=
  PEi (pe_bits ha hbase hline) fun σ H Q ⟨ρ, d, s, e, q⟩ => by
    obtain ⟨x, ex, ez⟩ := pUn_some e
    cases x <;> first | (cases ez; done) | skip
    cases ez
    exact ⟨ρ, _, s, ex, fun v hv => ⟨_, hv, q _ rfl⟩⟩
/-! ### isinstance of built-in types -/
def tyNm : D → Option String
  | .non => some "NoneType"
  | .bl _ => some "bool"
  | .int _ => some "int"
  | .str _ => some "str"
  | .lst _ => some "list"
  | .tup _ => some "tuple"
  | .dct _ => some "dict"
  | .gl _ => none
theorem tyNm_ok {K : PySem.W.Frag} {mg : Str → Option Value} {d : D} {v : V} {n : String} (h : Rep K mg H d v) (e : tyNm d = some n) : TyX K H v (.type n) := by
  cases d with
  | non => cases e; cases (show v = _ from h); exact .base .non
  | bl b => cases e; cases (show v = _ from h); exact .base (.bl b)
  | int i => cases e; cases (show v = _ from h); exact .base (.int i)
  | str i => cases e; cases (show v = _ from h); exact .base (.str i)
  | lst l =>
    cases e
    obtain ⟨a, vs, rfl, h1, _⟩ := h
    rcases h1.sq with (h1 | ⟨o, h1⟩) | ⟨o, its, n, h1, h2, _⟩
    · exact .base (.lst h1)
    · exact .base (.frz h1)
    · exact .kList h1 h2
  | tup l =>
    cases e
    obtain ⟨a, vs, rfl, h1, _⟩ := h
    rcases h1 with (h1 | ⟨o, h1⟩) | ⟨o, its, n, h1, h2, _⟩
    · exact .base (.tup h1)
    · exact .fTuple h1
    · exact .kTuple h1 h2
  | dct l => cases e; obtain ⟨a, vs, rfl, h1, _⟩ := h; exact .base (.dK h1)
  | gl _ => cases e
/-- is a value of the type with the name n of the type T -/
def isTy (n T : String) : Bool := n == T || (n == "bool" && T == "int")
theorem kit_isTy : ∀ n ∈ ["NoneType", "bool", "int", "str", "list", "tuple", "dict"], ∀ T ∈ ["bool", "int", "str", "list", "tuple", "dict"], kitB n T = some (isTy n T) := by decide +kernel
def dIsi (T : String) : D → Option D := fun d => match tyNm d with | some n => some (.bl (isTy n T)) | none => none
theorem tyNm_mem {d : D} {n : String} (e : tyNm d = some n) : n ∈ ["NoneType", "bool", "int", "str", "list", "tuple", "dict"] := by
  cases d <;> cases e <;> simp
theorem p_isi {T : String} {x y : Str} {p p2 : Pos} (hT : T ∈ ["bool", "int", "str", "list", "tuple", "dict"]) (ha : PE X a (pS X f)) (hg : Gl X x) (hm : X.mg x = none) (hv : bootBuiltins x = some (.builtin "isinstance")) (hg2 : Gl X y) (hm2 : X.mg y = none) (hv2 : bootBuiltins y = some (.type T))
    (hn : x ≠ "__name__" := by decide) (hdb : (x == ("__debug__" : Str)) = false := by decide) (hn2 : y ≠ "__name__" := by decide) (hdb2 : (y == ("__debug__" : Str)) = false := by decide)
    (he : starEach (a :: [.Name y p2]) X.env = (false, eval a X.env) :: starEach [.Name y p2] X.env := by rfl) (hpl : (backTo pos (starEach [.Name y p2] X.env)).any (·.1) = false := by rfl) (hs : starEach [.Name y p2] X.env = (false, eval (.Name y p2) X.env) :: starEach [] X.env := by rfl) :
    PE X (.Call (.Name x p) [a, .Name y p2] [] pos) (pS X (pUn (dIsi T) f)) :=
  PEi (pe_callB call_isi hg hm hv (pa_cons ha (pa_cons (pe_bltn (v := V.ty T) hg2 hm2 hv2 rfl hn2 hdb2) pa_nil hs) he) hn hdb he hpl) fun σ H Q ⟨ρ, d, s, e, q⟩ => by
    obtain ⟨z, ex, ez⟩ := pUn_some e
    unfold dIsi at ez
    split at ez
    · rename_i n en
      cases ez
      refine ⟨ρ, z, s, ex, fun v hv => ⟨v, V.ty T, .type n, .type T, isTy n T, rfl, .ty T, tyNm_ok hv en, kit_ty (kit_isTy n (tyNm_mem en) T hT), q _ rfl⟩⟩
    · cases ez
end
end Mn

namespace Mn
open PySem PySem.Spec PyProof.Rows L2

theorem get_app {α : Type} {tc ρ : List α} {i : Nat} : (tc ++ ρ)[tc.length + i]? = ρ[i]? := by rw [List.getElem?_append_right (Nat.le_add_right _ _), Nat.add_sub_cancel_left]
theorem set_app {α : Type} {x : α} : ∀ {tc ρ : List α} {i : Nat}, (tc ++ ρ).set (tc.length + i) x = tc ++ ρ.set i x
  | [], ρ, i => by simp
  | a :: r, ρ, i => by
    show (a :: (r ++ ρ)).set (r.length + 1 + i) x = a :: (r ++ ρ.set i x)
    rw [show r.length + 1 + i = (r.length + i) + 1 by omega, List.set_cons_succ, set_app]
section
variable {K : PySem.W.Frag} {mg : Str → Option Value} {W W' H H' B : Hp} {vs : List (Option V)} {cs : List (Option Cell)} {v : V} {ov : Option V} {oc : Option Cell} {k k' : Nat} {d : D} {c : Cell}
/-- the head to fewer levels (a scalar to any) -/
def fit (k : Nat) (c : Cell) : Bool := decide (k ≤ c.1) || c.2.sc
theorem R.fit (r : R K mg B W H (ov :: vs) (some c :: cs)) (h : fit k c = true) : ∃ W', Gr B W W' ∧ R K mg B W' H (ov :: vs) (some (k, c.2) :: cs) := by
  unfold Mn.fit at h
  rw [Bool.or_eq_true] at h
  rcases h with h | h
  · obtain ⟨W', g, r'⟩ := r.down (i := 0) (k := c.1) (k' := k) (d := c.2) rfl (of_decide_eq_true h)
    exact ⟨W', g, r'⟩
  · obtain ⟨T, ⟨F, G, ⟨u, e, h1⟩, h2, h3⟩, hT⟩ := r.ex
    exact ⟨W, Gr.refl B W, r.sw, r.sb, T, ⟨F, G, ⟨u, e, Own.scal h h1⟩, h2, h3⟩, hT⟩
/-- a cell becomes the head, the slot is left empty -/
theorem R.take (r : R K mg B W H vs cs) {i : Nat} (e : cs[i]? = some (some c)) : ∃ v, vs[i]? = some (some v) ∧ R K mg B W H (some v :: vs) (some c :: cs.set i none) := by
  obtain ⟨T, h, hT⟩ := r.ex
  obtain ⟨v, F, G, ev, ⟨u, eu, ho⟩, h3, put⟩ := h.focus e
  have p := put W H v none (fun _ => 0) (Same.refl W) (fun _ _ => rfl) fun _ => rfl
  rw [set_self ev] at p
  exact ⟨u, by rw [ev, eu], r.sw, r.sb, fun b => F b + (0 + G b), ⟨F, _, ⟨u, rfl, ho⟩, p, fun _ => rfl⟩, fun b => ⟨by have := (hT b).1; have := h3 b; show F b + (0 + G b) ≤ 1; omega, fun hb => (hT b).2 (by have := h3 b; have : F b + (0 + G b) ≠ 0 := hb; omega)⟩⟩
/-- an empty cell holds nothing: any value may stand there -/
theorem R.reslot (r : R K mg B W H vs cs) {vs' : List (Option V)} (hl : vs'.length = vs.length) (h : ∀ (i : Nat) (c : Cell), cs[i]? = some (some c) → vs'[i]? = vs[i]?) : R K mg B W H vs' cs := by
  obtain ⟨T, h1, hT⟩ := r.ex
  refine ⟨r.sw, r.sb, T, ?_, hT⟩
  clear hT r
  induction cs generalizing vs vs' T with
  | nil =>
    cases vs with
    | nil => cases vs' with
      | nil => exact h1
      | cons _ _ => simp at hl
    | cons _ _ => exact h1.elim
  | cons c cs ih =>
    cases vs with
    | nil => exact h1.elim
    | cons v vs =>
      cases vs' with
      | nil => simp at hl
      | cons v' vs' =>
        obtain ⟨F, G, p1, p2, p3⟩ := h1
        refine ⟨F, G, ?_, ih (by simpa using hl) (fun i c e => by simpa using h (i + 1) c (by simpa using e)) G p2, p3⟩
        cases c with
        | none => exact p1
        | some c =>
          have := h 0 c rfl
          simp at this
          rw [this]; exact p1
/-- a call that changes nothing that was there: what it hands back is put beside the state -/
theorem R.called {W1 H1 : Hp} (r : R K mg B W H vs cs) (g : Gr H W W1) (r1 : R K mg H W1 H1 [some v] [some c]) : Gr B W W1 ∧ R K mg B W1 H1 (some v :: vs) (some c :: cs) := by
  obtain ⟨T, h, hT⟩ := r.ex
  obtain ⟨T1, ⟨F, G, h1, h2, h3⟩, hT1⟩ := r1.ex
  have hG : ∀ b, G b = 0 := h2
  have hf : ∀ b, F b ≠ 0 → H b = none := fun b hb => ((hT1 b).2 (by have := h3 b; omega)).2
  have nb : ∀ a, H a = none → B a = none := fun a ha => by
    cases q : B a with
    | none => rfl
    | some o => rw [r.sb a o q] at ha; cases ha
  have ht : ∀ a, T a ≠ 0 → H1 a = H a := fun a ha => by
    cases q : H a with
    | none => exact absurd q (h.there a ha)
    | some o => exact r1.sb a o q
  refine ⟨⟨g.sm, fun a e n => nb a (g.nb a e n)⟩, r1.sw, r.sb.trans r1.sb, fun b => F b + T b, ⟨F, T, h1, h.mono g.sm ht, fun _ => rfl⟩, fun b => ?_⟩
  by_cases hb : F b = 0
  · refine ⟨by have := (hT b).1; show F b + T b ≤ 1; omega, fun hn => ?_⟩
    have hn' : T b ≠ 0 := by have : F b + T b ≠ 0 := hn; omega
    refine ⟨?_, ((hT b).2 hn').2⟩
    cases q : W1 b with
    | none => rfl
    | some o => exact absurd (g.nb b ((hT b).2 hn').1 (by rw [q]; simp)) (h.there b hn')
  · have ht0 : T b = 0 := by
      by_cases z : T b = 0
      · exact z
      · exact absurd (hf b hb) (h.there b z)
    exact ⟨by have := (hT1 b).1; have := h3 b; have := hG b; show F b + T b ≤ 1; omega, fun _ => ⟨((hT1 b).2 (by have := h3 b; omega)).1, nb b (hf b hb)⟩⟩
/-- .. that changes one cell's object too -/
theorem R.calledI (r : R K mg B W H vs cs) {i : Nat} (e : cs[i]? = some (some c)) : ∃ v0 B1, vs[i]? = some (some v0) ∧ R K mg B1 W H [some v0] [some c] ∧
    ∀ (W1 H1 : Hp) (v : V) (c1 c2 : Cell), Gr B1 W W1 → R K mg B1 W1 H1 [some v, some v0] [some c1, some c2] → Gr B W W1 ∧ R K mg B W1 H1 (some v :: vs) (some c1 :: cs.set i (some c2)) := by
  obtain ⟨T, h, hT⟩ := r.ex
  have hth := h.there
  obtain ⟨ov, F, G, ev, ⟨u, eu, ho⟩, h3, put⟩ := h.focus e
  have hF1 : ∀ b, F b ≤ 1 := fun b => by have := (hT b).1; have := h3 b; omega
  let B1 : Hp := fun b => if F b = 0 then H b else none
  have b1 : ∀ b, F b = 0 → B1 b = H b := fun b hb => if_pos hb
  have b2 : ∀ b, F b ≠ 0 → B1 b = none := fun b hb => if_neg hb
  refine ⟨u, B1, by rw [ev, eu], ⟨r.sw, fun b o q => ?_, F, ⟨F, fun _ => 0, ⟨u, rfl, ho⟩, fun _ => rfl, fun _ => rfl⟩, fun b => ⟨hF1 b, fun hb => ⟨((hT b).2 (by have := h3 b; omega)).1, b2 b hb⟩⟩⟩, fun W1 H1 v c1 c2 g r1 => ?_⟩
  · by_cases z : F b = 0
    · rw [b1 b z] at q; exact q
    · rw [b2 b z] at q; cases q
  obtain ⟨T1, ⟨F1, G1, p1, ⟨F2, G2, p2, p3, p4⟩, p5⟩, hT1⟩ := r1.ex
  have hG2 : ∀ b, G2 b = 0 := p3
  have nb : ∀ a, B1 a = none → B a = none := fun a ha => by
    by_cases z : F a = 0
    · rw [b1 a z] at ha
      cases q : B a with
      | none => rfl
      | some o => rw [r.sb a o q] at ha; cases ha
    · exact ((hT a).2 (by have := h3 a; omega)).2
  have keep : ∀ a, G a ≠ 0 → B1 a = H a ∧ H a ≠ none := fun a ha => by
    have z : F a = 0 := by have := (hT a).1; have := h3 a; omega
    exact ⟨b1 a z, hth a (by have := h3 a; omega)⟩
  have hg : ∀ a, G a ≠ 0 → H1 a = H a := fun a ha => by
    obtain ⟨q1, q2⟩ := keep a ha
    cases q : H a with
    | none => exact absurd q q2
    | some o => exact r1.sb a o (by rw [q1, q])
  have sbB : Same B H1 := fun a o q => by
    by_cases z : F a = 0
    · exact r1.sb a o (by rw [b1 a z]; exact r.sb a o q)
    · rw [((hT a).2 (by have := h3 a; omega)).2] at q; cases q
  have c' := put W1 H1 (some u) (some c2) F2 g.sm hg p2
  rw [eu] at ev
  rw [set_self ev] at c'
  refine ⟨⟨g.sm, fun a e n => nb a (g.nb a e n)⟩, r1.sw, sbB, fun b => F1 b + (F2 b + G b), ⟨F1, _, p1, c', fun _ => rfl⟩, fun b => ?_⟩
  have hb5 := p5 b
  have hb4 := p4 b
  have hg2 := hG2 b
  have ht1 := (hT1 b).1
  by_cases hb : G b = 0
  · refine ⟨by show F1 b + (F2 b + G b) ≤ 1; omega, fun hn => ?_⟩
    have : F1 b + (F2 b + G b) ≠ 0 := hn
    obtain ⟨q1, q2⟩ := (hT1 b).2 (by omega)
    exact ⟨q1, nb b q2⟩
  · obtain ⟨q1, q2⟩ := keep b hb
    have z : T1 b = 0 := by
      by_cases z : T1 b = 0
      · exact z
      · exact absurd (q1.symm.trans ((hT1 b).2 z).2) q2
    refine ⟨by have := (hT b).1; have := h3 b; show F1 b + (F2 b + G b) ≤ 1; omega, fun _ => ?_⟩
    have hTb := (hT b).2 (by have := h3 b; omega)
    refine ⟨?_, hTb.2⟩
    cases q : W1 b with
    | none => rfl
    | some o => exact absurd (q1.symm.trans (g.nb b hTb.1 (by rw [q]; simp))) q2
end

section
variable {X : Cx} {a b c e : Expr} {es : List Expr} {f g : Env → Option D} {p : Env → Option Bool} {m n : Env → Option (Cell × Env)} {ms : Env → Option (List D × Env)} {pos : Pos} {σ : L2.St} {H : Hp} {ρ : Env} {k : Nat}
/-! ### expressions -/
/-- a pure expression whose value is a scalar -/
def mP (f : Env → Option D) : Env → Option (Cell × Env) := fun ρ => match f ρ with
  | some d => if d.sc then some ((0, d), ρ) else none
  | none => none
theorem g_p (h : PE X e (pS X f)) : PE X e (gS X (mP f)) := PEi h fun σ H Q ⟨B, W, ts, tc, ρ, cl, ρ', r, hl, em, q⟩ => by
  unfold mP at em
  split at em
  · rename_i d ed
    split at em
    · rename_i hs
      cases em
      exact ⟨ρ, d, ⟨B, W, ts, tc, r, hl⟩, ed, fun v hv => q W H v (Gr.refl B W) (r.pushS hs hv)⟩
    · cases em
  · cases em
/-- a name, shared from now on -/
def mSh (i : Nat) : Env → Option (Cell × Env) := fun ρ => match ρ[i]? with
  | some (some c) => some ((0, c.2), ρ.set i (some (0, c.2)))
  | _ => none
theorem g_sh {i : Nat} (h : PE X e (tVar i)) : PE X e (gS X (mSh i)) := PEi h fun σ H Q ⟨B, W, ts, tc, ρ, cl, ρ', r, hl, em, q⟩ => by
  unfold mSh at em
  split at em
  · rename_i c ec
    cases em
    obtain ⟨W', g, r'⟩ := r.down (i := tc.length + i) (k := c.1) (k' := 0) (d := c.2) (by rw [get_app]; exact ec) (Nat.zero_le _)
    rw [set_app] at r'
    have ei : (ρ.set i (some ((0, c.2) : Cell)))[i]? = some (some (0, c.2)) := by
      rw [List.getElem?_set_self (List.getElem?_eq_some_iff.mp ec).1]
    obtain ⟨v, ev, hv⟩ := r'.rep0 (i := tc.length + i) (d := c.2) (by rw [get_app]; exact ei)
    rw [← hl, get_app] at ev
    exact ⟨v, ev, q W' H v g (r'.push0 hv)⟩
  · cases em
/-- a name, for the last time -/
def mMv (i : Nat) : Env → Option (Cell × Env) := fun ρ => match ρ[i]? with
  | some (some c) => some (c, ρ.set i none)
  | _ => none
theorem g_mv {i : Nat} (h : PE X e (tVar i)) : PE X e (gS X (mMv i)) := PEi h fun σ H Q ⟨B, W, ts, tc, ρ, cl, ρ', r, hl, em, q⟩ => by
  unfold mMv at em
  split at em
  · rename_i c ec
    cases em
    obtain ⟨v, ev, r'⟩ := r.take (i := tc.length + i) (c := cl) (by rw [get_app]; exact ec)
    rw [set_app] at r'
    rw [← hl, get_app] at ev
    exact ⟨v, ev, q W H v (Gr.refl B W) r'⟩
  · cases em
/-- expressions over what is shared already: their values stay -/
def wS (X : Cx) (f : Env → Option D) : TE := fun σ H Q => ∃ (B W : Hp) (ts : List (Option V)) (tc : List (Option Cell)) (ρ : Env) (d : D), R X.K X.mg B W H (ts ++ σ) (tc ++ ρ) ∧ ts.length = tc.length ∧ f ρ = some d ∧ ∀ v, Rep X.K X.mg W d v → Q v H
def wVar (i : Nat) : Env → Option D := fun ρ => match ρ[i]? with
  | some (some (0, d)) => some d
  | _ => none
theorem w_var {i : Nat} (h : PE X e (tVar i)) : PE X e (wS X (wVar i)) := PEi h fun σ H Q ⟨B, W, ts, tc, ρ, d, r, hl, em, q⟩ => by
  unfold wVar at em
  split at em
  · rename_i d' ec
    cases em
    obtain ⟨v, ev, hv⟩ := r.rep0 (i := tc.length + i) (d := d) (by rw [get_app]; exact ec)
    rw [← hl, get_app] at ev
    exact ⟨v, ev, q v hv⟩
  · cases em
/-- a scalar stays too -/
def wP (f : Env → Option D) : Env → Option D := fun ρ => match f ρ with
  | some d => if d.sc then some d else none
  | none => none
theorem w_p (h : PE X e (pS X f)) : PE X e (wS X (wP f)) := PEi h fun σ H Q ⟨B, W, ts, tc, ρ, d, r, hl, em, q⟩ => by
  unfold wP at em
  split at em
  · rename_i d' ed
    split at em
    · rename_i hs
      cases em
      exact ⟨ρ, d, ⟨B, W, ts, tc, r, hl⟩, ed, fun v hv => q v (Rep.scalar hs hv)⟩
    · cases em
  · cases em
def dIxL : D → D → Option D
  | .lst l, .int i => atI l i
  | .tup l, .int i => atI l i
  | _, _ => none
theorem w_ixw (ha : PE X a (wS X f)) (hb : PE X b (pS X g)) (hs : PlainIx b) : PE X (.Subscript a b pos) (wS X (pBin dIxL f g)) :=
  PEi (pe_ix ix_seq ha hb hs) fun σ H Q ⟨B, W, ts, tc, ρ, d, r, hl, e, q⟩ => by
    obtain ⟨x, y, ex, ey, ez⟩ := pBin_some e
    refine ⟨B, W, ts, tc, ρ, x, r, hl, ex, fun u hu => ⟨ρ, y, ⟨B, W, ts, tc, r, hl⟩, ey, fun v hv => ?_⟩⟩
    cases x <;> cases y <;> first | (cases ez; done) | skip
    · rename_i l i
      obtain ⟨a, vs, rfl, h1, h2⟩ := hu
      obtain ⟨w, ew, hw⟩ := h2.atI ez
      exact .inl ⟨a, vs, i, w, rfl, hv, r.sw.seq h1.sq, ew, q w hw⟩
    · rename_i l i
      obtain ⟨a, vs, rfl, h1, h2⟩ := hu
      obtain ⟨w, ew, hw⟩ := h2.atI ez
      exact .inr (.inl ⟨a, vs, i, w, rfl, hv, Same.seqT r.sw h1, ew, q w hw⟩)
theorem w_ifw {c : Expr} (hc : PT X c (pT X p)) (ha : PE X a (wS X f)) (hb : PE X b (wS X g)) : PE X (.IfExp c a b pos) (wS X (pIf p f g)) :=
  PEi (pe_ifExp hc ha hb) fun σ H Q ⟨B, W, ts, tc, ρ, d, r, hl, e, q⟩ => by
    unfold pIf at e
    split at e
    · rename_i ec
      exact ⟨ρ, true, ⟨B, W, ts, tc, r, hl⟩, ec, iteT ⟨B, W, ts, tc, ρ, d, r, hl, e, q⟩⟩
    · rename_i ec
      exact ⟨ρ, false, ⟨B, W, ts, tc, r, hl⟩, ec, iteF ⟨B, W, ts, tc, ρ, d, r, hl, e, q⟩⟩
    · cases e
def mW (f : Env → Option D) : Env → Option (Cell × Env) := fun ρ => match f ρ with
  | some d => some ((0, d), ρ)
  | none => none
theorem g_w (h : PE X e (wS X f)) : PE X e (gS X (mW f)) := PEi h fun σ H Q ⟨B, W, ts, tc, ρ, cl, ρ', r, hl, em, q⟩ => by
  unfold mW at em
  split at em
  · rename_i d ed
    cases em
    exact ⟨B, W, ts, tc, ρ, d, r, hl, ed, fun v hv => q W H v (Gr.refl B W) (r.push0 hv)⟩
  · cases em
/-! ### several -/
def mNil : Env → Option (List D × Env) := fun ρ => some ([], ρ)
def mCons (k : Nat) (m : Env → Option (Cell × Env)) (ms : Env → Option (List D × Env)) : Env → Option (List D × Env) := fun ρ => match m ρ with
  | some (c, ρ1) => if fit k c then (match ms ρ1 with
    | some (ds, ρ2) => some (c.2 :: ds, ρ2)
    | none => none) else none
  | none => none
theorem g_anil : PA X [] (gA X k mNil) := PAi pa_nil fun σ H Q ⟨B, W, ts, tc, ρ, ds, ρ', r, hl, e, q⟩ => by
  cases e
  exact q W H [] (Gr.refl B W) (RL.nil r)
theorem g_acons (ha : PE X a (gS X m)) (hr : PA X es (gA X k ms)) (hs : starEach (a :: es) X.env = (false, eval a X.env) :: starEach es X.env := by rfl) : PA X (a :: es) (gA X k (mCons k m ms)) :=
  PAi (pa_cons ha hr hs) fun σ H Q ⟨B, W, ts, tc, ρ, ds, ρ', r, hl, e, q⟩ => by
    unfold mCons at e
    split at e
    · rename_i c ρ1 em
      split at e
      · rename_i hf
        split at e
        · rename_i ds' ρ2 ems
          cases e
          refine ⟨B, W, ts, tc, ρ, c, ρ1, r, hl, em, fun W1 H1 v g1 r1 => ?_⟩
          obtain ⟨W2, g2, r2⟩ := R.fit (k := k) r1 hf
          refine ⟨B, W2, some v :: ts, some (k, c.2) :: tc, ρ1, ds', ρ', r2, by simp [hl], ems, fun W3 H3 vs g3 r3 => ?_⟩
          exact q W3 H3 (v :: vs) ((g1.trans g2).trans g3) (RL.cons r3)
        · cases e
      · cases e
    · cases e
def mLst (k : Nat) (ms : Env → Option (List D × Env)) : Env → Option (Cell × Env) := fun ρ => match ms ρ with
  | some (ds, ρ') => if ds.length ≤ sizeLine then some ((k + 1, .lst ds), ρ') else none
  | none => none
def mTup (k : Nat) (ms : Env → Option (List D × Env)) : Env → Option (Cell × Env) := fun ρ => match ms ρ with
  | some (ds, ρ') => if ds.length ≤ sizeLine then some ((k + 1, .tup ds), ρ') else none
  | none => none
theorem RL.length {K : PySem.W.Frag} {mg : Str → Option Value} {B W H : Hp} {ds : List D} {xs : List V} {vs : List (Option V)} {cs : List (Option Cell)} (r : RL K mg B W H k ds xs vs cs) : xs.length = ds.length := by
  obtain ⟨T, G, h2, h4, hT⟩ := r.ex
  exact h4.length
theorem g_lst (h : PA X es (gA X k ms)) : PE X (.List es pos) (gS X (mLst k ms)) := PEi (pe_lst h) fun σ H Q ⟨B, W, ts, tc, ρ, cl, ρ', r, hl, e, q⟩ => by
  unfold mLst at e
  split at e
  · rename_i ds ρ1 em
    split at e
    · rename_i hz
      cases e
      exact ⟨B, W, ts, tc, ρ, ds, _, r, hl, em, fun W1 H1 xs g1 r1 => ⟨by rw [RL.length r1]; exact hz, fun p np => q W1 _ _ g1 (RL.lst r1 np)⟩⟩
    · cases e
  · cases e
theorem g_tup {x1} (h : PA X es (gA X k ms)) : PE X (.Tuple es x1 pos) (gS X (mTup k ms)) := PEi (pe_tup h) fun σ H Q ⟨B, W, ts, tc, ρ, cl, ρ', r, hl, e, q⟩ => by
  unfold mTup at e
  split at e
  · rename_i ds ρ1 em
    split at e
    · rename_i hz
      cases e
      exact ⟨B, W, ts, tc, ρ, ds, _, r, hl, em, fun W1 H1 xs g1 r1 => ⟨by rw [RL.length r1]; exact hz, fun p np => q W1 _ _ g1 (RL.tup r1 np)⟩⟩
    · cases e
  · cases e
/-! ### operators whose sides do things -/
/-- both sides shared, then the operator on values -/
def mBin (o : D → D → Option D) (m n : Env → Option (Cell × Env)) : Env → Option (Cell × Env) := fun ρ => match m ρ with
  | some (c, ρ1) => (match n ρ1 with
    | some (c', ρ2) => (match o c.2 c'.2 with
      | some d => if d.sc then some ((0, d), ρ2) else none
      | none => none)
    | none => none)
  | none => none
theorem mBin_imp {o : D → D → Option D} {r : R2} (w : Op2 X o r) {Q : VK} (h : gS X (mBin o m n) σ H Q) : tOp r (gS X m) (gS X n) σ H Q := by
  obtain ⟨B, W, ts, tc, ρ, cl, ρ', r, hl, e, q⟩ := h
  unfold mBin at e
  split at e
  · rename_i c ρ1 em
    split at e
    · rename_i c' ρ2 en
      split at e
      · rename_i d ed
        split at e
        · rename_i hs
          cases e
          refine ⟨B, W, ts, tc, ρ, c, ρ1, r, hl, em, fun W1 H1 u g1 r1 => ?_⟩
          obtain ⟨W2, g2, r2, hu⟩ := R.pop r1
          refine ⟨B, W2, ts, tc, ρ1, c', ρ', r2, hl, en, fun W3 H3 v g3 r3 => ?_⟩
          obtain ⟨W4, g4, r4, hv⟩ := R.pop r3
          refine w H3 c.2 c'.2 d u v Q ed (Rep.mono (g3.sm.trans (g4.sm.trans r4.sw)) _ _ hu) (Rep.mono r4.sw _ _ hv) fun z hz => q W4 H3 z (((g1.trans g2).trans g3).trans g4) (r4.pushS hs hz)
        · cases e
      · cases e
    · cases e
  · cases e
theorem g_op {op : Operator} {o : D → D → Option D} {r : R2} (ho : OpR X (binaryOp op) r) (w : Op2 X o r) (ha : PE X a (gS X m)) (hb : PE X b (gS X n)) : PE X (.BinOp a op b pos) (gS X (mBin o m n)) :=
  PEi (pe_op ho ha hb) fun σ H Q h => mBin_imp w h
theorem g_cmp {op : CmpOp} {o : D → D → Option D} {r : R2} (ho : OpR X (compareOp op) r) (w : Op2 X o r) (ha : PE X a (gS X m)) (hb : PE X b (gS X n)) (hm : behindInMarks op b = false) : PE X (.Compare a [op] [b] pos) (gS X (mBin o m n)) :=
  PEi (pe_cmpR ho ha hb hm) fun σ H Q h => mBin_imp w h
/-- an item of what has just been made, a scalar or a shared one -/
def mIx (m n : Env → Option (Cell × Env)) : Env → Option (Cell × Env) := fun ρ => match m ρ with
  | some (c, ρ1) => (match n ρ1 with
    | some (c', ρ2) => (match dIxL c.2 c'.2 with
      | some d => some ((0, d), ρ2)
      | none => none)
    | none => none)
  | none => none
theorem g_ix (ha : PE X a (gS X m)) (hb : PE X b (gS X n)) (hs : PlainIx b) : PE X (.Subscript a b pos) (gS X (mIx m n)) :=
  PEi (pe_ix ix_seq ha hb hs) fun σ H Q ⟨B, W, ts, tc, ρ, cl, ρ', r, hl, e, q⟩ => by
    unfold mIx at e
    split at e
    · rename_i c ρ1 em
      split at e
      · rename_i c' ρ2 en
        split at e
        · rename_i d ed
          cases e
          refine ⟨B, W, ts, tc, ρ, c, ρ1, r, hl, em, fun W1 H1 u g1 r1 => ?_⟩
          obtain ⟨k0, x⟩ := c
          obtain ⟨W2, g2, r2, hu⟩ := R.pop r1
          refine ⟨B, W2, ts, tc, ρ1, c', ρ', r2, hl, en, fun W3 H3 v g3 r3 => ?_⟩
          obtain ⟨k1, y⟩ := c'
          obtain ⟨W4, g4, r4, hv⟩ := R.pop r3
          have hu' := Rep.mono (g3.sm.trans g4.sm) _ _ hu
          have gg := (((g1.trans g2).trans g3).trans g4)
          cases x <;> cases y <;> first | (cases ed; done) | skip
          · rename_i l i
            obtain ⟨a, vs, rfl, h1, h2⟩ := hu'
            obtain ⟨w, ew, hw⟩ := h2.atI ed
            exact .inl ⟨a, vs, i, w, rfl, hv, r4.sw.seq h1.sq, ew, q W4 H3 w gg (r4.push0 hw)⟩
          · rename_i l i
            obtain ⟨a, vs, rfl, h1, h2⟩ := hu'
            obtain ⟨w, ew, hw⟩ := h2.atI ed
            exact .inr (.inl ⟨a, vs, i, w, rfl, hv, Same.seqT r4.sw h1, ew, q W4 H3 w gg (r4.push0 hw)⟩)
        · cases e
      · cases e
    · cases e
def mUn (o : D → Option D) (m : Env → Option (Cell × Env)) : Env → Option (Cell × Env) := fun ρ => match m ρ with
  | some (c, ρ1) => (match o c.2 with
    | some d => if d.sc then some ((0, d), ρ1) else none
    | none => none)
  | none => none
theorem g_un {op : UnaryOp} {o : D → Option D} {r : V → Hp → VK → Prop} (ho : UnR X (unaryOp op) r) (w : Op1 X o r) (ha : PE X a (gS X m)) : PE X (.UnaryOp op a pos) (gS X (mUn o m)) :=
  PEi (pe_un ho ha) fun σ H Q ⟨B, W, ts, tc, ρ, cl, ρ', r, hl, e, q⟩ => by
    unfold mUn at e
    split at e
    · rename_i c ρ1 em
      split at e
      · rename_i d ed
        split at e
        · rename_i hs
          cases e
          refine ⟨B, W, ts, tc, ρ, c, ρ', r, hl, em, fun W1 H1 u g1 r1 => ?_⟩
          obtain ⟨W2, g2, r2, hu⟩ := R.pop r1
          exact w H1 c.2 d u Q ed (Rep.mono r2.sw _ _ hu) fun z hz => q W2 H1 z (g1.trans g2) (r2.pushS hs hz)
        · cases e
      · cases e
    · cases e
/-! ### tests -/
def mtP (p : Env → Option Bool) : Env → Option (Bool × Env) := fun ρ => match p ρ with
  | some b => some (b, ρ)
  | none => none
theorem gt_p (h : PT X e (pT X p)) : PT X e (gT X (mtP p)) := PTi h fun σ H Q ⟨B, W, ts, tc, ρ, cl, ρ', r, hl, em, q⟩ => by
  unfold mtP at em
  split at em
  · rename_i d ed
    cases em
    exact ⟨ρ, _, ⟨B, W, ts, tc, r, hl⟩, ed, q W H (Gr.refl B W) r⟩
  · cases em
def mtV (m : Env → Option (Cell × Env)) : Env → Option (Bool × Env) := fun ρ => match m ρ with
  | some ((_, .bl b), ρ1) => some (b, ρ1)
  | _ => none
theorem mtV_some {b : Bool} {ρ' : Env} (h : mtV m ρ = some (b, ρ')) : ∃ k, m ρ = some ((k, .bl b), ρ') := by
  unfold mtV at h
  split at h
  · rename_i e; cases h; exact ⟨_, e⟩
  · cases h
theorem gt_val (ha : PE X a (gS X m)) (he : ∀ whole, isTrue a X.env whole = (do let v ← whole; standAt a.pos; holding [v] (truthy v)) := by intro _; rfl) : PT X a (gT X (mtV m)) :=
  PTi (pt_val ha he) fun σ H Q ⟨B, W, ts, tc, ρ, cl, ρ', r, hl, em, q⟩ => by
    obtain ⟨k, e⟩ := mtV_some em
    refine ⟨B, W, ts, tc, ρ, _, ρ', r, hl, e, fun W1 H1 v g1 r1 => ?_⟩
    obtain ⟨W2, g2, r2, hu⟩ := R.pop r1
    exact ⟨cl, hu, q W2 H1 (g1.trans g2) r2⟩
def mtTr (m : Env → Option (Cell × Env)) : Env → Option (Bool × Env) := fun ρ => match m ρ with
  | some (c, ρ1) => (match dTruth c.2 with
    | some b => some (b, ρ1)
    | none => none)
  | none => none
theorem gt_truth (ha : PE X a (gS X m)) (he : ∀ whole, isTrue a X.env whole = (do let v ← whole; standAt a.pos; holding [v] (truthy v)) := by intro _; rfl) : PT X a (gT X (mtTr m)) :=
  PTi (pt_truth ha he) fun σ H Q ⟨B, W, ts, tc, ρ, cl, ρ', r, hl, em, q⟩ => by
    unfold mtTr at em
    split at em
    · rename_i c ρ1 e
      split at em
      · rename_i b eb
        cases em
        refine ⟨B, W, ts, tc, ρ, _, _, r, hl, e, fun W1 H1 v g1 r1 => ?_⟩
        obtain ⟨W2, g2, r2, hu⟩ := R.pop r1
        exact ⟨cl, dTruth_ok (Rep.mono r2.sw _ _ hu) eb, q W2 H1 (g1.trans g2) r2⟩
      · cases em
    · cases em
theorem gt_cmp {op : CmpOp} {o : D → D → Option D} {r : R2} (ho : OpR X (compareOp op) r) (w : Op2 X o r) (ha : PE X a (gS X m)) (hb : PE X b (gS X n)) (hm : behindInMarks op b = false) : PT X (.Compare a [op] [b] pos) (gT X (mtV (mBin o m n))) :=
  PTi (pt_cmpR ho ha hb hm) fun σ H Q ⟨B, W, ts, tc, ρ, cl, ρ', r, hl, em, q⟩ => by
    obtain ⟨k, e⟩ := mtV_some em
    refine mBin_imp w ⟨B, W, ts, tc, ρ, _, ρ', r, hl, e, fun W1 H1 v g1 r1 => ?_⟩
    obtain ⟨W2, g2, r2, hu⟩ := R.pop r1
    exact ⟨cl, hu, q W2 H1 (g1.trans g2) r2⟩
def mtAnd (m n : Env → Option (Bool × Env)) : Env → Option (Bool × Env) := fun ρ => match m ρ with
  | some (true, ρ1) => n ρ1
  | some (false, ρ1) => some (false, ρ1)
  | none => none
def mtOr (m n : Env → Option (Bool × Env)) : Env → Option (Bool × Env) := fun ρ => match m ρ with
  | some (false, ρ1) => n ρ1
  | some (true, ρ1) => some (true, ρ1)
  | none => none
def mtNot (m : Env → Option (Bool × Env)) : Env → Option (Bool × Env) := fun ρ => match m ρ with
  | some (b, ρ1) => some (!b, ρ1)
  | none => none
variable {u v : Env → Option (Bool × Env)} {rest : List Expr}
theorem gt_and1 (ha : PT X a (gT X u)) : PW X (.BoolOp .And [a] pos) (gT X u) := pw_and1 ha
theorem gt_or1 (ha : PT X a (gT X u)) : PW X (.BoolOp .Or [a] pos) (gT X u) := pw_or1 ha
theorem gt_and (ha : PT X a (gT X u)) (hb : PW X (.BoolOp .And (b :: rest) pos) (gT X v)) : PW X (.BoolOp .And (a :: b :: rest) pos) (gT X (mtAnd u v)) :=
  PWi (pw_and ha hb) fun σ H Q ⟨B, W, ts, tc, ρ, cl, ρ', r, hl, em, q⟩ => by
    unfold mtAnd at em
    split at em
    · rename_i ρ1 e; exact ⟨B, W, ts, tc, ρ, true, ρ1, r, hl, e, fun W1 H1 g1 r1 => iteT ⟨B, W1, ts, tc, ρ1, cl, ρ', r1, hl, em, fun W2 H2 g2 r2 => q W2 H2 (g1.trans g2) r2⟩⟩
    · rename_i ρ1 e; cases em; exact ⟨B, W, ts, tc, ρ, false, _, r, hl, e, fun W1 H1 g1 r1 => iteF (q W1 H1 g1 r1)⟩
    · cases em
theorem gt_or (ha : PT X a (gT X u)) (hb : PW X (.BoolOp .Or (b :: rest) pos) (gT X v)) : PW X (.BoolOp .Or (a :: b :: rest) pos) (gT X (mtOr u v)) :=
  PWi (pw_or ha hb) fun σ H Q ⟨B, W, ts, tc, ρ, cl, ρ', r, hl, em, q⟩ => by
    unfold mtOr at em
    split at em
    · rename_i ρ1 e; exact ⟨B, W, ts, tc, ρ, false, ρ1, r, hl, e, fun W1 H1 g1 r1 => iteF ⟨B, W1, ts, tc, ρ1, cl, ρ', r1, hl, em, fun W2 H2 g2 r2 => q W2 H2 (g1.trans g2) r2⟩⟩
    · rename_i ρ1 e; cases em; exact ⟨B, W, ts, tc, ρ, true, _, r, hl, e, fun W1 H1 g1 r1 => iteT (q W1 H1 g1 r1)⟩
    · cases em
theorem gt_not (ha : PT X a (gT X u)) : PT X (.UnaryOp .Not a pos) (gT X (mtNot u)) :=
  PTi (pt_not ha) fun σ H Q ⟨B, W, ts, tc, ρ, cl, ρ', r, hl, em, q⟩ => by
    unfold mtNot at em
    split at em
    · rename_i b ρ1 e; cases em; exact ⟨B, W, ts, tc, ρ, _, _, r, hl, e, q⟩
    · cases em
/-! ### conditional expressions, and, or as values -/
def mIf (t : Env → Option (Bool × Env)) (m n : Env → Option (Cell × Env)) : Env → Option (Cell × Env) := fun ρ => match t ρ with
  | some (true, ρ1) => m ρ1
  | some (false, ρ1) => n ρ1
  | none => none
theorem g_if (hc : PT X c (gT X u)) (ha : PE X a (gS X m)) (hb : PE X b (gS X n)) : PE X (.IfExp c a b pos) (gS X (mIf u m n)) :=
  PEi (pe_ifExp hc ha hb) fun σ H Q ⟨B, W, ts, tc, ρ, cl, ρ', r, hl, em, q⟩ => by
    unfold mIf at em
    split at em
    · rename_i ρ1 e; exact ⟨B, W, ts, tc, ρ, true, ρ1, r, hl, e, fun W1 H1 g1 r1 => iteT ⟨B, W1, ts, tc, ρ1, cl, ρ', r1, hl, em, fun W2 H2 v g2 r2 => q W2 H2 v (g1.trans g2) r2⟩⟩
    · rename_i ρ1 e; exact ⟨B, W, ts, tc, ρ, false, ρ1, r, hl, e, fun W1 H1 g1 r1 => iteF ⟨B, W1, ts, tc, ρ1, cl, ρ', r1, hl, em, fun W2 H2 v g2 r2 => q W2 H2 v (g1.trans g2) r2⟩⟩
    · cases em
def mAnd (m n : Env → Option (Cell × Env)) : Env → Option (Cell × Env) := fun ρ => match m ρ with
  | some ((_, .bl true), ρ1) => n ρ1
  | some ((_, .bl false), ρ1) => some ((0, .bl false), ρ1)
  | _ => none
def mOr (m n : Env → Option (Cell × Env)) : Env → Option (Cell × Env) := fun ρ => match m ρ with
  | some ((_, .bl false), ρ1) => n ρ1
  | some ((_, .bl true), ρ1) => some ((0, .bl true), ρ1)
  | _ => none
theorem g_and (ha : PE X a (gS X m)) (hb : PE X (.BoolOp .And (b :: rest) pos) (gS X n)) : PE X (.BoolOp .And (a :: b :: rest) pos) (gS X (mAnd m n)) :=
  PEi (pe_and ha hb) fun σ H Q ⟨B, W, ts, tc, ρ, cl, ρ', r, hl, em, q⟩ => by
    unfold mAnd at em
    split at em
    · rename_i k ρ1 e
      refine ⟨B, W, ts, tc, ρ, _, ρ1, r, hl, e, fun W1 H1 v g1 r1 => ?_⟩
      obtain ⟨W2, g2, r2, hu⟩ := R.pop r1
      exact ⟨true, hu, iteT ⟨B, W2, ts, tc, ρ1, cl, ρ', r2, hl, em, fun W3 H3 v g3 r3 => q W3 H3 v ((g1.trans g2).trans g3) r3⟩⟩
    · rename_i k ρ1 e
      cases em
      refine ⟨B, W, ts, tc, ρ, _, _, r, hl, e, fun W1 H1 v g1 r1 => ?_⟩
      obtain ⟨W2, g2, r2, hu⟩ := R.pop r1
      exact ⟨false, hu, iteF (q W2 H1 _ (g1.trans g2) (r2.push0 rfl))⟩
    · cases em
theorem g_or (ha : PE X a (gS X m)) (hb : PE X (.BoolOp .Or (b :: rest) pos) (gS X n)) : PE X (.BoolOp .Or (a :: b :: rest) pos) (gS X (mOr m n)) :=
  PEi (pe_or ha hb) fun σ H Q ⟨B, W, ts, tc, ρ, cl, ρ', r, hl, em, q⟩ => by
    unfold mOr at em
    split at em
    · rename_i k ρ1 e
      refine ⟨B, W, ts, tc, ρ, _, ρ1, r, hl, e, fun W1 H1 v g1 r1 => ?_⟩
      obtain ⟨W2, g2, r2, hu⟩ := R.pop r1
      exact ⟨false, hu, iteF ⟨B, W2, ts, tc, ρ1, cl, ρ', r2, hl, em, fun W3 H3 v g3 r3 => q W3 H3 v ((g1.trans g2).trans g3) r3⟩⟩
    · rename_i k ρ1 e
      cases em
      refine ⟨B, W, ts, tc, ρ, _, _, r, hl, e, fun W1 H1 v g1 r1 => ?_⟩
      obtain ⟨W2, g2, r2, hu⟩ := R.pop r1
      exact ⟨true, hu, iteT (q W2 H1 _ (g1.trans g2) (r2.push0 rfl))⟩
    · cases em
theorem g_one {op} (h : PE X a (gS X m)) : PE X (.BoolOp op [a] pos) (gS X m) := pe_one h
theorem g_not (ha : PE X a (gS X m)) : PE X (.UnaryOp .Not a pos) (gS X (mUn dNot m)) :=
  PEi (pe_not ha) fun σ H Q ⟨B, W, ts, tc, ρ, cl, ρ', r, hl, e, q⟩ => by
    unfold mUn at e
    split at e
    · rename_i c ρ1 em
      obtain ⟨k0, x⟩ := c
      cases x <;> first | (cases e; done) | skip
      rename_i b
      have e' : some (((0, D.bl (!b)) : Cell), ρ1) = some (cl, ρ') := e
      cases e'
      refine ⟨B, W, ts, tc, ρ, _, ρ', r, hl, em, fun W1 H1 u g1 r1 => ?_⟩
      obtain ⟨W2, g2, r2, hu⟩ := R.pop r1
      exact ⟨b, hu, q W2 H1 _ (g1.trans g2) (r2.push0 rfl)⟩
    · cases e
end
end Mn

namespace Mn
open PySem PySem.Spec PyProof.Rows L2

/-! ### statements -/
/-- how a statement ends -/
inductive Out where
  | nx (ρ : Env) | rt (c : Cell) (ρ : Env) | bk (ρ : Env) | ct (ρ : Env)
/-- the slots pr hold what they held -/
def Pr (pr : List Nat) (σ σ' : L2.St) : Prop := ∀ i ∈ pr, σ'[i]? = σ[i]?
theorem Pr.refl {pr : List Nat} {σ : L2.St} : Pr pr σ σ := fun _ _ => rfl
theorem Pr.trans {pr : List Nat} {σ σ1 σ2 : L2.St} (a : Pr pr σ σ1) (b : Pr pr σ1 σ2) : Pr pr σ σ2 := fun i h => (b i h).trans (a i h)
theorem Pr.set {pr : List Nat} {σ σ1 : L2.St} (a : Pr pr σ σ1) {i : Nat} {v : Option V} (h : i ∉ pr) : Pr pr σ (σ1.set i v) := fun j hj => by
  rw [List.getElem?_set_ne (fun e => h (by rw [e]; exact hj))]; exact a j hj
def After (X : Cx) (pr : List Nat) (B W : Hp) (σ : L2.St) (Dn : Ends) : Out → Prop
  | .nx ρ' => ∀ W' H' σ', Gr B W W' → R X.K X.mg B W' H' σ' ρ' → Pr pr σ σ' → Dn.nx σ' H'
  | .rt c ρ' => ∀ W' H' σ' v, Gr B W W' → R X.K X.mg B W' H' (some v :: σ') (some c :: ρ') → Pr pr σ σ' → Dn.rt v H'
  | .bk ρ' => ∀ W' H' σ', Gr B W W' → R X.K X.mg B W' H' σ' ρ' → Pr pr σ σ' → Dn.bk σ' H'
  | .ct ρ' => ∀ W' H' σ', Gr B W W' → R X.K X.mg B W' H' σ' ρ' → Pr pr σ σ' → Dn.ct σ' H'
def sS (X : Cx) (pr : List Nat) (m : Env → Option Out) : TS := fun Dn σ H => ∃ (B W : Hp) (ρ : Env) (o : Out), R X.K X.mg B W H σ ρ ∧ m ρ = some o ∧ After X pr B W σ Dn o
theorem After.later {X : Cx} {pr : List Nat} {B W W1 : Hp} {σ σ1 : L2.St} {Dn : Ends} {o : Out} (h : After X pr B W σ Dn o) (g : Gr B W W1) (p : Pr pr σ σ1) : After X pr B W1 σ1 Dn o := by
  cases o with
  | nx ρ' => exact fun W' H' σ' g' r' p' => h W' H' σ' (g.trans g') r' (p.trans p')
  | rt c ρ' => exact fun W' H' σ' v g' r' p' => h W' H' σ' v (g.trans g') r' (p.trans p')
  | bk ρ' => exact fun W' H' σ' g' r' p' => h W' H' σ' (g.trans g') r' (p.trans p')
  | ct ρ' => exact fun W' H' σ' g' r' p' => h W' H' σ' (g.trans g') r' (p.trans p')
/-- other ends, as wished for -/
theorem After.ends {X : Cx} {pr : List Nat} {B W : Hp} {σ : L2.St} {Dn Dn' : Ends} {o : Out} (h : After X pr B W σ Dn o) (h1 : ∀ σ H, Dn.nx σ H → Dn'.nx σ H) (h2 : ∀ v H, Dn.rt v H → Dn'.rt v H) (h3 : ∀ σ H, Dn.bk σ H → Dn'.bk σ H) (h4 : ∀ σ H, Dn.ct σ H → Dn'.ct σ H) : After X pr B W σ Dn' o := by
  cases o with
  | nx ρ' => exact fun W' H' σ' g' r' p' => h1 _ _ (h W' H' σ' g' r' p')
  | rt c ρ' => exact fun W' H' σ' v g' r' p' => h2 _ _ (h W' H' σ' v g' r' p')
  | bk ρ' => exact fun W' H' σ' g' r' p' => h3 _ _ (h W' H' σ' g' r' p')
  | ct ρ' => exact fun W' H' σ' g' r' p' => h4 _ _ (h W' H' σ' g' r' p')

section
variable {X : Cx} {pr : List Nat} {st : Stmt} {sts : List Stmt} {m n : Env → Option Out} {e a b : Expr} {x : Env → Option (Cell × Env)} {t : Env → Option (Bool × Env)} {f g : Env → Option D} {pos : Pos}
def sNx : Env → Option Out := fun ρ => some (.nx ρ)
def sSeq (m n : Env → Option Out) : Env → Option Out := fun ρ => match m ρ with
  | some (.nx ρ1) => n ρ1
  | o => o
theorem s_nil : PSs X [] (sS X pr sNx) := PSsi pss_nil fun Dn σ H ⟨B, W, ρ, o, r, e, q⟩ => by
  cases e
  exact q W H σ (Gr.refl B W) r Pr.refl
theorem s_cons (h1 : PS X st (sS X pr m)) (h2 : PSs X sts (sS X pr n)) : PSs X (st :: sts) (sS X pr (sSeq m n)) := PSsi (pss_cons h1 h2) fun Dn σ H ⟨B, W, ρ, o, r, e, q⟩ => by
  unfold sSeq at e
  split at e
  · rename_i ρ1 em
    exact ⟨B, W, ρ, _, r, em, fun W' H' σ' g' r' p' => ⟨B, W', ρ1, o, r', e, q.later g' p'⟩⟩
  · rename_i hn
    refine ⟨B, W, ρ, o, r, e, ?_⟩
    cases o with
    | nx ρ' => exact absurd e (hn ρ')
    | rt c ρ' => exact q
    | bk ρ' => exact q
    | ct ρ' => exact q
theorem s_one (h1 : PS X st (sS X pr m)) : PSs X [st] (sS X pr m) := pss_one h1
theorem s_pass : PS X (.Pass pos) (sS X pr sNx) := PSi ps_pass fun Dn σ H ⟨B, W, ρ, o, r, e, q⟩ => by
  cases e
  exact q W H σ (Gr.refl B W) r Pr.refl
def sBk : Env → Option Out := fun ρ => some (.bk ρ)
def sCt : Env → Option Out := fun ρ => some (.ct ρ)
theorem s_bk : PS X (.Break pos) (sS X pr sBk) := PSi ps_break fun Dn σ H ⟨B, W, ρ, o, r, e, q⟩ => by
  cases e
  exact q W H σ (Gr.refl B W) r Pr.refl
theorem s_ct : PS X (.Continue pos) (sS X pr sCt) := PSi ps_continue fun Dn σ H ⟨B, W, ρ, o, r, e, q⟩ => by
  cases e
  exact q W H σ (Gr.refl B W) r Pr.refl
/-- what is never come to -/
def sNo : Env → Option Out := fun _ => none
theorem s_no : PS X st (sS X pr sNo) := PSi ps_never fun Dn σ H ⟨B, W, ρ, o, r, e, q⟩ => by cases e
theorem ss_no : PSs X sts (sS X pr sNo) := PSsi pss_never fun Dn σ H ⟨B, W, ρ, o, r, e, q⟩ => by cases e
theorem s_doc {y j pos'} : PS X (.Expr (.Constant (.str y) j pos) pos') (sS X pr sNx) := PSi ps_doc fun Dn σ H ⟨B, W, ρ, o, r, e, q⟩ => by
  cases e
  exact q W H σ (Gr.refl B W) r Pr.refl
def sExp (x : Env → Option (Cell × Env)) : Env → Option Out := fun ρ => match x ρ with
  | some (_, ρ1) => some (.nx ρ1)
  | none => none
theorem s_exp (he : PE X e (gS X x)) (hs : swapsWith e none pos.line X.env = pure false := by rfl) : PS X (.Expr e pos) (sS X pr (sExp x)) := PSi (ps_expr he hs) fun Dn σ H ⟨B, W, ρ, o, r, em, q⟩ => by
  unfold sExp at em
  split at em
  · rename_i c ρ1 ex
    cases em
    exact ⟨B, W, [], [], ρ, c, ρ1, r, rfl, ex, fun W1 H1 v g1 r1 => q W1 H1 σ g1 (R.drop r1) Pr.refl⟩
  · cases em
def sRet (x : Env → Option (Cell × Env)) : Env → Option Out := fun ρ => match x ρ with
  | some (c, ρ1) => some (.rt c ρ1)
  | none => none
theorem s_ret (he : PE X e (gS X x)) : PS X (.Return (some e) pos) (sS X pr (sRet x)) := PSi (ps_ret he) fun Dn σ H ⟨B, W, ρ, o, r, em, q⟩ => by
  unfold sRet at em
  split at em
  · rename_i c ρ1 ex
    cases em
    exact ⟨B, W, [], [], ρ, c, ρ1, r, rfl, ex, fun W1 H1 v g1 r1 => q W1 H1 σ v g1 r1 Pr.refl⟩
  · cases em
def sRetN : Env → Option Out := fun ρ => some (.rt (0, .non) ρ)
theorem s_retN : PS X (.Return none pos) (sS X pr sRetN) := PSi ps_retN fun Dn σ H ⟨B, W, ρ, o, r, em, q⟩ => by
  cases em
  exact q W H σ .non (Gr.refl B W) (r.push0 rfl) Pr.refl
def sIf (t : Env → Option (Bool × Env)) (m n : Env → Option Out) : Env → Option Out := fun ρ => match t ρ with
  | some (true, ρ1) => m ρ1
  | some (false, ρ1) => n ρ1
  | none => none
theorem s_if {c : Expr} {as bs : List Stmt} (hc : PT X c (gT X t)) (ha : PSs X as (sS X pr m)) (hb : PSs X bs (sS X pr n)) : PS X (.If c as bs pos) (sS X pr (sIf t m n)) := PSi (ps_if hc ha hb) fun Dn σ H ⟨B, W, ρ, o, r, em, q⟩ => by
  unfold sIf at em
  split at em
  · rename_i ρ1 ex
    exact ⟨B, W, [], [], ρ, true, ρ1, r, rfl, ex, fun W1 H1 g1 r1 => iteT ⟨B, W1, ρ1, o, r1, em, q.later g1 Pr.refl⟩⟩
  · rename_i ρ1 ex
    exact ⟨B, W, [], [], ρ, false, ρ1, r, rfl, ex, fun W1 H1 g1 r1 => iteF ⟨B, W1, ρ1, o, r1, em, q.later g1 Pr.refl⟩⟩
  · cases em
/-! ### stores -/
def sAsg (i : Nat) (x : Env → Option (Cell × Env)) : Env → Option Out := fun ρ => match x ρ with
  | some (c, ρ1) => some (.nx (ρ1.set i (some c)))
  | none => none
theorem asg_imp {i : Nat} (hi : i ∉ pr) {Dn : Ends} {σ : L2.St} {H : Hp} (h : sS X pr (sAsg i x) Dn σ H) : tAsg (gS X x) (gName i) Dn σ H := by
  obtain ⟨B, W, ρ, o, r, em, q⟩ := h
  unfold sAsg at em
  split at em
  · rename_i c ρ1 ex
    cases em
    exact ⟨B, W, [], [], ρ, c, ρ1, r, rfl, ex, fun W1 H1 v g1 r1 => q W1 H1 _ g1 (R.move r1 i) (Pr.refl.set hi)⟩
  · cases em
theorem s_asg {i : Nat} {y : Str} {pos' : Pos} (hN : X.N.Nodup) (hi : X.N[i]? = some y) (hx : Loc X.env.scope y) (hp : i ∉ pr) (he : PE X e (gS X x)) (hs : swapsWith e (some (.Name y pos')) pos.line X.env = pure false := by rfl)
    (hf : X.fn y = true ∨ X.env.scope.names.lookup y = some .local := by first | exact .inl rfl | exact .inr rfl | assumption) : PS X (.Assign [.Name y pos'] e pos) (sS X pr (sAsg i x)) :=
  PSi (ps_set hN hi hx he hs hf) fun Dn σ H h => asg_imp hp h
def sAug (i : Nat) (o : D → D → Option D) (x : Env → Option (Cell × Env)) : Env → Option Out := fun ρ => match ρ[i]? with
  | some (some c0) => (match x ρ with
    | some (c, ρ1) => (match o c0.2 c.2 with
      | some d => if d.sc && c0.2.sc then some (.nx (ρ1.set i (some (0, d)))) else none
      | none => none)
    | none => none)
  | _ => none
/-- i op= e, of ints -/
theorem s_aug {i : Nat} {y : Str} {op : Operator} {o : D → D → Option D} {ti : TIp} {pos' : Pos} (hN : X.N.Nodup) (hi : X.N[i]? = some y) (hx : Loc X.env.scope y) (hp : i ∉ pr) (he : PE X e (gS X x)) (ho : PIp X op ti) (w : Op2 X o ti)
    (hf : X.fn y = true ∨ X.env.scope.names.lookup y = some .local := by first | exact .inl rfl | exact .inr rfl | assumption) : PS X (.AugAssign (.Name y pos') op e pos) (sS X pr (sAug i o x)) :=
  PSi (ps_aug hN hi hx he ho hf) fun Dn σ H ⟨B, W, ρ, o', r, em, q⟩ => by
    unfold sAug at em
    split at em
    · rename_i c0 ec
      split at em
      · rename_i c ρ1 ex
        split at em
        · rename_i d ed
          split at em
          · rename_i hs
            rw [Bool.and_eq_true] at hs
            cases em
            obtain ⟨v0, ev, hv⟩ := r.rep ec
            refine ⟨v0, ev, B, W, [], [], ρ, c, ρ1, r, rfl, ex, fun W1 H1 v g1 r1 => ?_⟩
            obtain ⟨W2, g2, r2, hu⟩ := R.pop r1
            refine w H1 c0.2 c.2 d v0 v _ ed (Rep.scalar hs.2 hv) (Rep.mono r2.sw _ _ hu) fun z hz => ?_
            exact q W2 H1 _ (g1.trans g2) (R.move (r2.pushS (k := 0) hs.1 hz) i) (Pr.refl.set hp)
          · cases em
        · cases em
      · cases em
    · cases em
theorem w_ipI {g : Int → Int → Int} : Op2 X (dInt2 (fun _ _ => true) g) (ipI g) := fun H x y z u v Q e hu hv q => by
  cases x <;> cases y <;> first | (cases e; done) | skip
  rename_i i j
  cases e
  exact ⟨i, j, hu, hv, q _ rfl⟩
/-- a, b = x, y: plain local names, stored from the right -/
def sPar (i j : Nat) (x y : Env → Option (Cell × Env)) : Env → Option Out := fun ρ => match x ρ with
  | some (c, ρ1) => (match y ρ1 with
    | some (c', ρ2) => some (.nx ((ρ2.set j (some c')).set i (some c)))
    | none => none)
  | none => none
end
end Mn

namespace Mn
open PySem PySem.Spec PyProof.Rows L2

/-! ### paths into a cell -/
def D.at : D → List Nat → Option D
  | d, [] => some d
  | .lst l, j :: js => match l[j]? with
    | some d => D.at d js
    | none => none
  | .tup l, j :: js => match l[j]? with
    | some d => D.at d js
    | none => none
  | _, _ :: _ => none
def D.put : D → List Nat → D → D
  | _, [], x => x
  | .lst l, j :: js, x => match l[j]? with
    | some d => .lst (l.set j (D.put d js x))
    | none => .lst l
  | .tup l, j :: js, x => match l[j]? with
    | some d => .tup (l.set j (D.put d js x))
    | none => .tup l
  | d, _ :: _, _ => d
inductive PathV (H : Hp) : V → List Nat → V → Prop where
  | nil {v : V} : PathV H v [] v
  | lst {a : Addr} {xs : List V} {j : Nat} {u w : V} {js : List Nat} : H a = some (.lst xs) → xs[j]? = some u → PathV H u js w → PathV H (.ref a) (j :: js) w
  | tup {a : Addr} {xs : List V} {j : Nat} {u w : V} {js : List Nat} : H a = some (.tup xs) → xs[j]? = some u → PathV H u js w → PathV H (.ref a) (j :: js) w
theorem PathV.snoc {H : Hp} {a : Addr} {xs : List V} {j : Nat} {u : V} (h : H a = some (.lst xs) ∨ H a = some (.tup xs)) (e : xs[j]? = some u) : ∀ {v : V} {js : List Nat}, PathV H v js (.ref a) → PathV H v (js ++ [j]) u
  | _, _, .nil => by
    rcases h with h | h
    · exact .lst h e .nil
    · exact .tup h e .nil
  | _, _, .lst h1 h2 h3 => .lst h1 h2 (PathV.snoc h e h3)
  | _, _, .tup h1 h2 h3 => .tup h1 h2 (PathV.snoc h e h3)
section
variable {K : PySem.W.Frag} {mg : Str → Option Value} {W W' H H' B : Hp} {vs : List (Option V)} {cs : List (Option Cell)} {v : V} {ov : Option V} {oc : Option Cell} {k k' : Nat} {d : D} {c : Cell}
theorem OwnL.focus {k : Nat} : ∀ {l : List D} {vs : List V} {G : Fp} {j : Nat} {d : D}, OwnL (Own K mg W H k) l vs G → l[j]? = some d →
    ∃ (v : V) (F G0 : Fp), vs[j]? = some v ∧ Own K mg W H k d v F ∧ (∀ b, G b = F b + G0 b) ∧
      ∀ (W' H' : Hp) (d' : D) (v' : V) (F' : Fp), Same W W' → (∀ a, G0 a ≠ 0 → H' a = H a) → Own K mg W' H' k d' v' F' → OwnL (Own K mg W' H' k) (l.set j d') (vs.set j v') (fun b => F' b + G0 b)
  | [], _, _, _, _, _, e => by simp at e
  | d :: ds, _, _, 0, x, h, e => by
    obtain ⟨v, r, F, G', rfl, h1, h2, h3⟩ := h
    cases (show some d = some x from e)
    exact ⟨v, F, G', rfl, h1, h3, fun W' H' d' v' F' s f ho => ⟨v', r, F', G', rfl, ho, h2.imp fun d _ v F hF hO => Own.mono s k d v F hO fun a ha => f a (by have := hF a; omega), fun _ => rfl⟩⟩
  | d :: ds, _, _, j + 1, x, h, e => by
    obtain ⟨v, r, F, G', rfl, h1, h2, h3⟩ := h
    obtain ⟨v0, F0, G0, e0, p1, p2, p3⟩ := OwnL.focus (j := j) (d := x) h2 (by simpa using e)
    exact ⟨v0, F0, fun b => F b + G0 b, by simpa using e0, p1, fun b => by have := h3 b; have := p2 b; show _ = F0 b + (F b + G0 b); omega,
      fun W' H' d' v' F' s f ho => ⟨v, r.set j v', F, _, rfl, Own.mono s k d v F h1 fun a ha => f a (by show F a + G0 a ≠ 0; omega), p3 W' H' d' v' F' s (fun a ha => f a (by show F a + G0 a ≠ 0; omega)) ho, fun b => by show F' b + (F b + G0 b) = F b + (F' b + G0 b); omega⟩⟩
/-- what stands at a path, looked at and put back as another -/
theorem Own.path : ∀ (js : List Nat) (k : Nat) (d d' : D) (v : V) (F : Fp), Own K mg W H (k + js.length) d v F → (∀ b, F b ≤ 1) → D.at d js = some d' →
    ∃ (w : V) (F1 F2 : Fp), PathV H v js w ∧ Own K mg W H k d' w F1 ∧ (∀ b, F b = F1 b + F2 b) ∧
      ∀ (W' H' : Hp) (d'' : D) (F' : Fp), Same W W' → (∀ a, F2 a ≠ 0 → H' a = H a) → Own K mg W' H' k d'' w F' → Own K mg W' H' (k + js.length) (D.put d js d'') v (fun b => F' b + F2 b)
  | [], k, d, d', v, F, h, _, e => by
    have e1 : some d = some d' := by cases d <;> exact e
    cases e1
    refine ⟨v, F, fun _ => 0, .nil, h, fun _ => rfl, fun W' H' d'' F' s f ho => ?_⟩
    have e2 : D.put d [] d'' = d'' := by cases d <;> rfl
    rw [e2]; exact ho
  | j :: js, k, d, d', v, F, h, hF, e => by
    have hk : k + (j :: js).length = (k + js.length) + 1 := by simp only [List.length_cons]; omega
    rw [hk] at h ⊢
    cases d with
    | lst l =>
      obtain ⟨a, vs, G, rfl, h1, h2, h3⟩ := h
      simp only [D.at] at e
      split at e
      · rename_i x ex
        obtain ⟨u, Fu, G0, eu, hu, hg, put⟩ := OwnL.focus h2 ex
        obtain ⟨w, F1, F2, p1, p2, p3, p4⟩ := Own.path js k x d' u Fu hu (fun b => by have := hF b; have := h3 b; have := hg b; omega) e
        refine ⟨w, F1, fun b => F2 b + ((if b = a then 1 else 0) + G0 b), .lst h1 eu p1, p2, fun b => by have := h3 b; have := hg b; have := p3 b; show F b = F1 b + (F2 b + ((if b = a then 1 else 0) + G0 b)); omega, fun W' H' d'' F' s f ho => ?_⟩
        have q := p4 W' H' d'' F' s (fun a' ha => f a' (by show F2 a' + ((if a' = a then 1 else 0) + G0 a') ≠ 0; omega)) ho
        have q2 := put W' H' _ u _ s (fun a' ha => f a' (by show F2 a' + ((if a' = a then 1 else 0) + G0 a') ≠ 0; omega)) q
        rw [set_self eu] at q2
        simp only [D.put, ex]
        exact ⟨a, vs, _, rfl, by rw [f a (by show F2 a + ((if a = a then 1 else 0) + G0 a) ≠ 0; rw [if_pos rfl]; omega)]; exact h1, q2, fun b => by show F' b + (F2 b + ((if b = a then 1 else 0) + G0 b)) = (if b = a then 1 else 0) + (F' b + F2 b + G0 b); omega⟩
      · cases e
    | tup l =>
      obtain ⟨a, vs, G, rfl, h1, h2, h3⟩ := h
      simp only [D.at] at e
      split at e
      · rename_i x ex
        obtain ⟨u, Fu, G0, eu, hu, hg, put⟩ := OwnL.focus h2 ex
        obtain ⟨w, F1, F2, p1, p2, p3, p4⟩ := Own.path js k x d' u Fu hu (fun b => by have := hF b; have := h3 b; have := hg b; omega) e
        refine ⟨w, F1, fun b => F2 b + ((if b = a then 1 else 0) + G0 b), .tup h1 eu p1, p2, fun b => by have := h3 b; have := hg b; have := p3 b; show F b = F1 b + (F2 b + ((if b = a then 1 else 0) + G0 b)); omega, fun W' H' d'' F' s f ho => ?_⟩
        have q := p4 W' H' d'' F' s (fun a' ha => f a' (by show F2 a' + ((if a' = a then 1 else 0) + G0 a') ≠ 0; omega)) ho
        have q2 := put W' H' _ u _ s (fun a' ha => f a' (by show F2 a' + ((if a' = a then 1 else 0) + G0 a') ≠ 0; omega)) q
        rw [set_self eu] at q2
        simp only [D.put, ex]
        exact ⟨a, vs, _, rfl, by rw [f a (by show F2 a + ((if a = a then 1 else 0) + G0 a) ≠ 0; rw [if_pos rfl]; omega)]; exact h1, q2, fun b => by show F' b + (F2 b + ((if b = a then 1 else 0) + G0 b)) = (if b = a then 1 else 0) + (F' b + F2 b + G0 b); omega⟩
      · cases e
    | non => cases e
    | bl _ => cases e
    | int _ => cases e
    | str _ => cases e
    | dct _ => cases e
    | gl _ => cases e
/-- .. of a slot -/
theorem Cells.path {T : Fp} (h : Cells K mg W H vs cs T) (hT : ∀ b, T b ≤ 1) {i : Nat} {js : List Nat} {d' : D} (e : cs[i]? = some (some (k + js.length, d))) (ed : D.at d js = some d') :
    ∃ (F1 G : Fp) (v w : V), vs[i]? = some (some v) ∧ PathV H v js w ∧ Own K mg W H k d' w F1 ∧ (∀ b, T b = F1 b + G b) ∧
      ∀ (W' H' : Hp) (d'' : D) (F' : Fp), Same W W' → (∀ a, G a ≠ 0 → H' a = H a) → Own K mg W' H' k d'' w F' → Cells K mg W' H' vs (cs.set i (some (k + js.length, D.put d js d''))) (fun b => F' b + G b) := by
  obtain ⟨ov, F, G, ev, ⟨u, eu, ho⟩, h3, put⟩ := h.focus e
  obtain ⟨w, F1, F2, p1, p2, p3, p4⟩ := Own.path js k d d' u F ho (fun b => by have := hT b; have := h3 b; omega) ed
  refine ⟨F1, fun b => F2 b + G b, u, w, by rw [ev, eu], p1, p2, fun b => by have := h3 b; have := p3 b; show T b = F1 b + (F2 b + G b); omega, fun W' H' d'' F' s f ho' => ?_⟩
  have c' := put W' H' (some u) (some (k + js.length, D.put d js d'')) _ s (fun a ha => f a (by show F2 a + G a ≠ 0; omega)) ⟨u, rfl, p4 W' H' d'' F' s (fun a ha => f a (by show F2 a + G a ≠ 0; omega)) ho'⟩
  rw [eu] at ev
  rw [set_self ev] at c'
  have e1 : (fun b => F' b + F2 b + G b) = fun b => F' b + (F2 b + G b) := by funext b; omega
  rwa [e1] at c'
theorem OwnL.snoc {P : D → V → Fp → Prop} {d : D} {v : V} {F : Fp} (hp : P d v F) : ∀ {l : List D} {vs : List V} {G : Fp}, OwnL P l vs G → OwnL P (l ++ [d]) (vs ++ [v]) (fun b => F b + G b)
  | [], _, _, h => by
    obtain ⟨rfl, h0⟩ := h
    exact ⟨v, [], F, fun _ => 0, rfl, hp, ⟨rfl, fun _ => rfl⟩, fun b => by show F b + _ = F b + 0; rw [h0 b]⟩
  | _ :: _, _, _, h => by
    obtain ⟨v1, r, F1, G1, rfl, h1, h2, h3⟩ := h
    exact ⟨v1, r ++ [v], F1, _, rfl, h1, OwnL.snoc hp h2, fun b => by show F b + _ = F1 b + (F b + G1 b); rw [h3 b]; omega⟩
/-- o[j] = the head, o a list at a path -/
theorem R.pathSet (r : R K mg B W H (some v :: vs) (some c :: cs)) {i j : Nat} {js : List Nat} {l : List D} (e : cs[i]? = some (some (k + 1 + js.length, d))) (ed : D.at d js = some (.lst l)) (hj : j < l.length) (hf : Mn.fit k c = true) :
    ∃ (W' : Hp) (v0 : V) (p : Addr) (xs : List V), vs[i]? = some (some v0) ∧ PathV H v0 js (.ref p) ∧ H p = some (.lst xs) ∧ xs.length = l.length ∧ Gr B W W' ∧ R K mg B W' (upd H p (.lst (xs.set j v))) vs (cs.set i (some (k + 1 + js.length, D.put d js (.lst (l.set j c.2))))) := by
  obtain ⟨W1, g1, r1⟩ := R.fit (k := k) r hf
  obtain ⟨T, ⟨Fh, Gt, ⟨hv, ehv, hown⟩, hcells, hsum⟩, hT⟩ := r1.ex
  cases ehv
  obtain ⟨F1, G, v0, w, ev, pv, ho, hs, put⟩ := Cells.path hcells (fun b => by have := (hT b).1; have := hsum b; omega) (k := k + 1) e ed
  obtain ⟨p, xs, G1, rfl, h1, h2, h3⟩ := ho
  obtain ⟨u, Fu, G0, eu, hu, hg, putL⟩ := OwnL.focus (j := j) (d := l[j]) h2 (by simp [hj])
  have tot : ∀ b, T b = Fh b + ((if b = p then 1 else 0) + (Fu b + G0 b) + G b) := fun b => by have := hsum b; have := hs b; have := h3 b; have := hg b; omega
  have hp : G p = 0 ∧ Fu p = 0 ∧ G0 p = 0 ∧ Fh p = 0 := by have := tot p; have := (hT p).1; rw [if_pos rfl] at *; omega
  have up : ∀ {a : Addr} {o : HO}, a ≠ p → upd H p o a = H a := fun h => upd_ne h
  have c' := put W1 (upd H p (.lst (xs.set j v))) (.lst (l.set j c.2)) (fun b => (if b = p then 1 else 0) + (Fh b + G0 b)) (Same.refl W1) (fun a ha => up fun z => by subst z; omega)
    ⟨p, xs.set j v, _, rfl, upd_same, putL W1 _ c.2 v Fh (Same.refl W1) (fun a ha => up fun z => by subst z; omega) (Own.mono (Same.refl W1) k _ v Fh hown fun a ha => up fun z => by subst z; omega), fun b => rfl⟩
  have nW : ∀ {b : Addr} {o : HO}, W1 b = some o → b ≠ p := fun {b o} q z => by
    subst z
    have := ((hT b).2 (by have := tot b; rw [if_pos rfl] at this; omega)).1
    rw [q] at this; cases this
  have nB : ∀ {b : Addr} {o : HO}, B b = some o → b ≠ p := fun {b o} q z => by
    subst z
    have := ((hT b).2 (by have := tot b; rw [if_pos rfl] at this; omega)).2
    rw [q] at this; cases this
  refine ⟨W1, v0, p, xs, ev, pv, h1, h2.length, g1, fun b o q => by rw [up (nW q)]; exact r1.sw b o q, fun b o q => by rw [up (nB q)]; exact r1.sb b o q, _, c', fun b => ?_⟩
  have := tot b
  have := (hT b).1
  exact ⟨by show (if b = p then 1 else 0) + (Fh b + G0 b) + G b ≤ 1; omega, fun hb => (hT b).2 (by have : (if b = p then 1 else 0) + (Fh b + G0 b) + G b ≠ 0 := hb; omega)⟩
/-- o.append(the head), o a list at a path -/
theorem R.pathApp (r : R K mg B W H (some v :: vs) (some c :: cs)) {i : Nat} {js : List Nat} {l : List D} (e : cs[i]? = some (some (k + 1 + js.length, d))) (ed : D.at d js = some (.lst l)) (hf : Mn.fit k c = true) :
    ∃ (W' : Hp) (v0 : V) (p : Addr) (xs : List V), vs[i]? = some (some v0) ∧ PathV H v0 js (.ref p) ∧ H p = some (.lst xs) ∧ xs.length = l.length ∧ Gr B W W' ∧ R K mg B W' (upd H p (.lst (xs ++ [v]))) vs (cs.set i (some (k + 1 + js.length, D.put d js (.lst (l ++ [c.2]))))) := by
  obtain ⟨W1, g1, r1⟩ := R.fit (k := k) r hf
  obtain ⟨T, ⟨Fh, Gt, ⟨hv, ehv, hown⟩, hcells, hsum⟩, hT⟩ := r1.ex
  cases ehv
  obtain ⟨F1, G, v0, w, ev, pv, ho, hs, put⟩ := Cells.path hcells (fun b => by have := (hT b).1; have := hsum b; omega) (k := k + 1) e ed
  obtain ⟨p, xs, G1, rfl, h1, h2, h3⟩ := ho
  have tot : ∀ b, T b = Fh b + ((if b = p then 1 else 0) + G1 b + G b) := fun b => by have := hsum b; have := hs b; have := h3 b; omega
  have hp : G p = 0 ∧ G1 p = 0 ∧ Fh p = 0 := by have := tot p; have := (hT p).1; rw [if_pos rfl] at *; omega
  have up : ∀ {a : Addr} {o : HO}, a ≠ p → upd H p o a = H a := fun h => upd_ne h
  have c' := put W1 (upd H p (.lst (xs ++ [v]))) (.lst (l ++ [c.2])) (fun b => (if b = p then 1 else 0) + (Fh b + G1 b)) (Same.refl W1) (fun a ha => up fun z => by subst z; omega)
    ⟨p, xs ++ [v], _, rfl, upd_same, OwnL.snoc (Own.mono (Same.refl W1) k _ v Fh hown fun a ha => up fun z => by subst z; omega) (h2.imp fun d _ v F hF hO => Own.mono (Same.refl W1) k d v F hO fun a ha => up fun z => by subst z; have := hF a; omega), fun b => rfl⟩
  have nW : ∀ {b : Addr} {o : HO}, W1 b = some o → b ≠ p := fun {b o} q z => by
    subst z
    have := ((hT b).2 (by have := tot b; rw [if_pos rfl] at this; omega)).1
    rw [q] at this; cases this
  have nB : ∀ {b : Addr} {o : HO}, B b = some o → b ≠ p := fun {b o} q z => by
    subst z
    have := ((hT b).2 (by have := tot b; rw [if_pos rfl] at this; omega)).2
    rw [q] at this; cases this
  refine ⟨W1, v0, p, xs, ev, pv, h1, h2.length, g1, fun b o q => by rw [up (nW q)]; exact r1.sw b o q, fun b o q => by rw [up (nB q)]; exact r1.sb b o q, _, c', fun b => ?_⟩
  have := tot b
  have := (hT b).1
  exact ⟨by show (if b = p then 1 else 0) + (Fh b + G1 b) + G b ≤ 1; omega, fun hb => (hT b).2 (by have : (if b = p then 1 else 0) + (Fh b + G1 b) + G b ≠ 0 := hb; omega)⟩
end
end Mn

namespace Mn
open PySem PySem.Spec PyProof.Rows L2
/-! ### places: a slot and a path, of owned levels -/
/-- the place's path from the slot i: the slot's cell owns more levels than the path has -/
def plAt (i : Nat) (fs : Env → Option (List Nat)) (ρ : Env) : Option (List Nat × Cell × D) := match ρ[i]?, fs ρ with
  | some (some c), some js => if js.length < c.1 then (match D.at c.2 js with | some d => some (js, c, d) | none => none) else none
  | _, _ => none
def plS (X : Cx) (i : Nat) (fs : Env → Option (List Nat)) : TE := fun σ H Q => ∃ ρ js c d, Sta X σ H ρ ∧ plAt i fs ρ = some (js, c, d) ∧ ∀ v w, σ[i]? = some (some v) → PathV H v js w → Q w H
section
variable {X : Cx} {a b c e : Expr} {es : List Expr} {f g : Env → Option D} {pos : Pos} {σ : L2.St} {H : Hp} {ρ : Env} {i : Nat} {fs : Env → Option (List Nat)} {x : Env → Option (Cell × Env)} {pr : List Nat}
theorem plAt_some {js : List Nat} {c : Cell} {d : D} (h : plAt i fs ρ = some (js, c, d)) : ρ[i]? = some (some c) ∧ fs ρ = some js ∧ js.length < c.1 ∧ D.at c.2 js = some d := by
  unfold plAt at h
  split at h
  · rename_i c' js' e1 e2
    split at h
    · rename_i hl
      split at h
      · rename_i d' ed
        cases h
        exact ⟨e1, e2, hl, ed⟩
      · cases h
    · cases h
  · cases h
def plNil : Env → Option (List Nat) := fun _ => some []
theorem pl_var (h : PE X e (tVar i)) : PE X e (plS X i plNil) := PEi h fun σ H Q ⟨ρ, js, c, d, s, ea, q⟩ => by
  obtain ⟨e1, e2, _, _⟩ := plAt_some ea
  cases e2
  obtain ⟨v, ev, _⟩ := s.var (i := i) (d := c.2) (by unfold pVar; rw [e1])
  exact ⟨v, ev, q v v ev .nil⟩
/-- one place further: the index by the length of what stands there -/
def plIx (i : Nat) (fs : Env → Option (List Nat)) (g : Env → Option D) : Env → Option (List Nat) := fun ρ => match plAt i fs ρ, g ρ with
  | some (js, _, .lst l), some (.int k) => (match ixN l.length k with | some j => some (js ++ [j]) | none => none)
  | some (js, _, .tup l), some (.int k) => (match ixN l.length k with | some j => some (js ++ [j]) | none => none)
  | _, _ => none
theorem ixN_lt {n : Nat} {k : Int} {j : Nat} (h : ixN n k = some j) : j < n := (ixN_seq h).2.1
theorem Sta.path (s : Sta X σ H ρ) {js : List Nat} {c : Cell} {d : D} (h : plAt i fs ρ = some (js, c, d)) : ∃ v w, σ[i]? = some (some v) ∧ PathV H v js w ∧ (∀ l, d = .lst l → ∃ p xs, w = .ref p ∧ H p = some (.lst xs) ∧ xs.length = l.length) ∧ (∀ l, d = .tup l → ∃ p xs, w = .ref p ∧ H p = some (.tup xs) ∧ xs.length = l.length) := by
  obtain ⟨e1, e2, hl, ed⟩ := plAt_some h
  obtain ⟨B, W, ts, tc, r, hlen⟩ := s
  obtain ⟨T, hc, hT⟩ := r.ex
  obtain ⟨m, hm⟩ : ∃ m, c.1 = m + 1 + js.length := ⟨c.1 - 1 - js.length, by omega⟩
  obtain ⟨k0, d0⟩ := c
  simp only at hm ed e1
  subst hm
  obtain ⟨F1, G, v, w, ev, pv, ho, _, _⟩ := Cells.path hc (fun b => (hT b).1) (i := tc.length + i) (k := m + 1) (js := js) (d := d0) (d' := d) (by rw [get_app]; exact e1) ed
  rw [← hlen, get_app] at ev
  refine ⟨v, w, ev, pv, fun l hd => ?_, fun l hd => ?_⟩
  · subst hd
    obtain ⟨p, xs, G1, rfl, h1, h2, _⟩ := ho
    exact ⟨p, xs, rfl, h1, h2.length⟩
  · subst hd
    obtain ⟨p, xs, G1, rfl, h1, h2, _⟩ := ho
    exact ⟨p, xs, rfl, h1, h2.length⟩
theorem PathV.uniq {H : Hp} : ∀ {v w w' : V} {js : List Nat}, PathV H v js w → PathV H v js w' → w = w'
  | _, _, _, _, .nil, .nil => rfl
  | _, _, _, _, .lst h1 h2 h3, .lst h1' h2' h3' => by
    rw [h1] at h1'; cases h1'
    rw [h2] at h2'; cases h2'
    exact PathV.uniq h3 h3'
  | _, _, _, _, .tup h1 h2 h3, .tup h1' h2' h3' => by
    rw [h1] at h1'; cases h1'
    rw [h2] at h2'; cases h2'
    exact PathV.uniq h3 h3'
  | _, _, _, _, .lst h1 _ _, .tup h1' _ _ => by rw [h1] at h1'; cases h1'
  | _, _, _, _, .tup h1 _ _, .lst h1' _ _ => by rw [h1] at h1'; cases h1'
theorem pl_ix (ha : PE X a (plS X i fs)) (hb : PE X b (pS X g)) (hs : PlainIx b) : PE X (.Subscript a b pos) (plS X i (plIx i fs g)) :=
  PEi (pe_ix ix_seq ha hb hs) fun σ H Q ⟨ρ, js, c, d, s, ea, q⟩ => by
    obtain ⟨e1, e2, hl, ed⟩ := plAt_some ea
    unfold plIx at e2
    split at e2
    · rename_i js0 c0 l k ep eg
      obtain ⟨e3, _, _, _⟩ := plAt_some ep
      split at e2
      · rename_i j ej
        cases e2
        obtain ⟨v, w, ev, pv, hL, _⟩ := s.path ep
        obtain ⟨p, xs, rfl, hp, hx⟩ := hL l rfl
        have hj : j < xs.length := by rw [hx]; exact ixN_lt ej
        refine ⟨ρ, js0, _, _, s, ep, fun v' w' ev' pv' => ⟨ρ, _, s, eg, fun u hu => ?_⟩⟩
        have e4 : v' = v := by rw [ev] at ev'; cases ev'; rfl
        subst e4
        cases PathV.uniq pv pv'
        exact .inl ⟨p, xs, k, xs[j], rfl, hu, SqL.of hp, by unfold atI; rw [hx, ej]; simp [hj], q _ _ ev (PathV.snoc (.inl hp) (by simp [hj]) pv)⟩
      · cases e2
    · rename_i js0 c0 l k ep eg
      obtain ⟨e3, _, _, _⟩ := plAt_some ep
      split at e2
      · rename_i j ej
        cases e2
        obtain ⟨v, w, ev, pv, _, hL⟩ := s.path ep
        obtain ⟨p, xs, rfl, hp, hx⟩ := hL l rfl
        have hj : j < xs.length := by rw [hx]; exact ixN_lt ej
        refine ⟨ρ, js0, _, _, s, ep, fun v' w' ev' pv' => ⟨ρ, _, s, eg, fun u hu => ?_⟩⟩
        have e4 : v' = v := by rw [ev] at ev'; cases ev'; rfl
        subst e4
        cases PathV.uniq pv pv'
        exact .inr (.inl ⟨p, xs, k, xs[j], rfl, hu, SqT.of hp, by unfold atI; rw [hx, ej]; simp [hj], q _ _ ev (PathV.snoc (.inr hp) (by simp [hj]) pv)⟩)
      · cases e2
    · cases e2
/-- o[j] = e -/
def sSet (i : Nat) (fs : Env → Option (List Nat)) (g : Env → Option D) (x : Env → Option (Cell × Env)) : Env → Option Out := fun ρ => match x ρ with
  | some (c, ρ1) => (match plAt i fs ρ1, g ρ1 with
    | some (js, c0, .lst l), some (.int k) => (match ixN l.length k with
      | some j => if fit (c0.1 - 1 - js.length) c then some (.nx (ρ1.set i (some (c0.1, D.put c0.2 js (.lst (l.set j c.2)))))) else none
      | none => none)
    | _, _ => none)
  | none => none
/-- readings under a value that is held -/
theorem Sta.held {B W H : Hp} {ts : List (Option V)} {tc : List (Option Cell)} (r : R X.K X.mg B W H (ts ++ σ) (tc ++ ρ)) (hl : ts.length = tc.length) : Sta X σ H ρ := ⟨B, W, ts, tc, r, hl⟩
theorem s_set (ho : PE X a (plS X i fs)) (hb : PE X b (pS X g)) (he : PE X e (gS X x)) {pos' : Pos}
    (hs : swapsWithSole [.Subscript a b pos] e pos'.line X.env = pure false := by rfl) (hw : swappedStores [.Subscript a b pos] e X.env = pure none := by rfl)
    (h1 : (assignEach [.Subscript a b pos] X.env).map (·.2) = [assign (.Subscript a b pos) X.env] := by rfl)
    (hsub : ∀ v, assign (.Subscript a b pos) X.env v = (do
      let ov ← holding [v] (eval a X.env)
      let iv ← holding [v, ov] (eval b X.env)
      standAt pos
      holding [v, ov, iv] (setItem ov iv v)
      release [v, ov, iv] []) := by intro _; rfl) : PS X (.Assign [.Subscript a b pos] e pos') (sS X pr (sSet i fs g x)) :=
  PSi (ps_asg he (pg_sub ho hb set_list hsub) hs hw h1) fun Dn σ H ⟨B, W, ρ, o, r, em, q⟩ => by
    unfold sSet at em
    split at em
    · rename_i c ρ1 ex
      split at em
      · rename_i js c0 l k ep eg
        split at em
        · rename_i j ej
          split at em
          · rename_i hf
            cases em
            obtain ⟨e1, e2, hlt, ed⟩ := plAt_some ep
            refine ⟨B, W, [], [], ρ, c, ρ1, r, rfl, ex, fun W1 H1 v g1 r1 => ?_⟩
            have s1 : Sta X σ H1 ρ1 := ⟨B, W1, [some v], [some c], r1, rfl⟩
            obtain ⟨m, hm⟩ : ∃ m, c0.1 = m + 1 + js.length := ⟨c0.1 - 1 - js.length, by omega⟩
            have hm2 : c0.1 - 1 - js.length = m := by omega
            rw [hm2] at hf
            obtain ⟨W2, v0, p, xs, ev, pv, hp, hx, g2, r2⟩ := R.pathSet (k := m) (d := c0.2) (js := js) r1 (i := i) (by rw [← hm]; exact e1) ed (ixN_lt ej) hf
            rw [← hm] at r2
            refine ⟨ρ1, js, c0, _, s1, ep, fun v' w' ev' pv' => ⟨ρ1, _, s1, eg, fun u hu => ?_⟩⟩
            have ev2 : σ[i]? = some (some v0) := ev
            have e4 : v' = v0 := by rw [ev2] at ev'; cases ev'; rfl
            subst e4
            cases PathV.uniq pv pv'
            exact ⟨p, xs, k, j, rfl, hu, hp, by rw [hx]; exact ej, q W2 _ σ (g1.trans g2) r2 Pr.refl⟩
          · cases em
        · cases em
      · cases em
    · cases em
/-- a cell's objects stand still while something else goes on -/
theorem R.hold {K : PySem.W.Frag} {mg : Str → Option Value} {B W H : Hp} {vs : List (Option V)} {cs : List (Option Cell)} {c : Cell} (r : R K mg B W H vs cs) {i : Nat} (e : cs[i]? = some (some c)) :
    ∃ (v : V) (F : Fp) (B1 : Hp), vs[i]? = some (some v) ∧ Own K mg W H c.1 c.2 v F ∧ (∀ b, F b ≤ 1) ∧ R K mg B1 W H vs (cs.set i none) ∧
      ∀ (W1 H1 : Hp) (vs1 : List (Option V)) (cs1 : List (Option Cell)), Gr B1 W W1 → R K mg B1 W1 H1 vs1 cs1 → Gr B W W1 ∧ R K mg B W1 H1 (some v :: vs1) (some c :: cs1) ∧ ∀ b, F b ≠ 0 → H1 b = H b := by
  obtain ⟨T, h, hT⟩ := r.ex
  have hth := h.there
  obtain ⟨ov, F, G, ev, ⟨u, eu, ho⟩, h3, put⟩ := h.focus e
  have p := put W H ov none (fun _ => 0) (Same.refl W) (fun _ _ => rfl) fun _ => rfl
  rw [set_self ev] at p
  let B1 : Hp := fun b => if F b = 0 then B b else H b
  have b1 : ∀ b, F b = 0 → B1 b = B b := fun b hb => if_pos hb
  have b2 : ∀ b, F b ≠ 0 → B1 b = H b := fun b hb => if_neg hb
  have nb : ∀ b, B1 b = none → B b = none := fun b hb => by
    by_cases z : F b = 0
    · rw [b1 b z] at hb; exact hb
    · exact ((hT b).2 (by have := h3 b; omega)).2
  have hF : ∀ b, F b ≠ 0 → ∃ o, H b = some o := fun b hb => by
    cases q : H b with
    | none => exact absurd q (hth b (by have := h3 b; omega))
    | some o => exact ⟨o, rfl⟩
  refine ⟨u, F, B1, by rw [ev, eu], ho, fun b => by have := (hT b).1; have := h3 b; omega, ⟨r.sw, fun b o q => ?_, _, p, fun b => ⟨by have := (hT b).1; have := h3 b; show 0 + G b ≤ 1; omega, fun hb => ?_⟩⟩, fun W1 H1 vs1 cs1 g r1 => ?_⟩
  · by_cases z : F b = 0
    · rw [b1 b z] at q; exact r.sb b o q
    · rw [b2 b z] at q; exact q
  · have hb' : G b ≠ 0 := by have : 0 + G b ≠ 0 := hb; omega
    have z : F b = 0 := by have := (hT b).1; have := h3 b; omega
    rw [b1 b z]
    exact (hT b).2 (by have := h3 b; omega)
  · have still : ∀ b, F b ≠ 0 → H1 b = H b := fun b hb => by
      obtain ⟨o, q⟩ := hF b hb
      rw [q]
      exact r1.sb b o (by rw [b2 b hb, q])
    obtain ⟨T1, c1, hT1⟩ := r1.ex
    have f0 : ∀ b, F b ≠ 0 → T1 b = 0 := fun b hb => by
      by_cases z : T1 b = 0
      · exact z
      · obtain ⟨o, q⟩ := hF b hb
        have := ((hT1 b).2 z).2
        rw [b2 b hb, q] at this; cases this
    refine ⟨⟨g.sm, fun a e n => nb a (g.nb a e n)⟩, ⟨r1.sw, fun b o q => ?_, fun b => F b + T1 b, ⟨F, T1, ⟨u, rfl, Own.mono g.sm _ _ _ _ ho still⟩, c1, fun _ => rfl⟩, fun b => ?_⟩, still⟩
    · by_cases z : F b = 0
      · exact r1.sb b o (by rw [b1 b z]; exact q)
      · have := ((hT b).2 (by have := h3 b; omega)).2
        rw [q] at this; cases this
    · by_cases z : F b = 0
      · refine ⟨by have := (hT1 b).1; show F b + T1 b ≤ 1; omega, fun hb => ?_⟩
        obtain ⟨q1, q2⟩ := (hT1 b).2 (by have : F b + T1 b ≠ 0 := hb; omega)
        exact ⟨q1, nb b q2⟩
      · refine ⟨by have := f0 b z; have := (hT b).1; have := h3 b; show F b + T1 b ≤ 1; omega, fun _ => ?_⟩
        have hb := (hT b).2 (by have := h3 b; omega)
        refine ⟨?_, hb.2⟩
        cases q : W1 b with
        | none => rfl
        | some o =>
          obtain ⟨o', q'⟩ := hF b z
          have := g.nb b hb.1 (by rw [q]; simp)
          rw [b2 b z, q'] at this; cases this
/-- x.append(e) -/
def sApp0 (i : Nat) (x : Env → Option (Cell × Env)) : Env → Option Out := fun ρ => match pVar i ρ, x ρ with
  | some (.lst _), some (c, ρ1) => (match ρ1[i]? with
    | some (some (k + 1, .lst l)) => if fit k c && decide (l.length < sizeLine) then some (.nx (ρ1.set i (some (k + 1, .lst (l ++ [c.2]))))) else none
    | _ => none)
  | _, _ => none
theorem one_arg {t : TE} (he : PE X e t) (hs : starEach (e :: []) X.env = (false, eval e X.env) :: starEach [] X.env := by rfl) : PA X [e] (tCons t tNil) := pa_cons he pa_nil hs
theorem s_app0 {apos cpos : Pos} (ho : PE X a (tVar i)) (he : PE X e (gS X x))
    (hbase : attributeBase a "append" X.env (eval a X.env) = eval a X.env := by rfl)
    (hfew : ((backTo cpos (starEach [e] X.env)).all (fun x => !x.1) && (backToKw cpos (keywordEach [] X.env)).all (fun x => x.1.isSome)
      && decide ([e].length + ([] : List Keyword).length + (if ([] : List Keyword).isEmpty then 0 else 1) < 30)) = true := by rfl)
    (hline : (apos.endLine == cpos.line) = true := by rfl) (hs : starEach [e] X.env = (false, eval e X.env) :: starEach [] X.env := by rfl) (hplain : (backTo cpos (starEach [] X.env)).any (·.1) = false := by rfl)
    (hsw : swapsWith (.Call (.Attribute a "append" apos) [e] [] cpos) none pos.line X.env = pure false := by rfl) :
    PS X (.Expr (.Call (.Attribute a "append" apos) [e] [] cpos) pos) (sS X pr (sApp0 i x)) :=
  PSi (ps_expr (pe_bm PySem.F.plainAttrs_list PySem.F.slot_list_append PySem.F.type_list_append mt_append ho (pa_cons he pa_nil hs) hbase hfew hline hs hplain) hsw) fun Dn σ H ⟨B, W, ρ, o, r, em, q⟩ => by
    unfold sApp0 at em
    split at em
    · rename_i l0 c ρ1 ev0 ex
      split at em
      · rename_i k l ec
        split at em
        · rename_i hf
          rw [Bool.and_eq_true] at hf
          cases em
          have s0 : Sta X σ H ρ := ⟨B, W, [], [], r, rfl⟩
          obtain ⟨v0, ev, a0, xs0, e0, h0, _⟩ := s0.var ev0
          refine ⟨v0, ev, ?_, B, W, [], [], ρ, c, ρ1, r, rfl, ex, fun W1 H1 v g1 r1 => ?_⟩
          · rw [e0]; exact .inl ⟨rfl, xs0, h0.sq⟩
          · obtain ⟨W2, v1, p, xs, ev1, pv, hp, hx, g2, r2⟩ := R.pathApp (k := k) (js := []) (l := l) (d := .lst l) r1 (i := i) ec rfl hf.1
            have ev2 : σ[i]? = some (some v1) := ev1
            rw [ev] at ev2; cases ev2
            cases pv
            exact ⟨p, xs, v, rfl, rfl, hp, by rw [hx]; exact of_decide_eq_true hf.2, q W2 _ σ (g1.trans g2) r2 Pr.refl⟩
        · cases em
      · cases em
    · cases em
theorem Own.pathKeep {K : PySem.W.Frag} {mg : Str → Option Value} {W H H' : Hp} : ∀ (js : List Nat) (k : Nat) (d d' : D) (v : V) (F : Fp), Own K mg W H (k + js.length) d v F → D.at d js = some d' → (∀ b, F b ≠ 0 → H' b = H b) → ∀ {w : V}, PathV H v js w → PathV H' v js w
  | [], k, d, d', v, F, h, _, _, _, p => by cases p; exact .nil
  | j :: js, k, d, d', v, F, h, e, f, w, p => by
    have hk : k + (j :: js).length = (k + js.length) + 1 := by simp only [List.length_cons]; omega
    rw [hk] at h
    cases d with
    | lst l =>
      obtain ⟨a, vs, G, rfl, h1, h2, h3⟩ := h
      simp only [D.at] at e
      split at e
      · rename_i x ex
        obtain ⟨u, Fu, G0, eu, hu, hg, put⟩ := OwnL.focus h2 ex
        cases p with
        | lst q1 q2 q3 =>
          rw [h1] at q1; cases q1
          rw [eu] at q2; cases q2
          exact .lst (by rw [f a (by have := h3 a; rw [if_pos rfl] at this; omega)]; exact h1) eu (Own.pathKeep js k x d' u Fu hu e (fun b hb => f b (by have := h3 b; have := hg b; omega)) q3)
        | tup q1 q2 q3 => rw [h1] at q1; cases q1
      · cases e
    | tup l =>
      obtain ⟨a, vs, G, rfl, h1, h2, h3⟩ := h
      simp only [D.at] at e
      split at e
      · rename_i x ex
        obtain ⟨u, Fu, G0, eu, hu, hg, put⟩ := OwnL.focus h2 ex
        cases p with
        | tup q1 q2 q3 =>
          rw [h1] at q1; cases q1
          rw [eu] at q2; cases q2
          exact .tup (by rw [f a (by have := h3 a; rw [if_pos rfl] at this; omega)]; exact h1) eu (Own.pathKeep js k x d' u Fu hu e (fun b hb => f b (by have := h3 b; have := hg b; omega)) q3)
        | lst q1 q2 q3 => rw [h1] at q1; cases q1
      · cases e
    | non => cases e
    | bl _ => cases e
    | int _ => cases e
    | str _ => cases e
    | dct _ => cases e
    | gl _ => cases e
/-- x[j]..append(e), e without x -/
def sApp (i : Nat) (fs : Env → Option (List Nat)) (x : Env → Option (Cell × Env)) : Env → Option Out := fun ρ => match plAt i fs ρ with
  | some (js, c0, .lst l) => (match x (ρ.set i none) with
    | some (c, ρ1) => if fit (c0.1 - 1 - js.length) c && decide (l.length < sizeLine) then some (.nx (ρ1.set i (some (c0.1, D.put c0.2 js (.lst (l ++ [c.2])))))) else none
    | none => none)
  | _ => none
theorem s_app {apos cpos : Pos} (ho : PE X a (plS X i fs)) (he : PE X e (gS X x))
    (hbase : attributeBase a "append" X.env (eval a X.env) = eval a X.env := by rfl)
    (hfew : ((backTo cpos (starEach [e] X.env)).all (fun x => !x.1) && (backToKw cpos (keywordEach [] X.env)).all (fun x => x.1.isSome)
      && decide ([e].length + ([] : List Keyword).length + (if ([] : List Keyword).isEmpty then 0 else 1) < 30)) = true := by rfl)
    (hline : (apos.endLine == cpos.line) = true := by rfl) (hs : starEach [e] X.env = (false, eval e X.env) :: starEach [] X.env := by rfl) (hplain : (backTo cpos (starEach [] X.env)).any (·.1) = false := by rfl)
    (hsw : swapsWith (.Call (.Attribute a "append" apos) [e] [] cpos) none pos.line X.env = pure false := by rfl) :
    PS X (.Expr (.Call (.Attribute a "append" apos) [e] [] cpos) pos) (sS X pr (sApp i fs x)) :=
  PSi (ps_expr (pe_bm PySem.F.plainAttrs_list PySem.F.slot_list_append PySem.F.type_list_append mt_append ho (pa_cons he pa_nil hs) hbase hfew hline hs hplain) hsw) fun Dn σ H ⟨B, W, ρ, o, r, em, q⟩ => by
    unfold sApp at em
    split at em
    · rename_i js c0 l ep
      split at em
      · rename_i c ρ1 ex
        split at em
        · rename_i hf
          rw [Bool.and_eq_true] at hf
          cases em
          obtain ⟨e1, e2, hlt, ed⟩ := plAt_some ep
          obtain ⟨m, hm⟩ : ∃ m, c0.1 = m + 1 + js.length := ⟨c0.1 - 1 - js.length, by omega⟩
          rw [show c0.1 - 1 - js.length = m by omega] at hf
          have s0 : Sta X σ H ρ := ⟨B, W, [], [], r, rfl⟩
          refine ⟨ρ, js, c0, _, s0, ep, fun v0 w ev pv => ?_⟩
          obtain ⟨v1, F, B1, ev1, ho1, hF1, rh, back⟩ := r.hold e1
          rw [ev1] at ev; cases ev
          rw [hm] at ho1
          obtain ⟨w1, F1, F2, pv1, ow1, _, _⟩ := Own.path js (m + 1) c0.2 (.lst l) v0 F ho1 hF1 ed
          cases PathV.uniq pv pv1
          obtain ⟨p, xs, G1, rfl, hp, hxl, _⟩ := ow1
          refine ⟨.inl ⟨rfl, xs, SqL.of hp⟩, B1, W, [], [], ρ.set i none, c, ρ1, rh, rfl, ex, fun W1 H1 v g1 r1 => ?_⟩
          obtain ⟨g2, r2, still⟩ := back W1 H1 _ _ g1 r1
          have r3 := R.move r2 (i + 1)
          have e3 : ((some v :: ([] ++ σ)).set (i + 1) (some v0)) = some v :: σ := by
            rw [List.set_cons_succ, List.nil_append, set_self ev1]
          rw [e3, List.set_cons_succ, List.nil_append] at r3
          have hi : i < ρ1.length := by
            have h1 := r3.length
            simp only [List.length_cons, List.length_set] at h1
            have h2 := r.length
            have := (List.getElem?_eq_some_iff.mp e1).1
            omega
          obtain ⟨W2, v2, p2, xs2, ev2, pv2, hp2, hx2, g3, r4⟩ := R.pathApp (k := m) (js := js) (l := l) (d := c0.2) r3 (i := i) (by rw [List.getElem?_set_self hi, ← hm]) ed hf.1
          have ev3 : σ[i]? = some (some v2) := ev2
          rw [ev1] at ev3; cases ev3
          have pv3 : PathV H1 v0 js (.ref p) := Own.pathKeep js (m + 1) c0.2 (.lst l) v0 F ho1 ed still pv
          cases PathV.uniq pv2 pv3
          rw [List.set_set, ← hm] at r4
          exact ⟨p, xs2, v, rfl, rfl, hp2, by rw [hx2]; exact of_decide_eq_true hf.2, q W2 _ σ (g2.trans g3) r4 Pr.refl⟩
        · cases em
      · cases em
    · cases em
end
end Mn

namespace Mn
open PySem PySem.Spec PyProof.Rows L2
/-! ### defs -/
abbrev Sp1 := List V → Hp → VK → Prop
structure FnG (P : Program) (w : World) (K : PySem.W.Frag) (mg : Str → Option Value) (base : Heap) (k : Nat) (f : Addr) (fd : FuncData) (ps : List Str) (sp : Sp1) : Prop where
  len : ∀ vs H Q, sp vs H Q → vs.length = ps.length
  run : ∀ (A : Around) (outer : List PySem.Env) (s : Shared) (H : Hp) (args : Args) (us : List Value) (vs : List V) (Q : VK), Room k A → A.guards = some [] → Env0 P w K mg base A outer s H → BindsTo s fd args (ps.zip us) → Vals vs us → sp vs H Q →
    codeAny (model P w) A (.call (.ref f) args) (CR CX0 outer P w H s Q E0) s
/-- the name x of the module is a def that keeps the promise sp by at most k levels -/
structure FnAt (P : Program) (w : World) (K : PySem.W.Frag) (mg : Str → Option Value) (base : Heap) (k : Nat) (x : Str) (n : Nat) (sp : Sp1) : Prop where
  ex : ∃ (f : Addr) (fd : FuncData) (ps : List Str), mg x = some (.ref f) ∧ PySem.W.keepIn K (.ref f) = true ∧ Binds K fd ps [] ∧ ps.length = n ∧ FnG P w K mg base k f fd ps sp
theorem FnG.mono {P : Program} {w : World} {K : PySem.W.Frag} {mg : Str → Option Value} {base : Heap} {j k : Nat} {f : Addr} {fd : FuncData} {ps : List Str} {sp : Sp1} (F : FnG P w K mg base j f fd ps sp) (h : j ≤ k) : FnG P w K mg base k f fd ps sp :=
  ⟨F.len, fun A outer s H args us vs Q hr => F.run A outer s H args us vs Q (hr.mono h)⟩
theorem FnAt.mono {P : Program} {w : World} {K : PySem.W.Frag} {mg : Str → Option Value} {base : Heap} {j k : Nat} {x : Str} {n : Nat} {sp : Sp1} (F : FnAt P w K mg base j x n sp) (h : j ≤ k) : FnAt P w K mg base k x n sp := by
  obtain ⟨f, fd, ps, h1, h2, h3, h4, h5⟩ := F.ex
  exact ⟨f, fd, ps, h1, h2, h3, h4, h5.mono h⟩
section
variable {P : Program} {w : World} {K : PySem.W.Frag} {mg : Str → Option Value} {base : Heap}
theorem fnG_of {k : Nat} {f : Addr} {name qual : Str} {params : Arguments} {body : List Stmt} {scope : Scope} {dV kV doc pm cdv ct oc : Value} {an od : Option Addr}
    {osl : Array (Option Value)} {N ps : List Str} {sp : Sp1} (lk : K.lookup f = some ⟨oc, od, .func (PySem.W.fnOf name qual params body scope dV kV doc pm an cdv ct), osl⟩) (hcd : PySem.W.codeIn K cdv qual = true) (S : FnScope N ps scope)
    (len : ∀ vs H Q, sp vs H Q → vs.length = ps.length)
    (hbody : ∀ (A : Around) (outer : List PySem.Env) (s : Shared) (H : Hp) (vs : List V) (Q : VK), Room k (A.deeper (envOfC qual scope s.heap.objs.size f cdv)) → (A.deeper (envOfC qual scope s.heap.objs.size f cdv)).guards = some [] → sp vs H Q →
      ∃ t, PSs (cxOf CX0 P w K mg base N qual scope f cdv A outer s H E0).nox body t ∧ t { nx := fun _ H' => Q .non H', rt := Q } (L2.start N vs) H) :
    FnG P w K mg base (k + 1) f (PySem.W.fnOf name qual params body scope dV kV doc pm an cdv ct) ps sp := by
  refine ⟨len, fun A outer s H args us vs Q hr hgd e0 hb r hsp => ?_⟩
  have hl := len _ _ _ hsp
  have KX : K.In s.heap := e0.mod.kin.keeps fun b o e => (e0.bs b o e).1
  have lim : s.heap.NoLimit := e0.mod.nolimit.keeps fun b o e => (e0.bs b o e).1
  have hkind : ∀ y ∈ ps.zip us, scope.names.lookup y.1 = some .local ∨ (scope.names.lookup y.1 = some .cell ∧ ((cellsFrom (s.heap.objs.size + 1) scope.names []).lookup y.1).isSome = true) := fun ⟨n, v⟩ hy => by
    rcases S.par n (List.of_mem_zip hy).1 with q | q
    · exact .inl q
    · exact .inr ⟨q, PySem.W.cellsFrom_some _ _ _ (.inl q)⟩
  refine codeAny_call_function hr.depth (KX _ _ lk) rfl S.co S.gen rfl (PySem.W.codeRec_of KX hcd) (hb _ _ _ _ ?_)
  refine wpAny_newFunctionEnv_cells S.kind hkind fun env he s1 x => ?_
  subst he
  refine ⟨lim.keeps x.toInCall.keep, codeAny_func ?_⟩
  obtain ⟨t, ht, hq⟩ := hbody A outer s H vs Q (hr.deeper _) hgd hsp
  have ht := ht.nox
  have I : Inv (cxOf CX0 P w K mg base N qual scope f cdv A outer s H E0) [] (L2.start N vs) H s1 := inv_start S hr.hd e0 hl r x
  refine wpAny_mono (ht.run [] s1 (L2.start N vs) H _ I hq) (fun fl s' hs => ?_) fun e s' hs => hs
  have fin : ∀ {σ' : L2.St} {H' : Hp} {v : V} {u : Value}, Inv (cxOf CX0 P w K mg base N qual scope f cdv A outer s H E0) [] σ' H' s' → RelV v u → Q v H' → CE outer P w H s Q u s' :=
    fun {σ' H' v u} J rv q => ⟨v, H', J.os, J.bare, J.base, J.hok, rv, q⟩
  cases fl with
  | ret u =>
    obtain ⟨v, σ', H', J, rv, q⟩ := hs
    exact fin J rv q
  | next =>
    obtain ⟨σ', H', J, q⟩ := hs
    exact fin (v := V.non) (u := Value.none) J rfl q
  | brk =>
    obtain ⟨_, _, _, q⟩ := hs
    exact False.elim q
  | cont =>
    obtain ⟨_, _, _, q⟩ := hs
    exact False.elim q
/-- a def by its body -/
theorem FnAt.of {x qual : Str} {st : Stmt} {f : Addr} {fd : FuncData} {N ps : List Str} {k n : Nat} {sp : Sp1} (F : Fun K x qual st f fd) (hm : mg x = some (.ref f)) (S : FnScope N ps (defScope st)) (hn : ps.length = n) (hb : Binds K fd ps []) (len : ∀ vs H Q, sp vs H Q → vs.length = ps.length)
    (hbody : ∀ (cdv : Value) (A : Around) (outer : List PySem.Env) (s : Shared) (H : Hp) (vs : List V) (Q : VK), Room k (A.deeper (envOfC qual (defScope st) s.heap.objs.size f cdv)) → (A.deeper (envOfC qual (defScope st) s.heap.objs.size f cdv)).guards = some [] → sp vs H Q →
      ∃ t, PSs (cxOf CX0 P w K mg base N qual (defScope st) f cdv A outer s H E0).nox (defBody st) t ∧ t { nx := fun _ H' => Q .non H', rt := Q } (L2.start N vs) H) : FnAt P w K mg base (k + 1) x n sp := by
  obtain ⟨oc, od, kV, doc, pm, an, cdv, ct, osl, rfl, lk, hcd⟩ := F.ex
  exact ⟨f, _, ps, hm, F.kp, hb, hn, fnG_of lk hcd S len fun A outer s H vs Q hr hg hsp => hbody cdv A outer s H vs Q hr hg hsp⟩
end
/-! ### promises -/
/-- a function of data that changes nothing that was there -/
abbrev Fp0 := List D → Option Cell
/-- one that changes its first argument's object -/
abbrev Fp1 := Cell → List D → Option (Cell × Cell)
def sp0 (K : PySem.W.Frag) (mg : Str → Option Value) (n : Nat) (F : Fp0) : Sp1 := fun vs H Q => ∃ (B W : Hp) (ds : List D) (c : Cell), R K mg B W H [] [] ∧ RepL K mg W ds vs ∧ ds.length = n ∧ F ds = some c ∧ ∀ W' H' v, Gr B W W' → R K mg B W' H' [some v] [some c] → Q v H'
def sp1 (K : PySem.W.Frag) (mg : Str → Option Value) (n : Nat) (F : Fp1) : Sp1 := fun vs H Q => ∃ (B W : Hp) (v0 : V) (vr : List V) (c0 : Cell) (ds : List D) (c c1 : Cell), vs = v0 :: vr ∧ R K mg B W H [some v0] [some c0] ∧ RepL K mg W ds vr ∧ ds.length + 1 = n ∧ F c0 ds = some (c, c1) ∧
  ∀ W' H' v, Gr B W W' → R K mg B W' H' [some v, some v0] [some c, some c1] → Q v H'
/-- the environment at the entry -/
def env0 (N : Nat) (ds : List D) : Env := (ds.map fun d => some (0, d)) ++ List.replicate (N - ds.length) none
def env1 (N : Nat) (c : Cell) (ds : List D) : Env := some c :: ((ds.map fun d => some (0, d)) ++ List.replicate (N - (ds.length + 1)) none)
def run0 (N : Nat) (m : Env → Option Out) : Fp0 := fun ds => match m (env0 N ds) with
  | some (.rt c _) => some c
  | some (.nx _) => some (0, .non)
  | _ => none
def run1 (N : Nat) (m : Env → Option Out) : Fp1 := fun c ds => match m (env1 N c ds) with
  | some (.rt c1 ρ) => (match ρ[0]? with | some (some c0) => some (c1, c0) | _ => none)
  | some (.nx ρ) => (match ρ[0]? with | some (some c0) => some ((0, .non), c0) | _ => none)
  | _ => none
section
variable {K : PySem.W.Frag} {mg : Str → Option Value} {B W H : Hp}
theorem R.nones (r : R K mg B W H [] []) : ∀ n : Nat, R K mg B W H (List.replicate n none) (List.replicate n none)
  | 0 => r
  | n + 1 => by
    have r' := R.nones r n
    obtain ⟨T, h, hT⟩ := r'.ex
    exact ⟨r'.sw, r'.sb, T, ⟨fun _ => 0, T, fun _ => rfl, h, fun b => (Nat.zero_add _).symm⟩, hT⟩
theorem R.args : ∀ {ds : List D} {vs : List V} {xs : List (Option V)} {cs : List (Option Cell)}, R K mg B W H xs cs → RepL K mg W ds vs → R K mg B W H (vs.map some ++ xs) ((ds.map fun d => some (0, d)) ++ cs)
  | [], _, _, _, r, h => by cases (show _ = [] from h); exact r
  | d :: ds, _, _, _, r, h => by
    obtain ⟨v, vr, rfl, h1, h2⟩ := h
    exact (R.args r h2).push0 h1
theorem env0_r (r : R K mg B W H [] []) {N : List Str} {ds : List D} {vs : List V} (h : RepL K mg W ds vs) : R K mg B W H (L2.start N vs) (env0 N.length ds) := by
  unfold L2.start env0
  rw [h.length]
  exact R.args (R.nones r _) h
theorem env1_r {v0 : V} {c0 : Cell} (r : R K mg B W H [some v0] [some c0]) {N : List Str} {ds : List D} {vs : List V} (h : RepL K mg W ds vs) : R K mg B W H (L2.start N (v0 :: vs)) (env1 N.length c0 ds) := by
  have hl := h.length
  have e : L2.start N (v0 :: vs) = some v0 :: (vs.map some ++ List.replicate (N.length - (ds.length + 1)) none) := by
    unfold L2.start
    rw [List.length_cons, hl]; rfl
  rw [e]
  unfold env1
  obtain ⟨T, ⟨F, G, h1, h2, h3⟩, hT⟩ := r.ex
  have hG : ∀ b, G b = 0 := h2
  -- the rest holds nothing
  have r0 : R K mg B W H [] [] := R.drop r
  have r1 := R.args (R.nones r0 (N.length - (ds.length + 1))) h
  obtain ⟨T1, c1, hT1⟩ := r1.ex
  have z : ∀ (ds : List D) (vs : List V) (n : Nat) (T : Fp), Cells K mg W H (vs.map some ++ List.replicate n none) ((ds.map fun d => some (0, d)) ++ List.replicate n none) T → ds.length = vs.length → ∀ b, T b = 0 := by
    intro ds
    induction ds with
    | nil =>
      intro vs n T hc hl
      cases vs with
      | cons _ _ => simp at hl
      | nil =>
        induction n generalizing T with
        | zero => exact hc
        | succ n ih =>
          obtain ⟨F, G, a1, a2, a3⟩ := hc
          intro b
          have := ih G a2 b
          have := a3 b
          have : F b = 0 := a1 b
          omega
    | cons d ds ih =>
      intro vs n T hc hl
      cases vs with
      | nil => simp at hl
      | cons v vs =>
        obtain ⟨F, G, ⟨u, _, a1⟩, a2, a3⟩ := hc
        intro b
        have := ih vs n G a2 (by simpa using hl) b
        have := a3 b
        have : F b = 0 := a1.2 b
        omega
  have hz := z ds vs _ T1 c1 hl.symm
  exact ⟨r.sw, r.sb, T, ⟨F, T1, h1, c1, fun b => by have := h3 b; have := hG b; have := hz b; omega⟩, hT⟩
/-- two heads, the rest dropped -/
theorem R.two {v v0 : Option V} {c c0 : Option Cell} {vs : List (Option V)} {cs : List (Option Cell)} (r : R K mg B W H (v :: v0 :: vs) (c :: c0 :: cs)) : R K mg B W H [v, v0] [c, c0] := by
  obtain ⟨T, ⟨F, G, h1, ⟨F1, G1, h2, h3, h4⟩, h5⟩, hT⟩ := r.ex
  exact ⟨r.sw, r.sb, fun b => F b + (F1 b + 0), ⟨F, fun b => F1 b + 0, h1, ⟨F1, fun _ => 0, h2, fun _ => rfl, fun _ => rfl⟩, fun _ => rfl⟩, fun b => ⟨by have := (hT b).1; have := h4 b; have := h5 b; show F b + (F1 b + 0) ≤ 1; omega, fun hb => (hT b).2 (by have := h4 b; have := h5 b; have : F b + (F1 b + 0) ≠ 0 := hb; omega)⟩⟩
theorem R.one {v : Option V} {c : Option Cell} {vs : List (Option V)} {cs : List (Option Cell)} (r : R K mg B W H (v :: vs) (c :: cs)) : R K mg B W H [v] [c] := by
  obtain ⟨T, ⟨F, G, h1, h2, h5⟩, hT⟩ := r.ex
  exact ⟨r.sw, r.sb, fun b => F b + 0, ⟨F, fun _ => 0, h1, fun _ => rfl, fun _ => rfl⟩, fun b => ⟨by have := (hT b).1; have := h5 b; show F b + 0 ≤ 1; omega, fun hb => (hT b).2 (by have := h5 b; have : F b + 0 ≠ 0 := hb; omega)⟩⟩
end
section
variable {P : Program} {w : World} {K : PySem.W.Frag} {mg : Str → Option Value} {base : Heap}
/-- THE RULE for a def that changes nothing -/
theorem FnAt.of0 {x qual : Str} {st : Stmt} {f : Addr} {fd : FuncData} {N ps : List Str} {k n : Nat} {m : Env → Option Out} (F : Fun K x qual st f fd) (hm : mg x = some (.ref f)) (S : FnScope N ps (defScope st)) (hn : ps.length = n) (hb : Binds K fd ps [])
    (hbody : ∀ X : Cx, X.prog = P → X.w = w → X.K = K → X.mg = mg → X.base = base → X.N = N → X.env.scope = defScope st → X.fn = (fun _ => true) → X.calm = true → Room k X.A → X.A.guards = some [] → X.xe = (fun _ _ => False) → PSs X (defBody st) (sS X [] m)) :
    FnAt P w K mg base (k + 1) x n (sp0 K mg n (run0 N.length m)) :=
  FnAt.of F hm S hn hb (fun vs H Q ⟨B, W, ds, c, r, h, hl, _⟩ => by rw [h.length, hl, hn]) fun cdv A outer s H vs Q hr hg ⟨B, W, ds, c, r, h, hl, ef, q⟩ => by
    refine ⟨_, hbody _ rfl rfl rfl rfl rfl rfl rfl rfl rfl hr hg rfl, ?_⟩
    unfold run0 at ef
    split at ef
    · rename_i c' ρ' em
      cases ef
      exact ⟨B, W, _, _, env0_r r h, em, fun W' H' σ' v g r' _ => q W' H' v g (R.one r')⟩
    · rename_i ρ' em
      cases ef
      exact ⟨B, W, _, _, env0_r r h, em, fun W' H' σ' g r' _ => q W' H' .non g (R.one (r'.push0 rfl))⟩
    · cases ef
theorem FnAt.of1 {x qual : Str} {st : Stmt} {f : Addr} {fd : FuncData} {N ps : List Str} {k n : Nat} {m : Env → Option Out} (F : Fun K x qual st f fd) (hm : mg x = some (.ref f)) (S : FnScope N ps (defScope st)) (hn : ps.length = n) (hb : Binds K fd ps [])
    (hbody : ∀ X : Cx, X.prog = P → X.w = w → X.K = K → X.mg = mg → X.base = base → X.N = N → X.env.scope = defScope st → X.fn = (fun _ => true) → X.calm = true → Room k X.A → X.A.guards = some [] → X.xe = (fun _ _ => False) → PSs X (defBody st) (sS X [0] m)) :
    FnAt P w K mg base (k + 1) x n (sp1 K mg n (run1 N.length m)) :=
  FnAt.of F hm S hn hb (fun vs H Q ⟨B, W, v0, vr, c0, ds, c, c1, ev, r, h, hl, _⟩ => by rw [ev, List.length_cons, h.length, hl, hn]) fun cdv A outer s H vs Q hr hg ⟨B, W, v0, vr, c0, ds, c, c1, ev, r, h, hl, ef, q⟩ => by
    subst ev
    refine ⟨_, hbody _ rfl rfl rfl rfl rfl rfl rfl rfl rfl hr hg rfl, ?_⟩
    have first : ∀ {σ' : L2.St}, Pr [0] (L2.start N (v0 :: vr)) σ' → ∃ r, σ' = some v0 :: r := fun {σ'} hp => by
      have e := hp 0 (by simp)
      have e2 : (L2.start N (v0 :: vr))[0]? = some (some v0) := rfl
      rw [e2] at e
      cases σ' with
      | nil => cases e
      | cons a r => cases (show some a = some (some v0) from e); exact ⟨r, rfl⟩
    unfold run1 at ef
    split at ef
    · rename_i c' ρ' em
      split at ef
      · rename_i c0' e0
        cases ef
        refine ⟨B, W, _, _, env1_r r h, em, fun W' H' σ' v g r' hp => ?_⟩
        obtain ⟨rr, rfl⟩ := first hp
        cases ρ' with
        | nil => cases e0
        | cons a ρr =>
          cases (show some a = _ from e0)
          exact q W' H' v g (R.two r')
      · cases ef
    · rename_i ρ' em
      split at ef
      · rename_i c0' e0
        cases ef
        refine ⟨B, W, _, _, env1_r r h, em, fun W' H' σ' g r' hp => ?_⟩
        obtain ⟨rr, rfl⟩ := first hp
        cases ρ' with
        | nil => cases e0
        | cons a ρr =>
          cases (show some a = _ from e0)
          exact q W' H' .non g (R.two (r'.push0 rfl))
      · cases ef
    · cases ef
end
/-! ### calls -/
section
variable {X : Cx} {e : Expr} {es : List Expr} {ms : Env → Option (List D × Env)} {p pos : Pos} {x : Str} {k n : Nat} {fd : FuncData} {f : Addr} {ps : List Str} {sp : Sp1} {t : TA}
theorem run_fnG {pins : List (Addr × Obj)} {σ : L2.St} {H : Hp} {s : Shared} {Q : VK} {us : List Value} {vs : List V} (F : FnG X.prog X.w X.K X.mg X.base k f fd ps sp) (hr : Room k X.A) (hgd : X.A.guards = some []) (hb : Binds X.K fd ps [])
    (I : Inv X pins σ H s) (r : Vals vs us) (h : sp vs H Q) : wpAny (model X.prog X.w) X.A (call (.ref f) us) (EP X pins σ Q) X.xe s := by
  have hl : (us ++ []).length = ps.length := by rw [List.append_nil, ← r.length]; exact F.len _ _ _ h
  have hbb := hb s us I.kIn hl
  rw [List.append_nil] at hbb
  refine wpAny_call (codeAny_mono (F.run X.A X.stack s H ⟨us, []⟩ us vs Q hr hgd I.env0 hbb r h) fun r s' hq => ?_)
  cases r with
  | error e => exact False.elim hq
  | ok fl =>
    cases fl with
    | ret u => exact I.after hq
    | next => exact False.elim hq
    | brk => exact False.elim hq
    | cont => exact False.elim hq
def tCallG (sp : Sp1) (t : TA) : TE := fun σ H Q => t σ H fun vs H1 => sp vs H1 Q
theorem pe_callG (F : FnAt X.prog X.w X.K X.mg X.base k x n sp) (hr : Room k X.A) (hgd : X.A.guards = some []) (hg : Gl X x)
    (ha : PA X (e :: es) t) (hdb : (x == ("__debug__" : Str)) = false := by decide) (he : starEach (e :: es) X.env = (false, eval e X.env) :: starEach es X.env := by rfl) (hpl : (backTo pos (starEach es X.env)).any (·.1) = false := by rfl) :
    PE X (.Call (.Name x p) (e :: es) [] pos) (tCallG sp t) := by
  obtain ⟨f, fd, ps, hm, hk, hb, _, F⟩ := F.ex
  refine ⟨fun pins s σ H Q I h => ?_⟩
  refine wpAny_Call_Name_kw (ld_glob I hg hm ?_ hdb)
  refine PySem.W.callWith_K (h₀ := X.base) I.ok.mod.kin hk (thn (ha.run pos pins s σ H _ I h) fun us s1 ⟨vs, H1, I1, r, q⟩ => ⟨I1.kIn, ?_⟩) he hpl
  exact run_fnG F hr hgd hb I1 r q
theorem pe_callG0 (F : FnAt X.prog X.w X.K X.mg X.base k x n sp) (hr : Room k X.A) (hgd : X.A.guards = some []) (hg : Gl X x) (hdb : (x == ("__debug__" : Str)) = false := by decide) :
    PE X (.Call (.Name x p) [] [] pos) (tCallG sp tNil) := by
  obtain ⟨f, fd, ps, hm, hk, hb, _, F⟩ := F.ex
  refine ⟨fun pins s σ H Q I h => ?_⟩
  refine wpAny_Call_Name_kw (ld_glob I hg hm ?_ hdb)
  exact PySem.W.callWith_K0 I.kIn hk (run_fnG (us := []) F hr hgd hb I .nil h)
def mCall (n : Nat) (F : Fp0) (ms : Env → Option (List D × Env)) : Env → Option (Cell × Env) := fun ρ => match ms ρ with
  | some (ds, ρ1) => if ds.length = n then (match F ds with
    | some c => some (c, ρ1)
    | none => none) else none
  | none => none
theorem call0_imp {F : Fp0} {σ : L2.St} {H : Hp} {Q : VK} (h : gS X (mCall n F ms) σ H Q) : tCallG (sp0 X.K X.mg n F) (gA X 0 ms) σ H Q := by
  obtain ⟨B, W, ts, tc, ρ, cl, ρ', r, hl, em, q⟩ := h
  unfold mCall at em
  split at em
  · rename_i ds ρ1 ex
    split at em
    · rename_i hn
      split at em
      · rename_i c ef
        cases em
        refine ⟨B, W, ts, tc, ρ, ds, ρ', r, hl, ex, fun W1 H1 vs g1 r1 => ?_⟩
        have r0 := RL.r r1
        refine ⟨H1, W1, ds, _, ⟨r0.sw, Same.refl _, fun _ => 0, fun _ => rfl, fun b => ⟨Nat.zero_le _, fun hb => (hb rfl).elim⟩⟩, RL.rep0 r1, hn, ef, fun W2 H2 v g2 r2 => ?_⟩
        obtain ⟨g3, r3⟩ := R.called r0 g2 r2
        exact q W2 H2 v (g1.trans g3) r3
      · cases em
    · cases em
  · cases em
theorem g_call {F : Fp0} (hF : FnAt X.prog X.w X.K X.mg X.base k x n (sp0 X.K X.mg n F)) (hr : Room k X.A) (hgd : X.A.guards = some []) (hg : Gl X x)
    (ha : PA X (e :: es) (gA X 0 ms)) (hdb : (x == ("__debug__" : Str)) = false := by decide) (he : starEach (e :: es) X.env = (false, eval e X.env) :: starEach es X.env := by rfl) (hpl : (backTo pos (starEach es X.env)).any (·.1) = false := by rfl) :
    PE X (.Call (.Name x p) (e :: es) [] pos) (gS X (mCall n F ms)) := PEi (pe_callG hF hr hgd hg ha hdb he hpl) fun σ H Q h => call0_imp h
theorem g_call0 {F : Fp0} (hF : FnAt X.prog X.w X.K X.mg X.base k x n (sp0 X.K X.mg n F)) (hr : Room k X.A) (hgd : X.A.guards = some []) (hg : Gl X x) (hdb : (x == ("__debug__" : Str)) = false := by decide) :
    PE X (.Call (.Name x p) [] [] pos) (gS X (mCall n F mNil)) := PEi (pe_callG0 hF hr hgd hg hdb) fun σ H Q h => by
  obtain ⟨B, W, ts, tc, ρ, ds, ρ', r, hl, ex, q⟩ := call0_imp h
  cases ex
  exact q W H [] (Gr.refl B W) (RL.nil r)
/-- f(x, ..) that changes x's object: x the name in the slot i -/
def mCallI (n : Nat) (F : Fp1) (i : Nat) (ms : Env → Option (List D × Env)) : Env → Option (Cell × Env) := fun ρ => match ρ[i]? with
  | some (some _) => (match ms ρ with
    | some (ds, ρ1) => if ds.length + 1 = n then (match ρ1[i]? with
      | some (some c0) => (match F c0 ds with
        | some (c, c1) => some (c, ρ1.set i (some c1))
        | none => none)
      | _ => none) else none
    | none => none)
  | _ => none
theorem g_callI {F : Fp1} {i : Nat} {es : List Expr} (hF : FnAt X.prog X.w X.K X.mg X.base k x n (sp1 X.K X.mg n F)) (hr : Room k X.A) (hgd : X.A.guards = some []) (hg : Gl X x)
    (h0 : PE X e (tVar i)) (ha : PA X es (gA X 0 ms)) (hdb : (x == ("__debug__" : Str)) = false := by decide) (he : starEach (e :: es) X.env = (false, eval e X.env) :: starEach es X.env := by rfl) (hpl : (backTo pos (starEach es X.env)).any (·.1) = false := by rfl) :
    PE X (.Call (.Name x p) (e :: es) [] pos) (gS X (mCallI n F i ms)) := PEi (pe_callG hF hr hgd hg (pa_cons h0 ha he) hdb he hpl) fun σ H Q ⟨B, W, ts, tc, ρ, cl, ρ', r, hl, em, q⟩ => by
  unfold mCallI at em
  split at em
  · rename_i c00 e00
    split at em
    · rename_i ds ρ1 ex
      split at em
      · rename_i hn
        split at em
        · rename_i c0 e0
          split at em
          · rename_i c c1 ef
            cases em
            obtain ⟨v00, ev0, _⟩ := r.rep (i := tc.length + i) (c := c00) (by rw [get_app]; exact e00)
            rw [← hl, get_app] at ev0
            refine ⟨v00, ev0, B, W, ts, tc, ρ, ds, ρ1, r, hl, ex, fun W1 H1 vs g1 r1 => ?_⟩
            have r0 := RL.r r1
            obtain ⟨v0, B1, ev, rc, back⟩ := R.calledI r0 (i := tc.length + i) (c := c0) (by rw [get_app]; exact e0)
            rw [← hl, get_app] at ev
            rw [ev0] at ev; cases ev
            refine ⟨B1, W1, v00, vs, c0, ds, _, c1, rfl, rc, RL.rep0 r1, hn, ef, fun W2 H2 v g2 r2 => ?_⟩
            obtain ⟨g3, r3⟩ := back W2 H2 v _ c1 g2 r2
            rw [set_app] at r3
            exact q W2 H2 v (g1.trans g3) r3
          · cases em
        · cases em
      · cases em
    · cases em
  · cases em
end
end Mn

namespace Mn
open PySem PySem.Spec PyProof.Rows L2
/-! ### targets -/
def tgS (X : Cx) (js : List Nat) (f : D → Env → Option Env) : TG := fun v σ H Q => ∃ (B W : Hp) (ts : List (Option V)) (tc : List (Option Cell)) (ρ : Env) (d : D) (ρ' : Env), R X.K X.mg B W H (ts ++ σ) (tc ++ ρ) ∧ ts.length = tc.length ∧ Rep X.K X.mg W d v ∧ f d ρ = some ρ' ∧
  ∀ σ', R X.K X.mg B W H (ts ++ σ') (tc ++ ρ') → (∀ i, i ∉ js → σ'[i]? = σ[i]?) → σ'.length = σ.length → Q σ' H
def tgsS (X : Cx) (js : List Nat) (f : List D → Env → Option Env) : TGs := fun vs σ H Q => ∃ (B W : Hp) (ts : List (Option V)) (tc : List (Option Cell)) (ρ : Env) (ds : List D) (ρ' : Env), R X.K X.mg B W H (ts ++ σ) (tc ++ ρ) ∧ ts.length = tc.length ∧ RepL X.K X.mg W ds vs ∧ f ds ρ = some ρ' ∧
  ∀ σ', R X.K X.mg B W H (ts ++ σ') (tc ++ ρ') → (∀ i, i ∉ js → σ'[i]? = σ[i]?) → σ'.length = σ.length → Q σ' H
theorem PGi {X : Cx} {e : Expr} {t t' : TG} (h : PG X e t) (i : ∀ v σ H Q, t' v σ H Q → t v σ H Q) : PG X e t' := ⟨fun pins s σ H v u Q I r q => h.run pins s σ H v u Q I r (i v σ H Q q)⟩
theorem PGsi {X : Cx} {e : List Expr} {t t' : TGs} (h : PGs X e t) (i : ∀ v σ H Q, t' v σ H Q → t v σ H Q) : PGs X e t' := ⟨fun pins s σ H v u Q I r q => h.run pins s σ H v u Q I r (i v σ H Q q)⟩
theorem PIi {X : Cx} {tg e : Expr} {t t' : TI} (h : PI X tg e t) (i : ∀ σ H Q, t' σ H Q → t σ H Q) : PI X tg e t' := ⟨fun pins s σ H R I q => h.run pins s σ H R I (i σ H R q)⟩
section
variable {X : Cx} {a b e : Expr} {es : List Expr} {pos : Pos} {f : D → Env → Option Env} {fs : List D → Env → Option Env} {js ks : List Nat}
def tName (i : Nat) : D → Env → Option Env := fun d ρ => some (ρ.set i (some (0, d)))
theorem tg_name {i : Nat} {y : Str} (hN : X.N.Nodup) (hi : X.N[i]? = some y) (hx : Loc X.env.scope y) (hf : X.fn y = true ∨ X.env.scope.names.lookup y = some .local := by first | exact .inl rfl | exact .inr rfl | assumption) : PG X (.Name y pos) (tgS X [i] (tName i)) :=
  PGi (pg_name hN hi hx hf) fun v σ H Q ⟨B, W, ts, tc, ρ, d, ρ', r, hl, hd, e, q⟩ => by
    cases e
    refine q _ ?_ (fun j hj => List.getElem?_set_ne (fun z => hj (by rw [z]; exact List.mem_singleton.mpr rfl))) (List.length_set ..)
    have r1 := R.move (r.push0 hd) (tc.length + i)
    rw [set_app, ← hl, set_app] at r1
    exact r1
def tsNil : List D → Env → Option Env := fun ds ρ => match ds with | [] => some ρ | _ => none
def tsCons (f : D → Env → Option Env) (fs : List D → Env → Option Env) : List D → Env → Option Env := fun ds ρ => match ds with
  | d :: r => (match f d ρ with | some ρ1 => fs r ρ1 | none => none)
  | [] => none
theorem tg_nil : PGs X [] (tgsS X [] tsNil) := PGsi pgs_nil fun vs σ H Q ⟨B, W, ts, tc, ρ, ds, ρ', r, hl, hd, e, q⟩ => by
  unfold tsNil at e
  split at e
  · cases e
    exact ⟨hd, q σ r (fun _ _ => rfl) rfl⟩
  · cases e
theorem tg_cons (h1 : PG X e (tgS X js f)) (h2 : PGs X es (tgsS X ks fs)) (hs : (assignEach (e :: es) X.env).map (·.2) = assign e X.env :: (assignEach es X.env).map (·.2) := by rfl) : PGs X (e :: es) (tgsS X (js ++ ks) (tsCons f fs)) :=
  PGsi (pgs_cons h1 h2 hs) fun vs σ H Q ⟨B, W, ts, tc, ρ, ds, ρ', r, hl, hd, e, q⟩ => by
    unfold tsCons at e
    split at e
    · rename_i d rr
      split at e
      · rename_i ρ1 e1
        obtain ⟨v, vr, rfl, hv, hvr⟩ := hd
        refine ⟨v, vr, rfl, B, W, ts, tc, ρ, d, ρ1, r, hl, hv, e1, fun σ1 r1 k1 l1 => ?_⟩
        exact ⟨B, W, ts, tc, ρ1, rr, ρ', r1, hl, hvr, e, fun σ2 r2 k2 l2 => q σ2 r2 (fun i hi => (k2 i fun z => hi (List.mem_append_right _ z)).trans (k1 i fun z => hi (List.mem_append_left _ z))) (l2.trans l1)⟩
      · cases e
    · cases e
def tTupT (n : Nat) (fs : List D → Env → Option Env) : D → Env → Option Env := fun d ρ => match d with
  | .tup l => if l.length = n then fs l ρ else none
  | _ => none
theorem tg_tup {k n : Nat} (hc : X.calm = true) (h : PGs X es (tgsS X js fs)) (hn : (assignEach es X.env).length = n := by rfl) (hst : (assignEach es X.env).findIdx? (·.1) = none := by rfl) : PG X (.Tuple es k pos) (tgS X js (tTupT n fs)) :=
  PGi (pg_tup hc h hn hst) fun v σ H Q ⟨B, W, ts, tc, ρ, d, ρ', r, hl, hd, e, q⟩ => by
    unfold tTupT at e
    split at e
    · rename_i l
      split at e
      · rename_i hlen
        obtain ⟨a, vs, rfl, h1, h2⟩ := hd
        exact ⟨a, vs, rfl, Same.seqT r.sw h1, by rw [h2.length]; exact hlen, B, W, ts, tc, ρ, l, ρ', r, hl, h2, e, q⟩
      · cases e
    · cases e
/-! ### what is walked -/
/-- the iterator hands on these, one after the other -/
structure ItOk (K : PySem.W.Frag) (mg : Str → Option Value) (J : It) (W : Hp) (ds : List D) : Prop where
  go : ∀ i H, Same W H → i < ds.length → J.go i H
  stop : ∀ H, Same W H → J.stop ds.length H
  yld : ∀ (B W1 H : Hp) (vs : List (Option V)) (cs : List (Option Cell)) (i : Nat) (x : V) (H' : Hp) (d : D), Same W W1 → R K mg B W1 H vs cs → ds[i]? = some d → J.yld i H x H' → ∃ W2, Gr B W1 W2 ∧ R K mg B W2 H' (some x :: vs) (some (0, d) :: cs)
def gI (X : Cx) (m : Env → Option (List D × Env)) : TI := fun σ H Rj => ∃ (B W : Hp) (ts : List (Option V)) (tc : List (Option Cell)) (ρ : Env) (ds : List D) (ρ' : Env), R X.K X.mg B W H (ts ++ σ) (tc ++ ρ) ∧ ts.length = tc.length ∧ m ρ = some (ds, ρ') ∧
  ∀ W' H' J, Gr B W W' → R X.K X.mg B W' H' (ts ++ σ) (tc ++ ρ') → ItOk X.K X.mg J W' ds → Rj J H'
theorem RepL.uniq {K : PySem.W.Frag} {mg : Str → Option Value} {W : Hp} {l : List D} {vs : List V} {i : Nat} {d : D} (h : RepL K mg W l vs) (e : l[i]? = some d) {x : V} (hx : vs[i]? = some x) : Rep K mg W d x := by
  obtain ⟨v, ev, hv⟩ := h.get e
  rw [hx] at ev; cases ev
  exact hv
theorem itOk_list {K : PySem.W.Frag} {mg : Str → Option Value} {W : Hp} {a : Addr} {vs : List V} {l : List D} (h1 : SqL K W a vs) (h2 : RepL K mg W l vs) : ItOk K mg (Itl K a) W l where
  go := fun i H s hi => by
    have : i < vs.length := by rw [h2.length]; exact hi
    exact ⟨vs, vs[i], s.seq h1, by simp [this]⟩
  stop := fun H s => ⟨vs, s.seq h1, by rw [h2.length]; exact Nat.le_refl _⟩
  yld := fun B W1 H xs cs i x H' d s r e y => by
    obtain ⟨rfl, f⟩ := y
    exact ⟨W1, Gr.refl B W1, r.push0 (Rep.mono s _ _ (h2.uniq e (f vs (r.sw.seq (s.seq h1)))))⟩
theorem itOk_tup {K : PySem.W.Frag} {mg : Str → Option Value} {W : Hp} {a : Addr} {vs : List V} {l : List D} (h1 : SqT K W a vs) (h2 : RepL K mg W l vs) : ItOk K mg (Itt K a) W l where
  go := fun i H s hi => by
    have : i < vs.length := by rw [h2.length]; exact hi
    exact ⟨vs, vs[i], Same.seqT s h1, by simp [this]⟩
  stop := fun H s => ⟨vs, Same.seqT s h1, by rw [h2.length]; exact Nat.le_refl _⟩
  yld := fun B W1 H xs cs i x H' d s r e y => by
    obtain ⟨rfl, f⟩ := y
    exact ⟨W1, Gr.refl B W1, r.push0 (Rep.mono s _ _ (h2.uniq e (f vs (Same.seqT r.sw (Same.seqT s h1)))))⟩
/-- a list or a tuple -/
def iSeq (m : Env → Option (Cell × Env)) : Env → Option (List D × Env) := fun ρ => match m ρ with
  | some ((_, .lst l), ρ1) => some (l, ρ1)
  | some ((_, .tup l), ρ1) => some (l, ρ1)
  | _ => none
theorem i_seq {tg : Expr} {m : Env → Option (Cell × Env)} (h : PE X e (gS X m)) : PI X tg e (gI X (iSeq m)) := by
  refine ⟨fun pins s σ H Rj I ⟨B, W, ts, tc, ρ, ds, ρ', r, hl, em, q⟩ => ?_⟩
  unfold iSeq at em
  split at em
  · rename_i k l ρ1 ex
    cases em
    refine (pi_list h).run pins s σ H Rj I ⟨B, W, ts, tc, ρ, _, ρ', r, hl, ex, fun W1 H1 v g1 r1 => ?_⟩
    obtain ⟨W2, g2, r2, a, vs, rfl, h1, h2⟩ := R.pop r1
    exact ⟨a, rfl, ⟨vs, r2.sw.seq h1.sq⟩, q W2 H1 _ (g1.trans g2) r2 (itOk_list h1.sq h2)⟩
  · rename_i k l ρ1 ex
    cases em
    refine (pi_tup h).run pins s σ H Rj I ⟨B, W, ts, tc, ρ, _, ρ', r, hl, ex, fun W1 H1 v g1 r1 => ?_⟩
    obtain ⟨W2, g2, r2, a, vs, rfl, h1, h2⟩ := R.pop r1
    exact ⟨a, rfl, ⟨vs, Same.seqT r2.sw h1⟩, q W2 H1 _ (g1.trans g2) r2 (itOk_tup h1 h2)⟩
  · cases em
/-- lo, lo + c, .. -/
def rng (lo c : Int) (n : Nat) : List D := (List.range n).map fun i => .int (lo + (i : Nat) * c)
theorem rng_get {lo c : Int} {n i : Nat} {d : D} (h : (rng lo c n)[i]? = some d) : i < n ∧ d = .int (lo + (i : Nat) * c) := by
  unfold rng at h
  rw [List.getElem?_map] at h
  by_cases hi : i < n
  · rw [List.getElem?_range hi] at h
    cases h
    exact ⟨hi, rfl⟩
  · rw [List.getElem?_eq_none (by simpa using hi)] at h
    cases h
theorem itOk_rng {K : PySem.W.Frag} {mg : Str → Option Value} {W : Hp} {lo : Int} {n : Nat} : ItOk K mg (Itr lo n) W (rng lo 1 n) where
  go := fun i H s hi => by show i < n; simpa [rng] using hi
  stop := fun H s => by show n ≤ (rng lo 1 n).length; simp [rng]
  yld := fun B W1 H xs cs i x H' d s r e y => by
    obtain ⟨rfl, rfl⟩ := y
    obtain ⟨_, rfl⟩ := rng_get e
    exact ⟨W1, Gr.refl B W1, r.push0 (by show V.int _ = V.int _; rw [Int.mul_one])⟩
theorem itOk_rngC {K : PySem.W.Frag} {mg : Str → Option Value} {W : Hp} {lo c : Int} {n : Nat} : ItOk K mg (Itc lo c n) W (rng lo c n) where
  go := fun i H s hi => by show i < n; simpa [rng] using hi
  stop := fun H s => by show n ≤ (rng lo c n).length; simp [rng]
  yld := fun B W1 H xs cs i x H' d s r e y => by
    obtain ⟨rfl, rfl⟩ := y
    obtain ⟨_, rfl⟩ := rng_get e
    exact ⟨W1, Gr.refl B W1, r.push0 rfl⟩
noncomputable def okRng (i : Int) : Bool := @decide (-(2 ^ 62) ≤ i ∧ i < 2 ^ 62) (Classical.propDecidable _)
theorem okRng_of {i : Int} (h : okRng i = true) : -(2 ^ 62) ≤ i ∧ i < 2 ^ 62 := @of_decide_eq_true _ (Classical.propDecidable _) h
theorem okRng_mk {i : Int} (h : -(2 ^ 62) ≤ i ∧ i < 2 ^ 62) : okRng i = true := @decide_eq_true _ (Classical.propDecidable _) h
noncomputable def iRange (ms : Env → Option (List D × Env)) : Env → Option (List D × Env) := fun ρ => match ms ρ with
  | some ([.int j], ρ1) => if okRng j then some (rng 0 1 j.toNat, ρ1) else none
  | some ([.int i, .int j], ρ1) => if okRng i && okRng j then some (rng i 1 (j - i).toNat, ρ1) else none
  | some ([.int i, .int j, .int (-1)], ρ1) => if okRng i && okRng j then some (rng i (-1) (i - j).toNat, ρ1) else none
  | _ => none
variable {ms : Env → Option (List D × Env)} {tg : Expr} {c : Expr} {p : Pos}
theorem i_range1 (hg : Gl X "range") (hm : X.mg "range" = none) (ha : PA X [a] (gA X 0 ms)) (hs : starEach [a] X.env = [(false, eval a X.env)] := by rfl) (h1 : ∀ ρ ds ρ', ms ρ = some (ds, ρ') → ds.length = 1) : PI X tg (.Call (.Name "range" p) [a] [] pos) (gI X (iRange ms)) :=
  PIi (pi_range1 hg hm ha hs) fun σ H Rj ⟨B, W, ts, tc, ρ, ds, ρ', r, hl, em, q⟩ => by
    unfold iRange at em
    split at em
    · rename_i j ρ1 ex
      split at em
      · rename_i hz
        cases em
        refine ⟨B, W, ts, tc, ρ, _, ρ', r, hl, ex, fun W1 H1 vs g1 r1 => ?_⟩
        obtain ⟨u, rfl, hu⟩ := repL1 (RL.rep0 r1)
        cases (show u = _ from hu)
        exact ⟨j, rfl, (okRng_of hz).1, (okRng_of hz).2, q W1 H1 _ g1 (RL.r r1) itOk_rng⟩
      · cases em
    · rename_i ex; have := h1 _ _ _ ex; simp at this
    · rename_i ex; have := h1 _ _ _ ex; simp at this
    · cases em
theorem i_range2 (hg : Gl X "range") (hm : X.mg "range" = none) (ha : PA X [a, b] (gA X 0 ms)) (hs : starEach [a, b] X.env = [(false, eval a X.env), (false, eval b X.env)] := by rfl) (hs2 : starEach [b] X.env = [(false, eval b X.env)] := by rfl) (h1 : ∀ ρ ds ρ', ms ρ = some (ds, ρ') → ds.length = 2) : PI X tg (.Call (.Name "range" p) [a, b] [] pos) (gI X (iRange ms)) :=
  PIi (pi_range2 hg hm ha hs hs2) fun σ H Rj ⟨B, W, ts, tc, ρ, ds, ρ', r, hl, em, q⟩ => by
    unfold iRange at em
    split at em
    · rename_i ex; have := h1 _ _ _ ex; simp at this
    · rename_i i j ρ1 ex
      split at em
      · rename_i hz
        rw [Bool.and_eq_true] at hz
        cases em
        refine ⟨B, W, ts, tc, ρ, _, ρ', r, hl, ex, fun W1 H1 vs g1 r1 => ?_⟩
        obtain ⟨u, v, rfl, hu, hv⟩ := repL2 (RL.rep0 r1)
        cases (show u = _ from hu); cases (show v = _ from hv)
        exact ⟨i, j, rfl, ⟨(okRng_of hz.1).1, (okRng_of hz.1).2, (okRng_of hz.2).1, (okRng_of hz.2).2⟩, q W1 H1 _ g1 (RL.r r1) itOk_rng⟩
      · cases em
    · rename_i ex; have := h1 _ _ _ ex; simp at this
    · cases em
theorem i_range3 (hg : Gl X "range") (hm : X.mg "range" = none) (ha : PA X [a, b, c] (gA X 0 ms)) (hs : starEach [a, b, c] X.env = (false, eval a X.env) :: starEach [b, c] X.env := by rfl) (hpl : (backTo pos (starEach [b, c] X.env)).any (·.1) = false := by rfl) (h1 : ∀ ρ ds ρ', ms ρ = some (ds, ρ') → ds.length = 3) : PI X tg (.Call (.Name "range" p) [a, b, c] [] pos) (gI X (iRange ms)) :=
  PIi (pi_range3 hg hm ha hs hpl) fun σ H Rj ⟨B, W, ts, tc, ρ, ds, ρ', r, hl, em, q⟩ => by
    unfold iRange at em
    split at em
    · rename_i ex; have := h1 _ _ _ ex; simp at this
    · rename_i ex; have := h1 _ _ _ ex; simp at this
    · rename_i i j ρ1 ex
      split at em
      · rename_i hz
        rw [Bool.and_eq_true] at hz
        cases em
        refine ⟨B, W, ts, tc, ρ, _, ρ', r, hl, ex, fun W1 H1 vs g1 r1 => ?_⟩
        obtain ⟨u, vr, rfl, hu, hvr⟩ := RL.rep0 r1
        obtain ⟨v, w, rfl, hv, hw⟩ := repL2 hvr
        cases (show u = _ from hu); cases (show v = _ from hv); cases (show w = _ from hw)
        exact ⟨i, j, -1, (i - j).toNat, rfl, RgC.neg (okRng_of hz.1).1 (okRng_of hz.1).2 (okRng_of hz.2).1 (okRng_of hz.2).2, q W1 H1 _ g1 (RL.r r1) itOk_rngC⟩
      · cases em
    · cases em
/-- enumerate(list) -/
def enumD : Nat → List D → List D
  | _, [] => []
  | i, d :: r => .tup [.int i, d] :: enumD (i + 1) r
theorem enumD_len : ∀ (l : List D) (i : Nat), (enumD i l).length = l.length
  | [], _ => rfl
  | _ :: r, i => by simp [enumD, enumD_len r]
theorem enumD_get : ∀ {l : List D} {j i : Nat} {d : D}, (enumD j l)[i]? = some d → ∃ x, l[i]? = some x ∧ d = .tup [.int ((j + i : Nat) : Int), x]
  | [], _, _, _, h => by simp [enumD] at h
  | x :: r, j, 0, d, h => by
    cases (show some (D.tup [.int (j : Nat), x]) = some d from h)
    exact ⟨x, rfl, rfl⟩
  | x :: r, j, i + 1, d, h => by
    obtain ⟨y, e, rfl⟩ := enumD_get (l := r) (j := j + 1) (i := i) (d := d) (by simpa [enumD] using h)
    exact ⟨y, by simpa using e, by rw [show j + 1 + i = j + (i + 1) by omega]⟩
/-- a new pair of what is shared, shared -/
theorem R.pair {K : PySem.W.Frag} {mg : Str → Option Value} {B W H : Hp} {vs : List (Option V)} {cs : List (Option Cell)} {ds : List D} {xs : List V} (r : R K mg B W H vs cs) (h : RepL K mg W ds xs) {p : Addr} (np : H p = none) :
    ∃ W2, Gr B W W2 ∧ R K mg B W2 (upd H p (.tup xs)) (some (.ref p) :: vs) (some (0, .tup ds) :: cs) := by
  have r1 := RL.tup (RL.of0 r h) np
  obtain ⟨W2, g, r2⟩ := R.down r1 (i := 0) (k := 1) (k' := 0) (d := .tup ds) rfl (Nat.zero_le _)
  exact ⟨W2, g, r2⟩
theorem itOk_enum {K : PySem.W.Frag} {mg : Str → Option Value} {W : Hp} {a : Addr} {vs : List V} {l : List D} (h1 : SqL K W a vs) (h2 : RepL K mg W l vs) : ItOk K mg (Ite K a) W (enumD 0 l) where
  go := fun i H s hi => by
    have : i < vs.length := by rw [h2.length]; rw [enumD_len] at hi; exact hi
    exact ⟨vs, vs[i], s.seq h1, by simp [this]⟩
  stop := fun H s => ⟨vs, s.seq h1, by rw [h2.length, enumD_len]; exact Nat.le_refl _⟩
  yld := fun B W1 H xs cs i x H' d s r e y => by
    obtain ⟨T, u, rfl, nT, rfl, f⟩ := y
    obtain ⟨z, ez, rfl⟩ := enumD_get e
    have hz := Rep.mono s _ _ (h2.uniq ez (f vs (r.sw.seq (s.seq h1))))
    exact R.pair (ds := [.int ((0 + i : Nat) : Int), z]) (xs := [.int (i : Nat), u]) r ⟨_, [u], rfl, by show V.int _ = V.int _; rw [Nat.zero_add], u, [], rfl, hz, rfl⟩ nT
def iEnumM (ms : Env → Option (List D × Env)) : Env → Option (List D × Env) := fun ρ => match ms ρ with
  | some ([.lst l], ρ1) => some (enumD 0 l, ρ1)
  | _ => none
theorem i_enum {elts : List Expr} {kk : Nat} {tpos : Pos} (hg : Gl X "enumerate") (hm : X.mg "enumerate" = none) (ha : PA X [e] (gA X 0 ms)) (hs : starEach [e] X.env = [(false, eval e X.env)] := by rfl) : PI X (.Tuple elts kk tpos) (.Call (.Name "enumerate" p) [e] [] pos) (gI X (iEnumM ms)) :=
  PIi (pi_enum hg hm ha hs) fun σ H Rj ⟨B, W, ts, tc, ρ, ds, ρ', r, hl, em, q⟩ => by
    unfold iEnumM at em
    split at em
    · rename_i l ρ1 ex
      cases em
      refine ⟨B, W, ts, tc, ρ, _, ρ', r, hl, ex, fun W1 H1 vs g1 r1 => ?_⟩
      obtain ⟨u, rfl, a, xs, rfl, h1, h2⟩ := repL1 (RL.rep0 r1)
      exact ⟨a, xs, rfl, (RL.r r1).sw.seq h1.sq, q W1 H1 _ g1 (RL.r r1) (itOk_enum h1.sq h2)⟩
    · cases em
/-- reversed(list) -/
theorem itOk_rev {K : PySem.W.Frag} {mg : Str → Option Value} {W : Hp} {a : Addr} {vs : List V} {l : List D} (h1 : SqL K W a vs) (h2 : RepL K mg W l vs) : ItOk K mg (Itv K a vs.length) W l.reverse where
  go := fun i H s hi => by
    have hi' : i < vs.length := by rw [h2.length]; simpa using hi
    exact ⟨hi', vs, vs[vs.length - 1 - i], s.seq h1, by rw [List.getElem?_eq_getElem]⟩
  stop := fun H s => by show vs.length ≤ l.reverse.length; rw [h2.length]; simp
  yld := fun B W1 H xs cs i x H' d s r e y => by
    obtain ⟨rfl, f⟩ := y
    have hi : i < l.length := by have := (List.getElem?_eq_some_iff.mp e).1; simpa using this
    have e2 : l[vs.length - 1 - i]? = some d := by rw [h2.length, ← List.getElem?_reverse hi]; exact e
    exact ⟨W1, Gr.refl B W1, r.push0 (Rep.mono s _ _ (h2.uniq e2 (f vs (r.sw.seq (s.seq h1)))))⟩
def iRevM (ms : Env → Option (List D × Env)) : Env → Option (List D × Env) := fun ρ => match ms ρ with
  | some ([.lst l], ρ1) => some (l.reverse, ρ1)
  | _ => none
theorem i_rev (hg : Gl X "reversed") (hm : X.mg "reversed" = none) (ha : PA X [e] (gA X 0 ms)) (hs : starEach [e] X.env = [(false, eval e X.env)] := by rfl) : PI X tg (.Call (.Name "reversed" p) [e] [] pos) (gI X (iRevM ms)) :=
  PIi (pi_reversed hg hm ha hs) fun σ H Rj ⟨B, W, ts, tc, ρ, ds, ρ', r, hl, em, q⟩ => by
    unfold iRevM at em
    split at em
    · rename_i l ρ1 ex
      cases em
      refine ⟨B, W, ts, tc, ρ, _, ρ', r, hl, ex, fun W1 H1 vs g1 r1 => ?_⟩
      obtain ⟨u, rfl, a, xs, rfl, h1, h2⟩ := repL1 (RL.rep0 r1)
      exact ⟨a, xs, rfl, (RL.r r1).sw.seq h1.sq, q W1 H1 _ g1 (RL.r r1) (itOk_rev h1.sq h2)⟩
    · cases em
/-- zip(list, list) -/
def zipD : List D → List D → List D
  | x :: xs, y :: ys => .tup [x, y] :: zipD xs ys
  | _, _ => []
theorem zipD_len : ∀ (l m : List D), (zipD l m).length = min l.length m.length
  | [], _ => by simp [zipD]
  | _ :: _, [] => by simp [zipD]
  | _ :: xs, _ :: ys => by simp [zipD, zipD_len xs ys]
theorem zipD_get : ∀ {l m : List D} {i : Nat} {d : D}, (zipD l m)[i]? = some d → ∃ x y, l[i]? = some x ∧ m[i]? = some y ∧ d = .tup [x, y]
  | [], _, _, _, h => by simp [zipD] at h
  | _ :: _, [], _, _, h => by simp [zipD] at h
  | x :: xs, y :: ys, 0, d, h => by
    cases (show some (D.tup [x, y]) = some d from h)
    exact ⟨x, y, rfl, rfl, rfl⟩
  | x :: xs, y :: ys, i + 1, d, h => by
    obtain ⟨a, b, e1, e2, e3⟩ := zipD_get (l := xs) (m := ys) (i := i) (d := d) (by simpa [zipD] using h)
    exact ⟨a, b, by simpa using e1, by simpa using e2, e3⟩
theorem itOk_zip {K : PySem.W.Frag} {mg : Str → Option Value} {W : Hp} {a b : Addr} {vs us : List V} {l m : List D} (h1 : SqL K W a vs) (h2 : RepL K mg W l vs) (h3 : SqL K W b us) (h4 : RepL K mg W m us) : ItOk K mg (Itz K a b) W (zipD l m) where
  go := fun i H s hi => by
    rw [zipD_len] at hi
    have hv : i < vs.length := by rw [h2.length]; omega
    have hu : i < us.length := by rw [h4.length]; omega
    exact ⟨vs, us, vs[i], us[i], s.seq h1, s.seq h3, by simp [hv], by simp [hu]⟩
  stop := fun H s => ⟨vs, us, s.seq h1, s.seq h3, by rw [zipD_len, h2.length, h4.length]; omega⟩
  yld := fun B W1 H xs cs i x H' d s r e y => by
    obtain ⟨T, u, u', rfl, nT, rfl, f, f'⟩ := y
    obtain ⟨z, z', ez, ez', rfl⟩ := zipD_get e
    exact R.pair (ds := [z, z']) (xs := [u, u']) r ⟨u, [u'], rfl, Rep.mono s _ _ (h2.uniq ez (f vs (r.sw.seq (s.seq h1)))), u', [], rfl, Rep.mono s _ _ (h4.uniq ez' (f' us (r.sw.seq (s.seq h3)))), rfl⟩ nT
def iZipM (ms : Env → Option (List D × Env)) : Env → Option (List D × Env) := fun ρ => match ms ρ with
  | some ([.lst l, .lst m], ρ1) => some (zipD l m, ρ1)
  | _ => none
theorem i_zip {elts : List Expr} {kk : Nat} {tpos : Pos} (hg : Gl X "zip") (hm : X.mg "zip" = none) (ha : PA X [a, b] (gA X 0 ms)) (hs : starEach [a, b] X.env = (false, eval a X.env) :: starEach [b] X.env := by rfl) (hpl : (backTo pos (starEach [b] X.env)).any (·.1) = false := by rfl) :
    PI X (.Tuple elts kk tpos) (.Call (.Name "zip" p) [a, b] [] pos) (gI X (iZipM ms)) :=
  PIi (pi_zip hg hm ha hs hpl) fun σ H Rj ⟨B, W, ts, tc, ρ, ds, ρ', r, hl, em, q⟩ => by
    unfold iZipM at em
    split at em
    · rename_i l m ρ1 ex
      cases em
      refine ⟨B, W, ts, tc, ρ, _, ρ', r, hl, ex, fun W1 H1 vs g1 r1 => ?_⟩
      obtain ⟨u, v, rfl, ⟨a, xs, rfl, h1, h2⟩, ⟨b, ys, rfl, h3, h4⟩⟩ := repL2 (RL.rep0 r1)
      exact ⟨a, b, xs, ys, rfl, (RL.r r1).sw.seq h1.sq, (RL.r r1).sw.seq h3.sq, q W1 H1 _ g1 (RL.r r1) (itOk_zip h1.sq h2 h3.sq h4)⟩
    · cases em
end
end Mn

namespace Mn
open PySem PySem.Spec PyProof.Rows L2
/-! ### for -/
/-- the turns of a for -/
def mLoop (tg : D → Env → Option Env) (body : Env → Option Out) : List D → Env → Option Out
  | [], ρ => some (.nx ρ)
  | d :: ds, ρ => match tg d ρ with
    | none => none
    | some ρ1 => match body ρ1 with
      | some (.nx ρ2) => mLoop tg body ds ρ2
      | some (.ct ρ2) => mLoop tg body ds ρ2
      | some (.bk ρ2) => some (.nx ρ2)
      | some (.rt c ρ2) => some (.rt c ρ2)
      | none => none
def sFor (it : Env → Option (List D × Env)) (tg : D → Env → Option Env) (body : Env → Option Out) : Env → Option Out := fun ρ => match it ρ with
  | some (ds, ρ1) => mLoop tg body ds ρ1
  | none => none
section
variable {X : Cx} {pr js : List Nat} {tgt iter e a b : Expr} {sts : List Stmt} {body : Env → Option Out} {it : Env → Option (List D × Env)} {tg : D → Env → Option Env} {pos : Pos} {t : Env → Option (Bool × Env)}
theorem Pr.off {pr js : List Nat} {σ σ1 σ2 : L2.St} (a : Pr pr σ σ1) (h : ∀ i, i ∉ js → σ2[i]? = σ1[i]?) (d : ∀ j ∈ js, j ∉ pr) : Pr pr σ σ2 := fun i hi => (h i fun z => d i z hi).trans (a i hi)
theorem s_for (hp : PassesOwn (model X.prog X.w) X.A X.env X.xe) (hc : X.calm = true) (hi : PI X tgt iter (gI X it)) (hg : PG X tgt (tgS X js tg)) (hb : PSs X sts (sS X pr body)) (hd : ∀ j ∈ js, j ∉ pr)
    (hs : ∀ x, foldedSetIterable iter X.env x = pure x := by intro _; rfl) : PS X (.For tgt iter sts [] pos) (sS X pr (sFor it tg body)) :=
  PSi (ps_for hp hc hi hg hb hs) fun Dn σ H ⟨B, W, ρ, o, r, em, q⟩ => by
    unfold sFor at em
    split at em
    · rename_i ds ρ1 ex
      refine ⟨B, W, [], [], ρ, ds, ρ1, r, rfl, ex, fun W1 H1 J g1 r1 ok => ?_⟩
      refine ⟨fun i m σi Hi => m = ds.length - i ∧ i ≤ ds.length ∧ ∃ Wi ρi, Gr B W1 Wi ∧ R X.K X.mg B Wi Hi σi ρi ∧ mLoop tg body (ds.drop i) ρi = some o ∧ Pr pr σ σi, ⟨ds.length, rfl, Nat.zero_le _, W1, ρ1, Gr.refl B W1, r1, em, Pr.refl⟩, ?_⟩
      rintro i m σi Hi ⟨rfl, hile, Wi, ρi, gi, ri, ei, pi⟩
      have sW : Same W1 Hi := gi.sm.trans ri.sw
      by_cases hlt : i < ds.length
      · refine .inr ⟨ok.go i Hi sW hlt, fun σ' H' => ∃ Wi' ρ', Gr B W1 Wi' ∧ R X.K X.mg B Wi' H' σ' ρ' ∧ mLoop tg body (ds.drop (i + 1)) ρ' = some o ∧ Pr pr σ σ', fun σ' H' ⟨Wi', ρ', g', r', e', p'⟩ => ⟨ds.length - (i + 1), by omega, rfl, hlt, Wi', ρ', g', r', e', p'⟩, fun x H' y => ?_⟩
        obtain ⟨W2, g2, r2⟩ := ok.yld B Wi Hi σi ρi i x H' ds[i] gi.sm ri (by simp [hlt]) y
        rw [List.drop_eq_getElem_cons hlt] at ei
        simp only [mLoop] at ei
        split at ei
        · cases ei
        · rename_i ρ2 et
          refine ⟨B, W2, [], [], ρi, ds[i], ρ2, R.drop r2, rfl, R.head0 r2, et, fun σ2 r3 k3 _ => ?_⟩
          have p3 : Pr pr σ σ2 := pi.off k3 hd
          have g3 := gi.trans g2
          split at ei
          · rename_i ρ3 eb
            exact ⟨B, W2, ρ2, _, r3, eb, fun W4 H4 σ4 g4 r4 p4 => ⟨W4, ρ3, g3.trans g4, r4, ei, p3.trans p4⟩⟩
          · rename_i ρ3 eb
            exact ⟨B, W2, ρ2, _, r3, eb, fun W4 H4 σ4 g4 r4 p4 => ⟨W4, ρ3, g3.trans g4, r4, ei, p3.trans p4⟩⟩
          · rename_i ρ3 eb
            cases ei
            exact ⟨B, W2, ρ2, _, r3, eb, fun W4 H4 σ4 g4 r4 p4 => q W4 H4 σ4 ((g1.trans g3).trans g4) r4 (p3.trans p4)⟩
          · rename_i c ρ3 eb
            cases ei
            exact ⟨B, W2, ρ2, _, r3, eb, fun W4 H4 σ4 v g4 r4 p4 => q W4 H4 σ4 v ((g1.trans g3).trans g4) r4 (p3.trans p4)⟩
          · cases ei
      · have e : i = ds.length := by omega
        subst e
        rw [List.drop_length] at ei
        cases ei
        exact .inl ⟨ok.stop Hi sW, q Wi Hi σi (g1.trans gi) ri pi⟩
    · cases em
/-! ### while -/
def mWhile (t : Env → Option (Bool × Env)) (body : Env → Option Out) : Nat → Env → Option Out
  | 0, _ => none
  | n + 1, ρ => match t ρ with
    | none => none
    | some (false, ρ1) => some (.nx ρ1)
    | some (true, ρ1) => match body ρ1 with
      | some (.nx ρ2) => mWhile t body n ρ2
      | some (.ct ρ2) => mWhile t body n ρ2
      | some (.bk ρ2) => some (.nx ρ2)
      | some (.rt c ρ2) => some (.rt c ρ2)
      | none => none
theorem s_while (N : Nat) (hp : PassesOwn (model X.prog X.w) X.A X.env X.xe) (hc : PT X a (gT X t)) (hb : PSs X sts (sS X pr body)) : PS X (.While a sts [] pos) (sS X pr (mWhile t body N)) :=
  PSi (ps_while hp hc hb) fun Dn σ H ⟨B, W, ρ, o, r, em, q⟩ => by
    refine ⟨fun m σi Hi => ∃ Wi ρi, Gr B W Wi ∧ R X.K X.mg B Wi Hi σi ρi ∧ mWhile t body m ρi = some o ∧ Pr pr σ σi, ⟨N, W, ρ, Gr.refl B W, r, em, Pr.refl⟩, ?_⟩
    rintro m σi Hi ⟨Wi, ρi, gi, ri, ei, pi⟩
    cases m with
    | zero => cases ei
    | succ m =>
      simp only [mWhile] at ei
      split at ei
      · cases ei
      · rename_i ρ1 et
        cases ei
        exact ⟨B, Wi, [], [], ρi, false, ρ1, ri, rfl, et, fun W2 H2 g2 r2 => iteF (q W2 H2 σi (gi.trans g2) r2 pi)⟩
      · rename_i ρ1 et
        refine ⟨B, Wi, [], [], ρi, true, ρ1, ri, rfl, et, fun W2 H2 g2 r2 => iteT ⟨fun σ' H' => ∃ Wi' ρ', Gr B W Wi' ∧ R X.K X.mg B Wi' H' σ' ρ' ∧ mWhile t body m ρ' = some o ∧ Pr pr σ σ', fun σ' H' h => ⟨m, Nat.lt_succ_self _, h⟩, ?_⟩⟩
        have g3 := gi.trans g2
        split at ei
        · rename_i ρ3 eb
          exact ⟨B, W2, ρ1, _, r2, eb, fun W4 H4 σ4 g4 r4 p4 => ⟨W4, ρ3, g3.trans g4, r4, ei, pi.trans p4⟩⟩
        · rename_i ρ3 eb
          exact ⟨B, W2, ρ1, _, r2, eb, fun W4 H4 σ4 g4 r4 p4 => ⟨W4, ρ3, g3.trans g4, r4, ei, pi.trans p4⟩⟩
        · rename_i ρ3 eb
          cases ei
          exact ⟨B, W2, ρ1, _, r2, eb, fun W4 H4 σ4 g4 r4 p4 => q W4 H4 σ4 (g3.trans g4) r4 (pi.trans p4)⟩
        · rename_i c ρ3 eb
          cases ei
          exact ⟨B, W2, ρ1, _, r2, eb, fun W4 H4 σ4 v g4 r4 p4 => q W4 H4 σ4 v (g3.trans g4) r4 (pi.trans p4)⟩
        · cases ei
/-! ### list comprehensions -/
def wipeE (ρ : Env) : List Nat → Env
  | [] => ρ
  | v :: vs => (wipeE ρ vs).set v none
theorem wipeE_get {ρ : Env} {i : Nat} {c : Cell} : ∀ {vs : List Nat}, (wipeE ρ vs)[i]? = some (some c) → i ∉ vs ∧ ρ[i]? = some (some c)
  | [], h => ⟨by simp, h⟩
  | v :: vs, h => by
    unfold wipeE at h
    by_cases hi : v = i
    · subst hi
      by_cases hv : v < (wipeE ρ vs).length
      · rw [List.getElem?_set_self hv] at h; cases h
      · rw [List.getElem?_eq_none (by simpa using hv)] at h; cases h
    · rw [List.getElem?_set_ne hi] at h
      obtain ⟨h1, h2⟩ := wipeE_get h
      exact ⟨by simp only [List.mem_cons, not_or]; exact ⟨fun e => hi e.symm, h1⟩, h2⟩
theorem wipe_off {σ : L2.St} {i : Nat} : ∀ {vs : List Nat}, i ∉ vs → (wipe σ vs)[i]? = σ[i]?
  | [], _ => rfl
  | v :: vs, h => by
    unfold wipe
    simp only [List.mem_cons, not_or] at h
    rw [List.getElem?_set_ne (fun z => h.1 z.symm)]
    exact wipe_off h.2
theorem R.wipe {K : PySem.W.Frag} {mg : Str → Option Value} {B W H : Hp} {ts : List (Option V)} {tc : List (Option Cell)} {σ : L2.St} {ρ : Env} (hl : ts.length = tc.length) (r : R K mg B W H (ts ++ σ) (tc ++ ρ)) : ∀ vs : List Nat, R K mg B W H (ts ++ L2.wipe σ vs) (tc ++ wipeE ρ vs)
  | [] => r
  | v :: vs => by
    have r1 := (R.wipe hl r vs).clear (tc.length + v) none
    rw [set_app, ← hl, set_app] at r1
    exact r1
/-- other slots under cells that hold nothing -/
theorem R.unwipe {K : PySem.W.Frag} {mg : Str → Option Value} {B W H : Hp} {ts : List (Option V)} {tc : List (Option Cell)} {σ σ' : L2.St} {ρ : Env} {vs : List Nat} (hl : ts.length = tc.length) (r : R K mg B W H (ts ++ σ) (tc ++ wipeE ρ vs)) (hs : σ'.length = σ.length) (h : ∀ i, i ∉ vs → σ'[i]? = σ[i]?) : R K mg B W H (ts ++ σ') (tc ++ wipeE ρ vs) := by
  refine r.reslot (by simp [hs]) fun i c e => ?_
  by_cases hi : i < tc.length
  · rw [List.getElem?_append_left (by omega), List.getElem?_append_left (by omega)]
  · obtain ⟨j, rfl⟩ : ∃ j, i = tc.length + j := ⟨i - tc.length, by omega⟩
    rw [get_app] at e
    rw [← hl, get_app, get_app]
    exact h j (wipeE_get e).1
theorem wipe_eq {σ σ2 : L2.St} {js : List Nat} : ∀ {vs : List Nat}, σ2.length = σ.length → (∀ i, i ∉ vs → σ2[i]? = σ[i]?) → wipe σ2 vs = wipe σ vs := fun {vs} hl h => by
  refine List.ext_getElem? fun i => ?_
  by_cases hi : i ∈ vs
  · have key : ∀ (σ : L2.St) (vs : List Nat), i ∈ vs → i < σ.length → (wipe σ vs)[i]? = some none := by
      intro σ vs
      induction vs with
      | nil => intro h; simp at h
      | cons v vs ih =>
        intro h hlt
        unfold wipe
        by_cases hv : v = i
        · subst hv
          rw [List.getElem?_set_self (by rw [wipe_length]; exact hlt)]
        · rw [List.getElem?_set_ne hv]
          rcases List.mem_cons.mp h with z | z
          · exact absurd z.symm hv
          · exact ih z hlt
    by_cases hlt : i < σ.length
    · rw [key σ2 vs hi (by omega), key σ vs hi hlt]
    · rw [List.getElem?_eq_none (by rw [wipe_length]; omega), List.getElem?_eq_none (by rw [wipe_length]; omega)]
  · rw [wipe_off hi, wipe_off hi]
    exact h i hi
/-- the turns of a list comprehension -/
def mCompL (kc : Nat) (tg : D → Env → Option Env) (t : Env → Option (Bool × Env)) (x : Env → Option (Cell × Env)) (own : List Nat) : List D → Env → Option (List D × Env)
  | [], ρ => some ([], ρ)
  | d :: ds, ρ => match tg d ρ with
    | none => none
    | some ρ1 => match t ρ1 with
      | none => none
      | some (false, ρ2) => mCompL kc tg t x own ds (wipeE ρ2 own)
      | some (true, ρ2) => match x ρ2 with
        | none => none
        | some (c, ρ3) => if fit kc c then (match mCompL kc tg t x own ds (wipeE ρ3 own) with
          | some (rs, ρ4) => some (c.2 :: rs, ρ4)
          | none => none) else none
def mComp (kc : Nat) (it : Env → Option (List D × Env)) (tg : D → Env → Option Env) (t : Env → Option (Bool × Env)) (x : Env → Option (Cell × Env)) (own : List Nat) : Env → Option (Cell × Env) := fun ρ => match it ρ with
  | some (ds, ρ1) => if ds.length < sizeLine then (match mCompL kc tg t x own ds (wipeE ρ1 own) with
    | some (rs, ρ2) => some ((kc + 1, .lst rs), ρ2)
    | none => none) else none
  | none => none
theorem mCompL_len {kc : Nat} {t : Env → Option (Bool × Env)} {x : Env → Option (Cell × Env)} {own : List Nat} : ∀ {ds : List D} {ρ : Env} {rs : List D} {ρ' : Env}, mCompL kc tg t x own ds ρ = some (rs, ρ') → rs.length ≤ ds.length
  | [], _, _, _, h => by cases h; exact Nat.le_refl _
  | d :: ds, ρ, rs, ρ', h => by
    simp only [mCompL] at h
    split at h
    · cases h
    · split at h
      · cases h
      · exact Nat.le_trans (mCompL_len h) (Nat.le_succ _)
      · split at h
        · cases h
        · split at h
          · split at h
            · rename_i e
              cases h
              exact Nat.succ_le_succ (mCompL_len e)
            · cases h
          · cases h
theorem wipeE_wiped {ρ : Env} {own : List Nat} : wipeE (wipeE ρ own) own = wipeE ρ own := by
  have key : ∀ (vs : List Nat) (ρ : Env), (∀ i ∈ vs, ∀ c, ρ[i]? ≠ some (some c)) → wipeE ρ vs = ρ := by
    intro vs
    induction vs with
    | nil => intro ρ _; rfl
    | cons v vs ih =>
      intro ρ h
      unfold wipeE
      rw [ih ρ fun i hi => h i (List.mem_cons_of_mem _ hi)]
      by_cases hv : v < ρ.length
      · refine set_self ?_
        have hh := h v List.mem_cons_self
        rw [List.getElem?_eq_getElem hv] at hh ⊢
        cases q : ρ[v] with
        | none => rfl
        | some c => rw [q] at hh; exact absurd rfl (hh c)
      · exact List.set_eq_of_length_le (by omega)
  exact key own _ fun i hi c e => (wipeE_get e).1 hi
/-- the reading of a list comprehension -/
theorem comp_imp {kc : Nat} {own : List Nat} {ti : TI} {tt : TT} {te : TE} {tgr : TG} {t : Env → Option (Bool × Env)} {x : Env → Option (Cell × Env)} {σ : L2.St} {H : Hp} {Q : VK}
    (hti : ∀ σ H R, gI X it σ H R → ti σ H R) (htg : ∀ v σ H Q, tgS X js tg v σ H Q → tgr v σ H Q) (htt : ∀ σ H Q, gT X t σ H Q → tt σ H Q) (hte : ∀ σ H Q, gS X x σ H Q → te σ H Q) (hjs : ∀ j ∈ js, j ∈ own)
    (h : gS X (mComp kc it tg t x own) σ H Q) : tLc ti tgr tt te own σ H Q := by
  obtain ⟨B, W, ts, tc, ρ, cl, ρ', r, hl, em, q⟩ := h
  unfold mComp at em
  split at em
  · rename_i ds ρ1 ex
    split at em
    · rename_i hz
      split at em
      · rename_i rs ρ2 ec
        cases em
        refine hti _ _ _ ⟨B, W, ts, tc, ρ, ds, ρ1, r, hl, ex, fun W1 H1 J g1 r1 ok D0 nD => ?_⟩
        have rD : R X.K X.mg B W1 (upd H1 D0 (.lst [])) (some (.ref D0) :: (ts ++ σ)) (some (kc + 1, .lst []) :: (tc ++ ρ1)) := RL.lst (k := kc) (RL.nil r1) nD
        have rW := R.wipe (ts := some (.ref D0) :: ts) (tc := some (kc + 1, .lst []) :: tc) (by simp [hl]) rD own
        refine ⟨fun i m Hi => m = ds.length - i ∧ i ≤ ds.length ∧ ∃ Wi ρi acc rs', Gr B W1 Wi ∧ R X.K X.mg B Wi Hi (some (.ref D0) :: (ts ++ wipe σ own)) (some (kc + 1, .lst acc) :: (tc ++ wipeE ρi own)) ∧ mCompL kc tg t x own (ds.drop i) (wipeE ρi own) = some (rs', ρ') ∧ acc ++ rs' = rs ∧ acc.length ≤ i,
          ⟨ds.length, rfl, Nat.zero_le _, W1, ρ1, [], rs, Gr.refl B W1, rW, ec, rfl, Nat.le_refl _⟩, ?_⟩
        rintro i m Hi ⟨rfl, hile, Wi, ρi, acc, rs', gi, ri, ei, ea, hacc⟩
        have sW : Same W1 Hi := gi.sm.trans ri.sw
        by_cases hlt : i < ds.length
        · refine .inr ⟨ok.go i Hi sW hlt, fun H' => ∃ Wi' ρi' acc' rs', Gr B W1 Wi' ∧ R X.K X.mg B Wi' H' (some (.ref D0) :: (ts ++ wipe σ own)) (some (kc + 1, .lst acc') :: (tc ++ wipeE ρi' own)) ∧ mCompL kc tg t x own (ds.drop (i + 1)) (wipeE ρi' own) = some (rs', ρ') ∧ acc' ++ rs' = rs ∧ acc'.length ≤ i + 1,
            fun H' ⟨Wi', ρi', acc', rs'', g', r', e', a', l'⟩ => ⟨ds.length - (i + 1), by omega, rfl, hlt, Wi', ρi', acc', rs'', g', r', e', a', l'⟩, fun v H' y => ?_⟩
          obtain ⟨W2, g2, r2⟩ := ok.yld B Wi Hi _ _ i v H' ds[i] gi.sm ri (by simp [hlt]) y
          rw [List.drop_eq_getElem_cons hlt] at ei
          simp only [mCompL] at ei
          split at ei
          · cases ei
          · rename_i ρ3 et
            refine htg _ _ _ _ ⟨B, W2, some (.ref D0) :: ts, some (kc + 1, .lst acc) :: tc, wipeE ρi own, ds[i], ρ3, R.drop r2, by simp [hl], R.head0 r2, et, fun σ2 r3 k3 l3 => ?_⟩
            have hw : wipe σ2 own = wipe σ own := by
              have h1 : wipe σ2 own = wipe (wipe σ own) own := wipe_eq (js := js) (by rw [l3]) fun i hi => k3 i fun z => hi (hjs i z)
              rw [h1]
              exact wipe_eq (js := js) (by rw [wipe_length]) fun i hi => wipe_off hi
            refine ⟨hw, ?_⟩
            have g3 := gi.trans g2
            -- a turn's end
            have fin : ∀ {W4 H4 : Hp} {ρ4 : Env} {acc4 : List D}, Gr B W2 W4 → R X.K X.mg B W4 H4 (some (.ref D0) :: (ts ++ σ2)) (some (kc + 1, .lst acc4) :: (tc ++ ρ4)) → R X.K X.mg B W4 H4 (some (.ref D0) :: (ts ++ wipe σ own)) (some (kc + 1, .lst acc4) :: (tc ++ wipeE ρ4 own)) := fun {W4 H4 ρ4 acc4} g4 r4 => by
              have r5 := R.wipe (ts := some (.ref D0) :: ts) (tc := some (kc + 1, .lst acc4) :: tc) (by simp [hl]) r4 own
              rw [hw] at r5
              exact r5
            split at ei
            · cases ei
            · rename_i ρ4 eb
              refine htt _ _ _ ⟨B, W2, some (.ref D0) :: ts, some (kc + 1, .lst acc) :: tc, ρ3, false, ρ4, r3, by simp [hl], eb, fun W4 H4 g4 r4 => ?_⟩
              show if false = true then _ else _
              exact iteF ⟨W4, ρ4, acc, rs', g3.trans g4, fin g4 r4, ei, ea, by omega⟩
            · rename_i ρ4 eb
              split at ei
              · cases ei
              · rename_i c ρ5 exx
                split at ei
                · rename_i hf
                  split at ei
                  · rename_i rs2 ρ6 er
                    cases ei
                    refine htt _ _ _ ⟨B, W2, some (.ref D0) :: ts, some (kc + 1, .lst acc) :: tc, ρ3, true, ρ4, r3, by simp [hl], eb, fun W4 H4 g4 r4 => ?_⟩
                    show if true = true then _ else _
                    refine iteT (hte _ _ _ ⟨B, W4, some (.ref D0) :: ts, some (kc + 1, .lst acc) :: tc, ρ4, c, ρ5, r4, by simp [hl], exx, fun W5 H5 y g5 r5 => ?_⟩)
                    obtain ⟨W6, v0, p, xs, ev, pv, hp, hx, g6, r6⟩ := R.pathApp (k := kc) (js := []) (l := acc) (d := .lst acc) r5 (i := 0) rfl rfl hf
                    have ev2 : some (some (V.ref D0)) = some (some v0) := ev
                    cases ev2
                    cases pv
                    refine ⟨xs, hp, by rw [hx]; omega, W6, ρ5, acc ++ [c.2], rs2, ((g3.trans g4).trans g5).trans g6, fin ((g4.trans g5).trans g6) r6, er, by rw [List.append_assoc]; exact ea, by rw [List.length_append]; simp; omega⟩
                  · cases ei
                · cases ei
        · have e : i = ds.length := by omega
          subst e
          rw [List.drop_length] at ei
          cases ei
          rw [List.append_nil] at ea
          subst ea
          refine .inl ⟨ok.stop Hi sW, q Wi Hi (.ref D0) (g1.trans gi) ?_⟩
          exact R.unwipe (ts := some (.ref D0) :: ts) (tc := some (kc + 1, .lst acc) :: tc) (by simp [hl]) ri (by rw [wipe_length]) fun i hi => (wipe_off hi).symm
      · cases em
    · cases em
  · cases em
/-- no test -/
def tYesM : Env → Option (Bool × Env) := fun ρ => some (true, ρ)
theorem yes_imp {σ : L2.St} {H : Hp} {Q : Bool → Hp → Prop} (h : gT X tYesM σ H Q) : tYes σ H Q := by
  obtain ⟨B, W, ts, tc, ρ, cl, ρ', r, hl, em, q⟩ := h
  cases em
  exact q W H (Gr.refl B W) r
theorem g_comp {kc : Nat} {elt tgt iter : Expr} {scope : Scope} {own : List (Str × Nat)} {x : Env → Option (Cell × Env)} (hc : X.calm = true) (hN : X.N.Nodup) (hi : PI X tgt iter (gI X it)) (ok : BlkOk X.N X.env.scope scope own)
    (hg : ∀ (s : Shared) (H : Hp) (C : Addr) (cl : List (Str × Addr)) (fp : List Addr), PG (X.blk s H scope (compEnvC scope cl C X.env) fp) tgt (tgS X js tg))
    (he : ∀ (s : Shared) (H : Hp) (C : Addr) (cl : List (Str × Addr)) (fp : List Addr), PE (X.blk s H scope (compEnvC scope cl C X.env) fp) elt (gS X x)) (hjs : ∀ j ∈ js, j ∈ own.map (·.2)) (hs : ∀ x, foldedSetIterable iter X.env x = pure x := by intro _; rfl) :
    PE X (.ListComp elt [⟨tgt, iter, [], 0⟩] scope pos) (gS X (mComp kc it tg tYesM x (own.map (·.2)))) :=
  PEi (pe_lc hc hN hi ok hg (fun _ _ _ _ _ => pts_nil) he hs) fun σ H Q h => comp_imp (fun _ _ _ h => h) (fun _ _ _ _ h => h) (fun _ _ _ h => yes_imp h) (fun _ _ _ h => h) hjs h
theorem g_compIf {kc : Nat} {elt tgt iter cond : Expr} {scope : Scope} {own : List (Str × Nat)} {x : Env → Option (Cell × Env)} {t : Env → Option (Bool × Env)} (hc : X.calm = true) (hN : X.N.Nodup) (hi : PI X tgt iter (gI X it)) (ok : BlkOk X.N X.env.scope scope own)
    (hg : ∀ (s : Shared) (H : Hp) (C : Addr) (cl : List (Str × Addr)) (fp : List Addr), PG (X.blk s H scope (compEnvC scope cl C X.env) fp) tgt (tgS X js tg))
    (ht : ∀ (s : Shared) (H : Hp) (C : Addr) (cl : List (Str × Addr)) (fp : List Addr), PT (X.blk s H scope (compEnvC scope cl C X.env) fp) cond (gT X t))
    (he : ∀ (s : Shared) (H : Hp) (C : Addr) (cl : List (Str × Addr)) (fp : List Addr), PE (X.blk s H scope (compEnvC scope cl C X.env) fp) elt (gS X x)) (hjs : ∀ j ∈ js, j ∈ own.map (·.2)) (hs : ∀ x, foldedSetIterable iter X.env x = pure x := by intro _; rfl) :
    PE X (.ListComp elt [⟨tgt, iter, [cond], 0⟩] scope pos) (gS X (mComp kc it tg t x (own.map (·.2)))) :=
  PEi (pe_lc hc hN hi ok hg (fun s H C cl fp => pts_one (ht s H C cl fp)) he hs) fun σ H Q h => comp_imp (fun _ _ _ h => h) (fun _ _ _ _ h => h) (fun _ _ _ h => h) (fun _ _ _ h => h) hjs h
/-- y = [..] on one line -/
theorem s_setComp {kc i : Nat} {y : Str} {py spos : Pos} {elt tgt iter : Expr} {scope : Scope} {own : List (Str × Nat)} {x : Env → Option (Cell × Env)} (hc : X.calm = true) (hN : X.N.Nodup) (hy : X.N[i]? = some y) (hyl : X.env.scope.names.lookup y = some .local) (hp : i ∉ pr)
    (hsw : swapsWith (.ListComp elt [⟨tgt, iter, [], 0⟩] scope pos) (some (.Name y py)) spos.line X.env = pure true) (hi : PI X tgt iter (gI X it)) (ok : BlkOk X.N X.env.scope scope own)
    (hg : ∀ (s : Shared) (H : Hp) (C : Addr) (cl : List (Str × Addr)) (fp : List Addr), PG (X.blk s H scope (compEnvC scope cl C X.env) fp) tgt (tgS X js tg))
    (he : ∀ (s : Shared) (H : Hp) (C : Addr) (cl : List (Str × Addr)) (fp : List Addr), PE (X.blk s H scope (compEnvC scope cl C X.env) fp) elt (gS X x)) (hjs : ∀ j ∈ js, j ∈ own.map (·.2)) (hs : ∀ x, foldedSetIterable iter X.env x = pure x := by intro _; rfl) :
    PS X (.Assign [.Name y py] (.ListComp elt [⟨tgt, iter, [], 0⟩] scope pos) spos) (sS X pr (sAsg i (mComp kc it tg tYesM x (own.map (·.2))))) :=
  PSi (ps_setLc hc hN hy hyl hsw hi ok hg (fun _ _ _ _ _ => pts_nil) he hs) fun Dn σ H h => comp_imp (fun _ _ _ h => h) (fun _ _ _ _ h => h) (fun _ _ _ h => yes_imp h) (fun _ _ _ h => h) hjs (asg_imp hp h)
theorem s_setCompIf {kc i : Nat} {y : Str} {py spos : Pos} {elt tgt iter cond : Expr} {scope : Scope} {own : List (Str × Nat)} {x : Env → Option (Cell × Env)} {t : Env → Option (Bool × Env)} (hc : X.calm = true) (hN : X.N.Nodup) (hy : X.N[i]? = some y) (hyl : X.env.scope.names.lookup y = some .local) (hp : i ∉ pr)
    (hsw : swapsWith (.ListComp elt [⟨tgt, iter, [cond], 0⟩] scope pos) (some (.Name y py)) spos.line X.env = pure true) (hi : PI X tgt iter (gI X it)) (ok : BlkOk X.N X.env.scope scope own)
    (hg : ∀ (s : Shared) (H : Hp) (C : Addr) (cl : List (Str × Addr)) (fp : List Addr), PG (X.blk s H scope (compEnvC scope cl C X.env) fp) tgt (tgS X js tg))
    (ht : ∀ (s : Shared) (H : Hp) (C : Addr) (cl : List (Str × Addr)) (fp : List Addr), PT (X.blk s H scope (compEnvC scope cl C X.env) fp) cond (gT X t))
    (he : ∀ (s : Shared) (H : Hp) (C : Addr) (cl : List (Str × Addr)) (fp : List Addr), PE (X.blk s H scope (compEnvC scope cl C X.env) fp) elt (gS X x)) (hjs : ∀ j ∈ js, j ∈ own.map (·.2)) (hs : ∀ x, foldedSetIterable iter X.env x = pure x := by intro _; rfl) :
    PS X (.Assign [.Name y py] (.ListComp elt [⟨tgt, iter, [cond], 0⟩] scope pos) spos) (sS X pr (sAsg i (mComp kc it tg t x (own.map (·.2))))) :=
  PSi (ps_setLc hc hN hy hyl hsw hi ok hg (fun s H C cl fp => pts_one (ht s H C cl fp)) he hs) fun Dn σ H h => comp_imp (fun _ _ _ h => h) (fun _ _ _ _ h => h) (fun _ _ _ h => h) (fun _ _ _ h => h) hjs (asg_imp hp h)
end
end Mn

namespace Mn
open PySem PySem.Spec PyProof.Rows L2
section
variable {X : Cx} {pins : List (Addr × Obj)} {σ : L2.St} {H : Hp} {s : Shared} {a : Addr} {xs : List V}
theorem Inv.listX (I : Inv X pins σ H s) (h : SqX X.K H a xs) : xs.length ≤ sizeLine ∧ ∃ (its : List Value) (n : Nat), Vals xs its ∧ xs.length = its.length ∧ s.heap.get? a = some { cls := .type "list", data := .seq its.toArray n } := by
  rcases h with h | ⟨its, n, hk, hz, r⟩
  · obtain ⟨z, its, n, r, e⟩ := h.ok I.hok
    exact ⟨z, its, n, r, r.length, e⟩
  · have e := r.length
    refine ⟨by simp only [Array.length_toList] at e; omega, its.toList, n, r, e, ?_⟩
    have := I.kIn a _ hk
    rw [this]
def rCatX (K : PySem.W.Frag) : R2 := fun x y H Q => ∃ l b xs zs, x = .ref l ∧ y = .ref b ∧ SqX K H l xs ∧ SqX K H b zs ∧ xs.length + zs.length ≤ sizeLine ∧ ∀ p, H p = none → Q (.ref p) (upd H p (.lst (xs ++ zs)))
theorem op_catX : OpR X (binaryOp .Add) (rCatX X.K) := by
  intro pins s σ H x y v u Q I rx ry h
  obtain ⟨l, b, xs, zs, rfl, rfl, hH, hB, hz, q⟩ := h
  cases rx
  cases ry
  obtain ⟨z, its, n, r, hl, e⟩ := Mn.Inv.listX I hH
  obtain ⟨z2, its2, n2, r2, hl2, e2⟩ := Mn.Inv.listX I hB
  refine PySem.P.add_list e e2 ?_ (by rw [List.size_toArray, List.size_toArray]; omega)
  have ea : its.toArray ++ its2.toArray = (its ++ its2).toArray := by simp
  rw [ea]
  exact ⟨.ref _, _, I.lnew (t' := s.toks) (r.append r2) (by rw [List.length_append]; omega), rfl, q _ I.fresh⟩
def rRepX (K : PySem.W.Frag) : R2 := fun x y H Q => ∃ l k xs, x = .ref l ∧ y = .int k ∧ SqX K H l xs ∧ -(2 ^ 63) ≤ k ∧ k < 2 ^ 63 ∧ xs.length * k.toNat ≤ sizeLine ∧
  ∀ p, H p = none → Q (.ref p) (upd H p (.lst (List.replicate k.toNat xs).flatten))
theorem op_repX : OpR X (binaryOp .Mult) (rRepX X.K) := by
  intro pins s σ H x y v u Q I rx ry h
  obtain ⟨l, k, xs, rfl, rfl, hH, h1, h2, hz, q⟩ := h
  cases rx
  obtain ⟨t, rfl⟩ := ry
  obtain ⟨z, its, n, r, hl, e⟩ := Mn.Inv.listX I hH
  have hlen : its.toArray.size * k.toNat ≤ sizeLine := by rw [List.size_toArray, ← hl]; exact hz
  have hcap : ¬ its.toArray.size * k.toNat > (2 ^ 63 - 1) / 8 := by
    have : (sizeLine : Nat) ≤ (2 ^ 63 - 1) / 8 := by decide
    omega
  have hfit : ¬ (!Builtin.List.listFitsIndex k) = true := by
    rw [fitsIndex_both h1 h2]
    exact Bool.false_ne_true
  have hlong : ¬ Builtin.List.listTooLong (its.toArray.size * k.toNat) = true := by
    rw [notLongL hlen]
    exact Bool.false_ne_true
  have hnew : List.foldl (fun x1 x2 => x1 ++ x2) #[] (List.replicate (if its.toArray.isEmpty = true then 0 else k.toNat) its.toArray) = (List.replicate k.toNat its).flatten.toArray := by
    have f0 : ∀ m : Nat, List.foldl (fun x1 x2 => x1 ++ x2) #[] (List.replicate m its.toArray) = (List.replicate m its).flatten.toArray := fun m => by
      have := foldl_rep its m []
      rw [List.nil_append] at this
      exact this
    rw [f0]
    cases its with
    | nil => simp
    | cons a r' => rw [if_neg (by simp)]
  refine wpAny_binaryOp_repeat_ref (T := "list") (U := "int") (by decide) ⟨_, e, rfl⟩ (fun s' => typeIs_int s' k t) noFill_list_mul F.fills_int_mul F.slot_int_rmul repeat_list F.slot_int_index.lookup
    (call_meets F.slot_int_rmul (typeIs_int s k t) F.entry_int_rmul (F.args_int_rmul_2 _ _) (int___rmul___int_list k t l its.toArray n)
      ⟨e, rfl, ⟨_, e, rfl⟩, call_meets F.slot_list_mul ⟨_, e, rfl⟩ F.entry_list_mul (F.args_list_mul_2 _ _) (AutoListH.list___mul___list_int_3 l its.toArray n k t hfit hcap hlong) ⟨e, ?_⟩⟩)
  rw [hnew]
  exact ⟨.ref _, _, I.lnew (t' := s.toks) (r.rep k.toNat) (by rw [PyProof.Rows.lm_len_rep_flat, Nat.mul_comm]; exact hz), rfl, q _ I.fresh⟩
end
/-! ### operators that may make something new of shared operands -/
def OpF (X : Cx) (o : D → D → Option Cell) (r : R2) : Prop := ∀ (B W H : Hp) (vs : List (Option V)) (cs : List (Option Cell)) (x y : D) (c : Cell) (u v : V) (Q : VK), o x y = some c → R X.K X.mg B W H vs cs → Rep X.K X.mg W x u → Rep X.K X.mg W y v →
  (∀ W' H' w, Gr B W W' → R X.K X.mg B W' H' (some w :: vs) (some c :: cs) → Q w H') → r u v H Q
def OpF1 (X : Cx) (o : List D → Option Cell) (r : List V → Hp → VK → Prop) : Prop := ∀ (B W H : Hp) (vs : List (Option V)) (cs : List (Option Cell)) (xs : List D) (c : Cell) (us : List V) (Q : VK), o xs = some c → R X.K X.mg B W H vs cs → RepL X.K X.mg W xs us →
  (∀ W' H' w, Gr B W W' → R X.K X.mg B W' H' (some w :: vs) (some c :: cs) → Q w H') → r us H Q
def mBinF (o : D → D → Option Cell) (m n : Env → Option (Cell × Env)) : Env → Option (Cell × Env) := fun ρ => match m ρ with
  | some (c, ρ1) => (match n ρ1 with
    | some (c', ρ2) => (match o c.2 c'.2 with
      | some d => some (d, ρ2)
      | none => none)
    | none => none)
  | none => none
def mCallF (o : List D → Option Cell) (ms : Env → Option (List D × Env)) : Env → Option (Cell × Env) := fun ρ => match ms ρ with
  | some (ds, ρ1) => (match o ds with
      | some d => some (d, ρ1)
      | none => none)
  | none => none
section
variable {X : Cx} {a b c e : Expr} {es : List Expr} {f g : Env → Option D} {m n : Env → Option (Cell × Env)} {ms : Env → Option (List D × Env)} {pos : Pos} {σ : L2.St} {H : Hp} {ρ : Env} {k : Nat}
theorem mBinF_imp {o : D → D → Option Cell} {r : R2} (w : OpF X o r) {Q : VK} (h : gS X (mBinF o m n) σ H Q) : tOp r (gS X m) (gS X n) σ H Q := by
  obtain ⟨B, W, ts, tc, ρ, cl, ρ', r, hl, e, q⟩ := h
  unfold mBinF at e
  split at e
  · rename_i c ρ1 em
    split at e
    · rename_i c' ρ2 en
      split at e
      · rename_i d ed
        cases e
        refine ⟨B, W, ts, tc, ρ, c, ρ1, r, hl, em, fun W1 H1 u g1 r1 => ?_⟩
        obtain ⟨W2, g2, r2, hu⟩ := R.pop r1
        refine ⟨B, W2, ts, tc, ρ1, c', ρ', r2, hl, en, fun W3 H3 v g3 r3 => ?_⟩
        obtain ⟨W4, g4, r4, hv⟩ := R.pop r3
        exact w B W4 H3 _ _ c.2 c'.2 cl u v Q ed r4 (Rep.mono (g3.sm.trans g4.sm) _ _ hu) hv fun W5 H5 z g5 r5 => q W5 H5 z ((((g1.trans g2).trans g3).trans g4).trans g5) r5
      · cases e
    · cases e
  · cases e
theorem g_opF {op : Operator} {o : D → D → Option Cell} {r : R2} (ho : OpR X (binaryOp op) r) (w : OpF X o r) (ha : PE X a (gS X m)) (hb : PE X b (gS X n)) : PE X (.BinOp a op b pos) (gS X (mBinF o m n)) :=
  PEi (pe_op ho ha hb) fun σ H Q h => mBinF_imp w h
theorem mCallF_imp {o : List D → Option Cell} {r : List V → Hp → VK → Prop} (w : OpF1 X o r) {Q : VK} (h : gS X (mCallF o ms) σ H Q) : tCB r (gA X 0 ms) σ H Q := by
  obtain ⟨B, W, ts, tc, ρ, cl, ρ', r, hl, e, q⟩ := h
  unfold mCallF at e
  split at e
  · rename_i ds ρ1 em
    split at e
    · rename_i d ed
      cases e
      exact ⟨B, W, ts, tc, ρ, ds, ρ', r, hl, em, fun W1 H1 vs g1 r1 => w B W1 H1 _ _ ds cl vs Q ed (RL.r r1) (RL.rep0 r1) fun W5 H5 z g5 r5 => q W5 H5 z (g1.trans g5) r5⟩
    · cases e
  · cases e
theorem g_callB {id : String} {o : List D → Option Cell} {r : List V → Hp → VK → Prop} {x : Str} {p : Pos} (hc : CallR X (.builtin id) r) (w : OpF1 X o r) (hg : Gl X x) (hm : X.mg x = none) (hv : bootBuiltins x = some (.builtin id)) (ha : PA X (e :: es) (gA X 0 ms)) (hn : x ≠ "__name__" := by decide) (hdb : (x == ("__debug__" : Str)) = false := by decide)
    (he : starEach (e :: es) X.env = (false, eval e X.env) :: starEach es X.env := by rfl) (hpl : (backTo pos (starEach es X.env)).any (·.1) = false := by rfl) : PE X (.Call (.Name x p) (e :: es) [] pos) (gS X (mCallF o ms)) :=
  PEi (pe_callB hc hg hm hv ha hn hdb he hpl) fun σ H Q h => mCallF_imp w h
theorem g_callTy {T : String} {o : List D → Option Cell} {r : List V → Hp → VK → Prop} {x : Str} {p : Pos} (hc : CallR X (.type T) r) (w : OpF1 X o r) (hg : Gl X x) (hm : X.mg x = none) (hv : bootBuiltins x = some (.type T)) (ha : PA X (e :: es) (gA X 0 ms)) (hn : x ≠ "__name__" := by decide) (hdb : (x == ("__debug__" : Str)) = false := by decide)
    (he : starEach (e :: es) X.env = (false, eval e X.env) :: starEach es X.env := by rfl) (hpl : (backTo pos (starEach es X.env)).any (·.1) = false := by rfl) : PE X (.Call (.Name x p) (e :: es) [] pos) (gS X (mCallF o ms)) :=
  PEi (pe_callTy hc hg hm hv ha hn hdb he hpl) fun σ H Q h => mCallF_imp w h
/-- a pure built-in on arguments that do things -/
theorem w_ofN {o : List D → Option D} {r : List V → Hp → VK → Prop} (w : OpN X o r) : OpF1 X (fun ds => match o ds with | some d => if d.sc then some (0, d) else none | none => none) r := fun B W H vs cs xs c us Q e r hu q => by
  simp only at e
  split at e
  · rename_i d ed
    split at e
    · rename_i hs
      cases e
      exact w H xs d us Q ed (by
        have : ∀ (l : List D) (us : List V), RepL X.K X.mg W l us → RepL X.K X.mg H l us := fun l us h => RepL.mono r.sw l us h
        exact this _ _ hu) fun w hw => q W H w (Gr.refl B W) (r.pushS hs hw)
    · cases e
  · cases e
/-- a new list of what is shared -/
theorem R.newL {K : PySem.W.Frag} {mg : Str → Option Value} {B W H : Hp} {vs : List (Option V)} {cs : List (Option Cell)} {ds : List D} {xs : List V} (r : R K mg B W H vs cs) (h : RepL K mg W ds xs) {p : Addr} (np : H p = none) :
    R K mg B W (upd H p (.lst xs)) (some (.ref p) :: vs) (some (1, .lst ds) :: cs) := RL.lst (RL.of0 r h) np
/-- the levels of a new value -/
def dAddG : D → D → Option Cell
  | .int i, .int j => some (0, .int (i + j))
  | .str x, .str y => if x.length + y.length ≤ sizeLine then some (0, .str (x ++ y)) else none
  | .lst l, .lst m => if l.length + m.length ≤ sizeLine then some (1, .lst (l ++ m)) else none
  | .tup l, .tup m => if l.length + m.length ≤ sizeLine then some (0, .tup (l ++ m)) else none
  | _, _ => none
def rAddG (K : PySem.W.Frag) : R2 := fun x y H Q => (rI0 fun i j => .int (i + j)) x y H Q ∨ (∃ i j, x = .str i ∧ y = .str j ∧ i.length + j.length ≤ sizeLine ∧ Q (.str (i ++ j)) H) ∨ rCatX K x y H Q ∨ rCatA K x y H Q
theorem op_addG : OpR X (binaryOp .Add) (rAddG X.K) := by
  intro pins s σ H x y v u Q I rx ry h
  rcases h with h | h | h | h
  · exact op_add pins s σ H x y v u Q I rx ry h
  · exact op_add_str pins s σ H x y v u Q I rx ry h
  · exact op_catX pins s σ H x y v u Q I rx ry h
  · exact op_catA pins s σ H x y v u Q I rx ry h
theorem w_addG : OpF X dAddG (rAddG X.K) := fun B W H vs cs x y c u v Q e r hu hv q => by
  unfold dAddG at e
  split at e
  · cases e
    exact .inl ⟨_, _, hu, hv, q W H _ (Gr.refl B W) (r.push0 rfl)⟩
  · split at e
    · rename_i hz
      cases e
      exact .inr (.inl ⟨_, _, hu, hv, hz, q W H _ (Gr.refl B W) (r.push0 rfl)⟩)
    · cases e
  · split at e
    · rename_i hz
      cases e
      obtain ⟨p, xs, rfl, h1, h2⟩ := hu
      obtain ⟨p', ys, rfl, h3, h4⟩ := hv
      exact .inr (.inr (.inl ⟨p, p', xs, ys, rfl, rfl, Same.seqX r.sw h1, Same.seqX r.sw h3, by rw [h2.length, h4.length]; exact hz, fun p np => q W _ _ (Gr.refl B W) (r.newL (h2.append h4) np)⟩))
    · cases e
  · rename_i l m
    split at e
    · rename_i hz
      cases e
      obtain ⟨p, xs, rfl, h1, h2⟩ := hu
      obtain ⟨p', ys, rfl, h3, h4⟩ := hv
      refine .inr (.inr (.inr ⟨p, p', xs, ys, rfl, rfl, Same.seqT r.sw h1, Same.seqT r.sw h3, by rw [h2.length, h4.length]; exact hz, fun z => ?_, fun _ z => ?_, fun _ _ p np => ?_⟩))
      · subst z
        have hl := h2.length
        cases l with
        | nil => exact q W H _ (Gr.refl B W) (r.push0 ⟨p', ys, rfl, h3, h4⟩)
        | cons _ _ => simp at hl
      · subst z
        have hl := h4.length
        cases m with
        | nil => exact q W H _ (Gr.refl B W) (r.push0 (by rw [List.append_nil]; exact ⟨p, xs, rfl, h1, h2⟩))
        | cons _ _ => simp at hl
      · obtain ⟨W2, g2, r2⟩ := R.pair r (h2.append h4) np
        exact q W2 _ _ g2 r2
    · cases e
  · cases e
/-- list * int, int * int -/
noncomputable def okIx (i : Int) : Bool := @decide (-(2 ^ 63) ≤ i ∧ i < 2 ^ 63) (Classical.propDecidable _)
theorem okIx_of {i : Int} (h : okIx i = true) : -(2 ^ 63) ≤ i ∧ i < 2 ^ 63 := @of_decide_eq_true _ (Classical.propDecidable _) h
theorem okIx_mk {i : Int} (h : -(2 ^ 63) ≤ i ∧ i < 2 ^ 63) : okIx i = true := @decide_eq_true _ (Classical.propDecidable _) h
noncomputable def dMulG : D → D → Option Cell
  | .int i, .int j => if okMul i j then some (0, .int (i * j)) else none
  | .lst l, .int k => if okIx k && decide (l.length * k.toNat ≤ sizeLine) then some (1, .lst (List.replicate k.toNat l).flatten) else none
  | _, _ => none
def rMulG (K : PySem.W.Frag) : R2 := fun x y H Q => rI CMulW (fun i j => .int (i * j)) x y H Q ∨ rRepX K x y H Q
theorem op_mulG : OpR X (binaryOp .Mult) (rMulG X.K) := by
  intro pins s σ H x y v u Q I rx ry h
  rcases h with h | h
  · exact op_mulW pins s σ H x y v u Q I rx ry h
  · exact op_repX pins s σ H x y v u Q I rx ry h
theorem RepL.rep {K : PySem.W.Frag} {mg : Str → Option Value} {W : Hp} {l : List D} {vs : List V} (h : RepL K mg W l vs) : ∀ n : Nat, RepL K mg W (List.replicate n l).flatten (List.replicate n vs).flatten
  | 0 => rfl
  | n + 1 => by
    rw [List.replicate_succ, List.flatten_cons, List.replicate_succ, List.flatten_cons]
    exact h.append (RepL.rep h n)
theorem w_mulG : OpF X dMulG (rMulG X.K) := fun B W H vs cs x y c u v Q e r hu hv q => by
  unfold dMulG at e
  split at e
  · split at e
    · rename_i hz
      cases e
      exact .inl ⟨_, _, hu, hv, of_decide_eq_true (p := _ < 1000000) hz, q W H _ (Gr.refl B W) (r.push0 rfl)⟩
    · cases e
  · split at e
    · rename_i hz
      rw [Bool.and_eq_true] at hz
      cases e
      obtain ⟨p, xs, rfl, h1, h2⟩ := hu
      exact .inr ⟨p, _, xs, rfl, hv, Same.seqX r.sw h1, (okIx_of hz.1).1, (okIx_of hz.1).2, by rw [h2.length]; exact of_decide_eq_true hz.2, fun p np => q W _ _ (Gr.refl B W) (r.newL (h2.rep _) np)⟩
    · cases e
  · cases e
theorem g_add (ha : PE X a (gS X m)) (hb : PE X b (gS X n)) : PE X (.BinOp a .Add b pos) (gS X (mBinF dAddG m n)) := g_opF op_addG w_addG ha hb
theorem g_mul (ha : PE X a (gS X m)) (hb : PE X b (gS X n)) : PE X (.BinOp a .Mult b pos) (gS X (mBinF dMulG m n)) := g_opF op_mulG w_mulG ha hb
/-! ### slices -/
def cutD (l : List D) (lo hi : Option Int) : List D := (l.drop (HT.sIx l.length 0 lo)).take (HT.sIx l.length l.length hi - HT.sIx l.length 0 lo)
theorem RepL.cut {K : PySem.W.Frag} {mg : Str → Option Value} {W : Hp} {l : List D} {vs : List V} (h : RepL K mg W l vs) (lo hi : Option Int) : RepL K mg W (cutD l lo hi) (cutV vs lo hi) := by
  unfold cutD cutV
  rw [h.length]
  exact (h.drop _).take _
/-- a slice's part: left out, or a pure int -/
abbrev OPart := Option (Env → Option D)
def oVal (o : OPart) (ρ : Env) : Option (Option Int) := match o with
  | none => some none
  | some f => match f ρ with | some (.int i) => some (some i) | _ => none
def pO (X : Cx) (o : OPart) : TO := fun σ H Q => ∃ ρ i, Sta X σ H ρ ∧ oVal o ρ = some i ∧ Q i H
theorem POi {e : Option Expr} {t t' : TO} (h : PO X e t) (i : ∀ σ H Q, t' σ H Q → t σ H Q) : PO X e t' := ⟨fun pins s σ H Q I q => h.run pins s σ H Q I (i σ H Q q)⟩
theorem o_none : PO X none (pO X none) := POi po_none fun σ H Q ⟨ρ, i, s, e, q⟩ => by cases e; exact q
theorem o_some (h : PE X e (pS X f)) : PO X (some e) (pO X (some f)) := POi (po_some h) fun σ H Q ⟨ρ, i, s, e, q⟩ => by
  unfold oVal at e
  simp only at e
  split at e
  · rename_i j ej
    cases e
    exact ⟨ρ, _, s, ej, fun v hv => ⟨_, hv, q⟩⟩
  · cases e
def rSlG (K : PySem.W.Frag) : V → Option Int → Option Int → Hp → VK → Prop := fun x lo hi H Q => (rSlL K x lo hi H Q ∨ rSlA K x lo hi H Q) ∨ rSlS x lo hi H Q
theorem sl_G : SlR X (rSlG X.K) := SlR.or (SlR.or sl_list sl_tupA) sl_str
/-- a part that may do things -/
abbrev GPart := Option (Env → Option (Cell × Env))
def gVal (o : GPart) (ρ : Env) : Option (Option Int × Env) := match o with
  | none => some (none, ρ)
  | some f => match f ρ with | some ((_, .int i), ρ1) => some (some i, ρ1) | _ => none
def gO (X : Cx) (o : GPart) : TO := fun σ H Q => ∃ (B W : Hp) (ts : List (Option V)) (tc : List (Option Cell)) (ρ : Env) (i : Option Int) (ρ' : Env), R X.K X.mg B W H (ts ++ σ) (tc ++ ρ) ∧ ts.length = tc.length ∧ gVal o ρ = some (i, ρ') ∧
  ∀ W' H', Gr B W W' → R X.K X.mg B W' H' (ts ++ σ) (tc ++ ρ') → Q i H'
theorem go_none : PO X none (gO X none) := POi po_none fun σ H Q ⟨B, W, ts, tc, ρ, i, ρ', r, hl, e, q⟩ => by cases e; exact q W H (Gr.refl B W) r
theorem go_some (h : PE X e (gS X m)) : PO X (some e) (gO X (some m)) := POi (po_some h) fun σ H Q ⟨B, W, ts, tc, ρ, i, ρ', r, hl, em, q⟩ => by
  unfold gVal at em
  simp only at em
  split at em
  · rename_i k j ρ1 ej
    cases em
    refine ⟨B, W, ts, tc, ρ, _, _, r, hl, ej, fun W1 H1 v g1 r1 => ?_⟩
    obtain ⟨W2, g2, r2, hu⟩ := R.pop r1
    exact ⟨j, hu, q W2 H1 (g1.trans g2) r2⟩
  · cases em
def dCut : D → Option Int → Option Int → Option Cell
  | .lst l, lo, hi => some (1, .lst (cutD l lo hi))
  | .tup l, lo, hi => some (0, .tup (cutD l lo hi))
  | .str z, lo, hi => if z.length ≤ sizeLine then some (0, .str (cutS z lo hi)) else none
  | _, _, _ => none
def mSl (m : Env → Option (Cell × Env)) (lo hi : GPart) : Env → Option (Cell × Env) := fun ρ => match m ρ with
  | some (c, ρ1) => (match gVal lo ρ1 with
    | some (i, ρ2) => (match gVal hi ρ2 with
      | some (j, ρ3) => (match dCut c.2 i j with
        | some d => some (d, ρ3)
        | none => none)
      | none => none)
    | none => none)
  | none => none
theorem g_slice {lo hi : Option Expr} {l h : GPart} {p2 : Pos} (he : PE X e (gS X m)) (hl : PO X lo (gO X l)) (hh : PO X hi (gO X h)) : PE X (.Subscript e (.Slice lo hi none p2) pos) (gS X (mSl m l h)) :=
  PEi (pe_slice sl_G he hl hh) fun σ H Q ⟨B, W, ts, tc, ρ, cl, ρ', r, hlen, em, q⟩ => by
    unfold mSl at em
    split at em
    · rename_i c ρ1 e1
      split at em
      · rename_i i ρ2 e2
        split at em
        · rename_i j ρ3 e3
          split at em
          · rename_i d ed
            cases em
            obtain ⟨k0, x⟩ := c
            refine ⟨B, W, ts, tc, ρ, _, ρ1, r, hlen, e1, fun W1 H1 v g1 r1 => ?_⟩
            obtain ⟨W2, g2, r2, hu⟩ := R.pop r1
            refine ⟨B, W2, ts, tc, ρ1, i, ρ2, r2, hlen, e2, fun W3 H3 g3 r3 => ⟨B, W3, ts, tc, ρ2, j, _, r3, hlen, e3, fun W4 H4 g4 r4 => ?_⟩⟩
            have hu4 := Rep.mono (g3.sm.trans g4.sm) _ _ hu
            have gg := (((g1.trans g2).trans g3).trans g4)
            cases x <;> first | (cases ed; done) | skip
            · rename_i z
              simp only [dCut] at ed
              split at ed
              · cases ed
                exact .inr ⟨z, hu4, by assumption, q W4 H4 _ gg (r4.push0 rfl)⟩
              · cases ed
            · rename_i l
              cases ed
              obtain ⟨a, vs, rfl, h1, h2⟩ := hu4
              exact .inl (.inl ⟨a, vs, rfl, (Same.seqX r4.sw h1).sq, fun p np => q W4 _ _ gg (r4.newL (h2.cut i j) np)⟩)
            · rename_i l
              cases ed
              obtain ⟨a, vs, rfl, h1, h2⟩ := hu4
              refine .inl (.inr ⟨a, vs, rfl, Same.seqT r4.sw h1, fun hw => ?_, fun hw p np => ?_⟩)
              · have e : cutD l i j = l := by
                  unfold cutD
                  rw [← h2.length, hw.1, hw.2, List.drop_zero, Nat.sub_zero, h2.length, List.take_length]
                refine q W4 H4 _ gg (r4.push0 ?_)
                rw [e]
                exact ⟨a, vs, rfl, h1, h2⟩
              · obtain ⟨W5, g5, r5⟩ := R.pair r4 (h2.cut i j) np
                exact q W5 _ _ (gg.trans g5) r5
          · cases em
        · cases em
      · cases em
    · cases em
/-- xs[::-1] -/
def mRevL (m : Env → Option (Cell × Env)) : Env → Option (Cell × Env) := fun ρ => match m ρ with
  | some ((_, .lst l), ρ1) => some ((1, .lst l.reverse), ρ1)
  | _ => none
theorem RepL.reverse {K : PySem.W.Frag} {mg : Str → Option Value} {W : Hp} : ∀ {l : List D} {vs : List V}, RepL K mg W l vs → RepL K mg W l.reverse vs.reverse
  | [], _, h => by cases (show _ = [] from h); exact rfl
  | d :: ds, _, h => by
    obtain ⟨v, r, rfl, h1, h2⟩ := h
    rw [List.reverse_cons, List.reverse_cons]
    exact (RepL.reverse h2).append ⟨v, [], rfl, h1, rfl⟩
/-! ### lists of, tuples of -/
def dListOf : List D → Option Cell
  | [.lst l] => some (1, .lst l)
  | [.tup l] => some (1, .lst l)
  | _ => none
theorem w_listOf : OpF1 X dListOf (fun xs H Q => ∃ p ys, xs = [.ref p] ∧ (SqL X.K H p ys ∨ SqT X.K H p ys) ∧ ∀ l, H l = none → Q (.ref l) (upd H l (.lst ys))) := fun B W H vs cs xs c us Q e r hu q => by
  unfold dListOf at e
  split at e
  · cases e
    obtain ⟨u, rfl, a, ys, rfl, h1, h2⟩ := repL1 hu
    exact ⟨a, ys, rfl, .inl (Same.seqX r.sw h1).sq, fun p np => q W _ _ (Gr.refl B W) (r.newL h2 np)⟩
  · cases e
    obtain ⟨u, rfl, a, ys, rfl, h1, h2⟩ := repL1 hu
    exact ⟨a, ys, rfl, .inr (Same.seqT r.sw h1), fun p np => q W _ _ (Gr.refl B W) (r.newL h2 np)⟩
  · cases e
def dTupleOf : List D → Option Cell
  | [.lst l] => some (0, .tup l)
  | [.tup l] => some (0, .tup l)
  | _ => none
theorem w_tupleOf : OpF1 X dTupleOf (fun xs H Q => ∃ p ys, xs = [.ref p] ∧ ((SqL X.K H p ys ∧ ∀ l, H l = none → Q (.ref l) (upd H l (.tup ys))) ∨ (SqT X.K H p ys ∧ Q (.ref p) H))) := fun B W H vs cs xs c us Q e r hu q => by
  unfold dTupleOf at e
  split at e
  · cases e
    obtain ⟨u, rfl, a, ys, rfl, h1, h2⟩ := repL1 hu
    refine ⟨a, ys, rfl, .inl ⟨(Same.seqX r.sw h1).sq, fun p np => ?_⟩⟩
    obtain ⟨W5, g5, r5⟩ := R.pair r h2 np
    exact q W5 _ _ g5 r5
  · cases e
    obtain ⟨u, rfl, a, ys, rfl, h1, h2⟩ := repL1 hu
    exact ⟨a, ys, rfl, .inr ⟨Same.seqT r.sw h1, q W H _ (Gr.refl B W) (r.push0 ⟨a, ys, rfl, h1, h2⟩)⟩⟩
  · cases e
/-! ### min, max of a list of ints -/
def maxI : List Int → Option Int
  | [] => none
  | i :: r => match maxI r with | none => some i | some j => some (if j ≤ i then i else j)
def minI : List Int → Option Int
  | [] => none
  | i :: r => match minI r with | none => some i | some j => some (if i ≤ j then i else j)
theorem maxI_eq : ∀ {l : List Int} {m : Int}, m ∈ l → (∀ y ∈ l, y ≤ m) → maxI l = some m
  | i :: r, m, h, a => by
    unfold maxI
    cases q : maxI r with
    | none =>
      cases r with
      | nil => simp at h; rw [h]
      | cons j r => simp [maxI] at q; split at q <;> cases q
    | some j =>
      have hj : j ∈ r ∧ ∀ y ∈ r, y ≤ j := by
        clear h a
        induction r generalizing j with
        | nil => cases q
        | cons b r ih =>
          unfold maxI at q
          split at q
          · rename_i q2
            cases q
            cases r with
            | nil => simp
            | cons c r => unfold maxI at q2; split at q2 <;> cases q2
          · rename_i j2 q2
            cases q
            obtain ⟨h1, h2⟩ := ih j2 q2
            split
            · exact ⟨List.mem_cons_self, fun y hy => by rcases List.mem_cons.mp hy with rfl | hy; · exact Int.le_refl _
                                                        · exact Int.le_trans (h2 y hy) (by assumption)⟩
            · exact ⟨List.mem_cons_of_mem _ h1, fun y hy => by rcases List.mem_cons.mp hy with rfl | hy; · omega
                                                               · exact h2 y hy⟩
      have hi := a i List.mem_cons_self
      have hjm := a j (List.mem_cons_of_mem _ hj.1)
      simp only
      congr 1
      rcases List.mem_cons.mp h with rfl | h
      · rw [if_pos hjm]
      · have := hj.2 m h
        split <;> omega
theorem minI_eq : ∀ {l : List Int} {m : Int}, m ∈ l → (∀ y ∈ l, m ≤ y) → minI l = some m
  | i :: r, m, h, a => by
    unfold minI
    cases q : minI r with
    | none =>
      cases r with
      | nil => simp at h; rw [h]
      | cons j r => simp [minI] at q; split at q <;> cases q
    | some j =>
      have hj : j ∈ r ∧ ∀ y ∈ r, j ≤ y := by
        clear h a
        induction r generalizing j with
        | nil => cases q
        | cons b r ih =>
          unfold minI at q
          split at q
          · rename_i q2
            cases q
            cases r with
            | nil => simp
            | cons c r => unfold minI at q2; split at q2 <;> cases q2
          · rename_i j2 q2
            cases q
            obtain ⟨h1, h2⟩ := ih j2 q2
            split
            · exact ⟨List.mem_cons_self, fun y hy => by rcases List.mem_cons.mp hy with rfl | hy; · exact Int.le_refl _
                                                        · exact Int.le_trans (by assumption) (h2 y hy)⟩
            · exact ⟨List.mem_cons_of_mem _ h1, fun y hy => by rcases List.mem_cons.mp hy with rfl | hy; · omega
                                                               · exact h2 y hy⟩
      have hi := a i List.mem_cons_self
      have hjm := a j (List.mem_cons_of_mem _ hj.1)
      simp only
      congr 1
      rcases List.mem_cons.mp h with rfl | h
      · rw [if_pos hjm]
      · have := hj.2 m h
        split <;> omega
def dMaxL : List D → Option D
  | [.lst l] => match intsOf l with | some ns => (match maxI ns with | some m => some (.int m) | none => none) | none => none
  | [.int i, .int j] => some (.int (if j > i then j else i))
  | _ => none
def dMinL : List D → Option D
  | [.lst l] => match intsOf l with | some ns => (match minI ns with | some m => some (.int m) | none => none) | none => none
  | [.int i, .int j] => some (.int (if j < i then j else i))
  | _ => none
def rMaxG (X : Cx) : List V → Hp → VK → Prop := fun xs H Q => rMax X.K xs H Q ∨ ∃ i j, xs = [.int i, .int j] ∧ Q (.int (if j > i then j else i)) H
def rMinG (X : Cx) : List V → Hp → VK → Prop := fun xs H Q => rMin X.K xs H Q ∨ ∃ i j, xs = [.int i, .int j] ∧ Q (.int (if j < i then j else i)) H
theorem call_maxG (hc : X.calm = true) : CallR X (.builtin "max") (rMaxG X) := (cr_max hc).or (call_max2 hc)
theorem call_minG (hc : X.calm = true) : CallR X (.builtin "min") (rMinG X) := (cr_min hc).or (call_min2 hc)
theorem w_maxL : OpN X dMaxL (rMaxG X) := fun H xs z us Q e hu q => by
  unfold dMaxL at e
  split at e
  · split at e
    · rename_i ns en
      split at e
      · rename_i m em
        cases e
        obtain ⟨u, rfl, a, vs, rfl, h1, h2⟩ := repL1 hu
        cases intsOf_rep en h2
        refine .inl ⟨a, ns, rfl, h1.sq, ?_, fun m' h3 h4 => ?_⟩
        · cases ns with
          | nil => cases em
          | cons _ _ => simp
        · rw [maxI_eq h3 h4] at em; cases em
          exact q _ rfl
      · cases e
    · cases e
  · cases e
    obtain ⟨u, v, rfl, h1, h2⟩ := repL2 hu
    cases (show u = _ from h1); cases (show v = _ from h2)
    exact .inr ⟨_, _, rfl, q _ rfl⟩
  · cases e
theorem w_minL : OpN X dMinL (rMinG X) := fun H xs z us Q e hu q => by
  unfold dMinL at e
  split at e
  · split at e
    · rename_i ns en
      split at e
      · rename_i m em
        cases e
        obtain ⟨u, rfl, a, vs, rfl, h1, h2⟩ := repL1 hu
        cases intsOf_rep en h2
        refine .inl ⟨a, ns, rfl, h1.sq, ?_, fun m' h3 h4 => ?_⟩
        · cases ns with
          | nil => cases em
          | cons _ _ => simp
        · rw [minI_eq h3 h4] at em; cases em
          exact q _ rfl
      · cases e
    · cases e
  · cases e
    obtain ⟨u, v, rfl, h1, h2⟩ := repL2 hu
    cases (show u = _ from h1); cases (show v = _ from h2)
    exact .inr ⟨_, _, rfl, q _ rfl⟩
  · cases e
/-! ### is, is not of None and bools -/
def dIsG : D → D → Option D
  | .bl a, .bl b => some (.bl (decide (a = b)))
  | x, y => dIsN x y
def dNotG : D → D → Option D
  | .bl a, .bl b => some (.bl (!decide (a = b)))
  | x, y => dNotN x y
end
end Mn

namespace Mn
open PySem PySem.Spec PyProof.Rows L2
/-! ### values one after the other, each with its own levels -/
def gAs (X : Cx) (m : Env → Option (List Cell × Env)) : TA := fun σ H Q => ∃ (B W : Hp) (ts : List (Option V)) (tc : List (Option Cell)) (ρ : Env) (cs : List Cell) (ρ' : Env), R X.K X.mg B W H (ts ++ σ) (tc ++ ρ) ∧ ts.length = tc.length ∧ m ρ = some (cs, ρ') ∧
  ∀ W' H' vs, Gr B W W' → vs.length = cs.length → R X.K X.mg B W' H' ((vs.reverse.map some) ++ (ts ++ σ)) ((cs.reverse.map some) ++ (tc ++ ρ')) → Q vs H'
def mAsNil : Env → Option (List Cell × Env) := fun ρ => some ([], ρ)
def mAsCons (m : Env → Option (Cell × Env)) (ms : Env → Option (List Cell × Env)) : Env → Option (List Cell × Env) := fun ρ => match m ρ with
  | some (c, ρ1) => (match ms ρ1 with
    | some (cs, ρ2) => some (c :: cs, ρ2)
    | none => none)
  | none => none
section
variable {X : Cx} {a b c e : Expr} {es : List Expr} {m n o : Env → Option (Cell × Env)} {ms : Env → Option (List Cell × Env)} {pos : Pos} {pr : List Nat}
theorem as_nil : PA X [] (gAs X mAsNil) := PAi pa_nil fun σ H Q ⟨B, W, ts, tc, ρ, cs, ρ', r, hl, e, q⟩ => by
  cases e
  exact q W H [] (Gr.refl B W) rfl r
theorem as_cons (ha : PE X a (gS X m)) (hr : PA X es (gAs X ms)) (hs : starEach (a :: es) X.env = (false, eval a X.env) :: starEach es X.env := by rfl) : PA X (a :: es) (gAs X (mAsCons m ms)) :=
  PAi (pa_cons ha hr hs) fun σ H Q ⟨B, W, ts, tc, ρ, cs, ρ', r, hl, e, q⟩ => by
    unfold mAsCons at e
    split at e
    · rename_i c ρ1 em
      split at e
      · rename_i cr ρ2 ems
        cases e
        refine ⟨B, W, ts, tc, ρ, c, ρ1, r, hl, em, fun W1 H1 v g1 r1 => ?_⟩
        refine ⟨B, W1, some v :: ts, some c :: tc, ρ1, cr, ρ', r1, by simp [hl], ems, fun W3 H3 vs g3 hv r3 => ?_⟩
        exact q W3 H3 (v :: vs) (g1.trans g3) (by simp [hv]) (by simpa using r3)
      · cases e
    · cases e
/-- a, b = x, y -/
def sPar2 (i j : Nat) (m n : Env → Option (Cell × Env)) : Env → Option Out := fun ρ => match m ρ with
  | some (c, ρ1) => (match n ρ1 with
    | some (c', ρ2) => some (.nx ((ρ2.set i (some c)).set j (some c')))
    | none => none)
  | none => none
theorem s_par2 {i j : Nat} {x y : Str} {px py pt : Pos} {kt k2 pt2} (hc : X.calm = true) (hN : X.N.Nodup) (hi : X.N[i]? = some x) (hj : X.N[j]? = some y) (hij : i ≠ j)
    (hx : X.env.scope.names.lookup x = some .local) (hy : X.env.scope.names.lookup y = some .local) (hpi : i ∉ pr) (hpj : j ∉ pr) (ha : PE X a (gS X m)) (hb : PE X b (gS X n))
    (hw : swappedStores [.Tuple [.Name x px, .Name y py] kt pt] (.Tuple [a, b] k2 pt2) X.env = pure (some [x, y]))
    (hs1 : starEach (a :: [b]) X.env = (false, eval a X.env) :: starEach [b] X.env := by rfl) (hs2 : starEach [b] X.env = (false, eval b X.env) :: starEach [] X.env := by rfl)
    (hs : swapsWithSole [.Tuple [.Name x px, .Name y py] kt pt] (.Tuple [a, b] k2 pt2) pos.line X.env = pure false := by rfl) :
    PS X (.Assign [.Tuple [.Name x px, .Name y py] kt pt] (.Tuple [a, b] k2 pt2) pos) (sS X pr (sPar2 i j m n)) :=
  PSi (ps_par hc hN hi hj hij hx hy (as_cons ha (as_cons hb as_nil hs2) hs1) hw hs) fun Dn σ H ⟨B, W, ρ, o, r, em, q⟩ => by
    unfold sPar2 at em
    split at em
    · rename_i c ρ1 e1
      split at em
      · rename_i c' ρ2 e2
        cases em
        refine ⟨B, W, [], [], ρ, [c, c'], ρ2, r, rfl, by simp only [mAsCons, mAsNil, e1, e2], fun W1 H1 vs g1 hv r1 => ?_⟩
        match vs, hv with
        | [v, w], _ =>
          refine ⟨v, w, rfl, q W1 H1 _ g1 ?_ ((Pr.refl.set hpi).set hpj)⟩
          have r2 := R.move r1 (j + 1)
          have r3 := R.move r2 i
          have e1 : (σ.set j (some w)).set i (some v) = (σ.set i (some v)).set j (some w) := List.set_comm _ _ (Ne.symm hij)
          have e2 : (ρ2.set j (some c')).set i (some c) = (ρ2.set i (some c)).set j (some c') := List.set_comm _ _ (Ne.symm hij)
          rw [← e1, ← e2]
          exact r3
      · cases em
    · cases em
def sPar3 (i j l : Nat) (m n o : Env → Option (Cell × Env)) : Env → Option Out := fun ρ => match m ρ with
  | some (c, ρ1) => (match n ρ1 with
    | some (c', ρ2) => (match o ρ2 with
      | some (c'', ρ3) => some (.nx (((ρ3.set i (some c)).set j (some c')).set l (some c'')))
      | none => none)
    | none => none)
  | none => none
theorem s_par3 {i j l : Nat} {x y z : Str} {px py pz pt : Pos} {kt k2 pt2} (hc : X.calm = true) (hN : X.N.Nodup) (hi : X.N[i]? = some x) (hj : X.N[j]? = some y) (hl : X.N[l]? = some z) (hij : i ≠ j) (hil : i ≠ l) (hjl : j ≠ l)
    (hx : X.env.scope.names.lookup x = some .local) (hy : X.env.scope.names.lookup y = some .local) (hz : X.env.scope.names.lookup z = some .local) (hpi : i ∉ pr) (hpj : j ∉ pr) (hpl : l ∉ pr) (ha : PE X a (gS X m)) (hb : PE X b (gS X n)) (hcc : PE X c (gS X o))
    (hw : swappedStores [.Tuple [.Name x px, .Name y py, .Name z pz] kt pt] (.Tuple [a, b, c] k2 pt2) X.env = pure (some [x, y, z]))
    (hs1 : starEach (a :: [b, c]) X.env = (false, eval a X.env) :: starEach [b, c] X.env := by rfl) (hs2 : starEach [b, c] X.env = (false, eval b X.env) :: starEach [c] X.env := by rfl) (hs3 : starEach [c] X.env = (false, eval c X.env) :: starEach [] X.env := by rfl)
    (hs : swapsWithSole [.Tuple [.Name x px, .Name y py, .Name z pz] kt pt] (.Tuple [a, b, c] k2 pt2) pos.line X.env = pure false := by rfl) :
    PS X (.Assign [.Tuple [.Name x px, .Name y py, .Name z pz] kt pt] (.Tuple [a, b, c] k2 pt2) pos) (sS X pr (sPar3 i j l m n o)) :=
  PSi (ps_par3 hc hN hi hj hl hij hil hjl hx hy hz (as_cons ha (as_cons hb (as_cons hcc as_nil hs3) hs2) hs1) hw hs) fun Dn σ H ⟨B, W, ρ, o', r, em, q⟩ => by
    unfold sPar3 at em
    split at em
    · rename_i c ρ1 e1
      split at em
      · rename_i c' ρ2 e2
        split at em
        · rename_i c'' ρ3 e3
          cases em
          refine ⟨B, W, [], [], ρ, [c, c', c''], ρ3, r, rfl, by simp only [mAsCons, mAsNil, e1, e2, e3], fun W1 H1 vs g1 hv r1 => ?_⟩
          match vs, hv with
          | [u, v, w], _ =>
            refine ⟨u, v, w, rfl, q W1 H1 _ g1 ?_ (((Pr.refl.set hpi).set hpj).set hpl)⟩
            have r2 := R.move r1 (l + 2)
            have r3 := R.move r2 (j + 1)
            have r4 := R.move r3 i
            have e1 : ((σ.set l (some w)).set j (some v)).set i (some u) = ((σ.set i (some u)).set j (some v)).set l (some w) := by
              rw [List.set_comm (some w) (some v) (Ne.symm hjl) (l := σ), List.set_comm (some w) (some u) (Ne.symm hil), List.set_comm (some v) (some u) (Ne.symm hij)]
            have e2 : ((ρ3.set l (some c'')).set j (some c')).set i (some c) = ((ρ3.set i (some c)).set j (some c')).set l (some c'') := by
              rw [List.set_comm (some c'') (some c') (Ne.symm hjl) (l := ρ3), List.set_comm (some c'') (some c) (Ne.symm hil), List.set_comm (some c') (some c) (Ne.symm hij)]
            rw [← e1, ← e2]
            exact r4
        · cases em
      · cases em
    · cases em
/-! ### targets that take what is owned -/
def tgC (X : Cx) (js : List Nat) (f : Cell → Env → Option Env) : TG := fun v σ H Q => ∃ (B W : Hp) (ts : List (Option V)) (tc : List (Option Cell)) (ρ : Env) (c : Cell) (ρ' : Env), R X.K X.mg B W H (some v :: (ts ++ σ)) (some c :: (tc ++ ρ)) ∧ ts.length = tc.length ∧ f c ρ = some ρ' ∧
  ∀ W' σ', Gr B W W' → R X.K X.mg B W' H (ts ++ σ') (tc ++ ρ') → (∀ i, i ∉ js → σ'[i]? = σ[i]?) → σ'.length = σ.length → Q σ' H
def tgCs (X : Cx) (js : List Nat) (f : List Cell → Env → Option Env) : TGs := fun vs σ H Q => ∃ (B W : Hp) (ts : List (Option V)) (tc : List (Option Cell)) (ρ : Env) (cs : List Cell) (ρ' : Env), R X.K X.mg B W H (vs.map some ++ (ts ++ σ)) (cs.map some ++ (tc ++ ρ)) ∧ vs.length = cs.length ∧ ts.length = tc.length ∧ f cs ρ = some ρ' ∧
  ∀ W' σ', Gr B W W' → R X.K X.mg B W' H (ts ++ σ') (tc ++ ρ') → (∀ i, i ∉ js → σ'[i]? = σ[i]?) → σ'.length = σ.length → Q σ' H
variable {f : Cell → Env → Option Env} {fs : List Cell → Env → Option Env} {js ks : List Nat}
def cName (i : Nat) : Cell → Env → Option Env := fun c ρ => some (ρ.set i (some c))
theorem tc_name {i : Nat} {y : Str} (hN : X.N.Nodup) (hi : X.N[i]? = some y) (hx : Loc X.env.scope y) (hf : X.fn y = true ∨ X.env.scope.names.lookup y = some .local := by first | exact .inl rfl | exact .inr rfl | assumption) : PG X (.Name y pos) (tgC X [i] (cName i)) :=
  PGi (pg_name hN hi hx hf) fun v σ H Q ⟨B, W, ts, tc, ρ, d, ρ', r, hl, e, q⟩ => by
    cases e
    refine q W _ (Gr.refl B W) ?_ (fun j hj => List.getElem?_set_ne (fun z => hj (by rw [z]; exact List.mem_singleton.mpr rfl))) (List.length_set ..)
    have r1 := R.move r (tc.length + i)
    rw [set_app, ← hl, set_app] at r1
    exact r1
def cName0 (i : Nat) : Cell → Env → Option Env := fun c ρ => some (ρ.set i (some (0, c.2)))
theorem tc_name0 {i : Nat} {y : Str} (hN : X.N.Nodup) (hi : X.N[i]? = some y) (hx : Loc X.env.scope y) (hf : X.fn y = true ∨ X.env.scope.names.lookup y = some .local := by first | exact .inl rfl | exact .inr rfl | assumption) : PG X (.Name y pos) (tgC X [i] (cName0 i)) :=
  PGi (pg_name hN hi hx hf) fun v σ H Q ⟨B, W, ts, tc, ρ, d, ρ', r, hl, e, q⟩ => by
    cases e
    obtain ⟨W', g, r'⟩ := R.fit (k := 0) r (by unfold Mn.fit; simp)
    refine q W' _ g ?_ (fun j hj => List.getElem?_set_ne (fun z => hj (by rw [z]; exact List.mem_singleton.mpr rfl))) (List.length_set ..)
    have r1 := R.move r' (tc.length + i)
    rw [set_app, ← hl, set_app] at r1
    exact r1
def csNil : List Cell → Env → Option Env := fun ds ρ => match ds with | [] => some ρ | _ => none
def csCons (f : Cell → Env → Option Env) (fs : List Cell → Env → Option Env) : List Cell → Env → Option Env := fun ds ρ => match ds with
  | d :: r => (match f d ρ with | some ρ1 => fs r ρ1 | none => none)
  | [] => none
theorem tc_nil : PGs X [] (tgCs X [] csNil) := PGsi pgs_nil fun vs σ H Q ⟨B, W, ts, tc, ρ, ds, ρ', r, hv, hl, e, q⟩ => by
  unfold csNil at e
  split at e
  · cases e
    have : vs = [] := List.length_eq_zero_iff.mp hv
    subst this
    exact ⟨rfl, q W σ (Gr.refl B W) r (fun _ _ => rfl) rfl⟩
  · cases e
theorem tc_cons (h1 : PG X e (tgC X js f)) (h2 : PGs X es (tgCs X ks fs)) (hs : (assignEach (e :: es) X.env).map (·.2) = assign e X.env :: (assignEach es X.env).map (·.2) := by rfl) : PGs X (e :: es) (tgCs X (js ++ ks) (csCons f fs)) :=
  PGsi (pgs_cons h1 h2 hs) fun vs σ H Q ⟨B, W, ts, tc, ρ, ds, ρ', r, hv, hl, e, q⟩ => by
    unfold csCons at e
    split at e
    · rename_i d rr
      split at e
      · rename_i ρ1 e1
        cases vs with
        | nil => simp at hv
        | cons v vr =>
          have hv' : vr.length = rr.length := by simpa using hv
          refine ⟨v, vr, rfl, B, W, vr.map some ++ ts, rr.map some ++ tc, ρ, d, ρ1, ?_, by simp [hv', hl], e1, fun W1 σ1 g1 r1 k1 l1 => ?_⟩
          · simpa using r
          · exact ⟨B, W1, ts, tc, ρ1, rr, ρ', by simpa using r1, hv', hl, e, fun W2 σ2 g2 r2 k2 l2 => q W2 σ2 (g1.trans g2) r2 (fun i hi => (k2 i fun z => hi (List.mem_append_right _ z)).trans (k1 i fun z => hi (List.mem_append_left _ z))) (l2.trans l1)⟩
      · cases e
    · cases e
theorem R.unl {K : PySem.W.Frag} {mg : Str → Option Value} {B W H : Hp} {k : Nat} : ∀ {ds : List D} {xs : List V} {vs : List (Option V)} {cs : List (Option Cell)}, RL K mg B W H k ds xs vs cs → R K mg B W H (xs.map some ++ vs) ((ds.map fun d => some (k, d)) ++ cs)
  | [], xs, vs, cs, r => by
    obtain ⟨T, G, h2, h4, hT⟩ := r.ex
    rw [h4.1]
    exact RL.r r
  | d :: ds, xs, vs, cs, r => by
    obtain ⟨T, G, h2, ⟨v, xr, F, G', rfl, p1, p2, p3⟩, hT⟩ := r.ex
    have r1 : RL K mg B W H k ds xr vs cs := ⟨r.sw, r.sb, T, G', h2, p2, fun b => ⟨by have := (hT b).1; have := p3 b; omega, fun hb => (hT b).2 (by have := p3 b; omega)⟩⟩
    -- all at once
    have key : ∀ (ds : List D) (xs : List V) (G T : Fp), OwnL (Own K mg W H k) ds xs G → Cells K mg W H vs cs T → Cells K mg W H (xs.map some ++ vs) ((ds.map fun d => some (k, d)) ++ cs) (fun b => G b + T b) := by
      intro ds
      induction ds with
      | nil =>
        rintro xs G T ⟨rfl, h0⟩ h
        have : (fun b => G b + T b) = T := by funext b; rw [h0 b, Nat.zero_add]
        rw [this]; exact h
      | cons d ds ih =>
        rintro xs G T ⟨v, xr, F, G', rfl, p1, p2, p3⟩ h
        exact ⟨F, _, ⟨v, rfl, p1⟩, ih xr G' T p2 h, fun b => by show G b + T b = F b + (G' b + T b); have := p3 b; omega⟩
    exact ⟨r.sw, r.sb, _, key (d :: ds) (v :: xr) G T ⟨v, xr, F, G', rfl, p1, p2, p3⟩ h2, fun b => ⟨by have := (hT b).1; show G b + T b ≤ 1; omega, fun hb => (hT b).2 (by have : G b + T b ≠ 0 := hb; omega)⟩⟩
/-- a tuple's items, each by itself -/
theorem R.untup {K : PySem.W.Frag} {mg : Str → Option Value} {B W H : Hp} {k : Nat} {l : List D} {v : V} {vs : List (Option V)} {cs : List (Option Cell)} (r : R K mg B W H (some v :: vs) (some (k, .tup l) :: cs)) :
    ∃ a xs, v = .ref a ∧ SqT K H a xs ∧ xs.length = l.length ∧ R K mg B W H (xs.map some ++ vs) ((l.map fun d => some (k - 1, d)) ++ cs) := by
  obtain ⟨T, ⟨F, G, ⟨u, e, h1⟩, h2, h3⟩, hT⟩ := r.ex
  cases e
  cases k with
  | zero =>
    obtain ⟨a, xs, rfl, h4, h5⟩ := h1.1
    exact ⟨a, xs, rfl, Same.seqT r.sw h4, h5.length, R.args (R.drop r) h5⟩
  | succ k =>
    obtain ⟨a, xs, G1, rfl, h4, h5, h6⟩ := h1
    refine ⟨a, xs, rfl, SqT.of h4, h5.length, R.unl (k := k) ⟨r.sw, r.sb, G, G1, h2, h5, fun b => ⟨?_, fun hb => (hT b).2 ?_⟩⟩⟩
    · have := (hT b).1; have := h3 b; have := h6 b; omega
    · have := h3 b; have := h6 b; omega
def cTup (n : Nat) (fs : List Cell → Env → Option Env) : Cell → Env → Option Env := fun c ρ => match c.2 with
  | .tup l => if l.length = n then fs (l.map fun d => (c.1 - 1, d)) ρ else none
  | _ => none
theorem tc_tup {k n : Nat} (hc : X.calm = true) (h : PGs X es (tgCs X js fs)) (hn : (assignEach es X.env).length = n := by rfl) (hst : (assignEach es X.env).findIdx? (·.1) = none := by rfl) : PG X (.Tuple es k pos) (tgC X js (cTup n fs)) :=
  PGi (pg_tup hc h hn hst) fun v σ H Q ⟨B, W, ts, tc, ρ, d, ρ', r, hl, e, q⟩ => by
    obtain ⟨k0, x⟩ := d
    unfold cTup at e
    simp only at e
    split at e
    · rename_i l
      split at e
      · rename_i hlen
        obtain ⟨a, xs, rfl, h1, h2, h3⟩ := R.untup r
        exact ⟨a, xs, rfl, h1, by rw [h2]; exact hlen, B, W, ts, tc, ρ, _, ρ', by rw [List.map_map]; exact h3, by simp [h2], hl, e, q⟩
      · cases e
    · cases e
def sAsgT (m : Env → Option (Cell × Env)) (f : Cell → Env → Option Env) : Env → Option Out := fun ρ => match m ρ with
  | some (c, ρ1) => (match f c ρ1 with
    | some ρ2 => some (.nx ρ2)
    | none => none)
  | none => none
theorem s_asgT {tg : Expr} (hg : PG X tg (tgC X js f)) (he : PE X e (gS X m)) (hd : ∀ j ∈ js, j ∉ pr) (hs : swapsWithSole [tg] e pos.line X.env = pure false := by rfl) (hw : swappedStores [tg] e X.env = pure none := by rfl)
    (h1 : (assignEach [tg] X.env).map (·.2) = [assign tg X.env] := by rfl) : PS X (.Assign [tg] e pos) (sS X pr (sAsgT m f)) :=
  PSi (ps_asg he hg hs hw h1) fun Dn σ H ⟨B, W, ρ, o, r, em, q⟩ => by
    unfold sAsgT at em
    split at em
    · rename_i c ρ1 e1
      split at em
      · rename_i ρ2 e2
        cases em
        exact ⟨B, W, [], [], ρ, c, ρ1, r, rfl, e1, fun W1 H1 v g1 r1 => ⟨B, W1, [], [], ρ1, c, ρ2, r1, rfl, e2, fun W2 σ' g2 r' k' l' => q W2 H1 σ' (g1.trans g2) r' (Pr.refl.off k' hd)⟩⟩
      · cases em
    · cases em
/-! ### constants of the module -/
def mK (d : D) : Env → Option (Cell × Env) := fun ρ => some ((0, d), ρ)
theorem p_glv {x : Str} {u : Value} {v : V} {d : D} (hg : Gl X x) (hm : X.mg x = some u) (r : RelV v u) (hd : ∀ W, Rep X.K X.mg W d v) (hdb : (x == ("__debug__" : Str)) = false := by decide) : PE X (.Name x pos) (pS X (pC d)) :=
  PEi (pe_glob hg hm r hdb) fun σ H Q ⟨ρ, d', s, e, q⟩ => by cases e; exact q _ (hd H)
theorem g_glv {x : Str} {u : Value} {v : V} {d : D} (hg : Gl X x) (hm : X.mg x = some u) (r : RelV v u) (hd : ∀ W, Rep X.K X.mg W d v) (hdb : (x == ("__debug__" : Str)) = false := by decide) : PE X (.Name x pos) (gS X (mK d)) :=
  PEi (pe_glob hg hm r hdb) fun σ H Q ⟨B, W, ts, tc, ρ, c, ρ', r, hl, e, q⟩ => by cases e; exact q W H _ (Gr.refl B W) (r.push0 (hd W))
end
end Mn

namespace Mn
open PySem PySem.Spec PyProof.Rows L2
/-! ### zip of two lists, strict -/
section
variable {prog : Program} {w : World} {A : Around} {E : Value → Shared → Prop} {s : Shared}
theorem nextOrEnd_item {it l : Addr} {i : Nat} {items : Array Value} {x : Value} {Q : Option Value → Shared → Prop} (hit : s.heap.IsListIter it l i)
    (hl : s.heap.IsList l items) (hx : items[i]? = some x)
    (hQ : ∀ h', h'.IsListIter it l (i + 1) → Heap.SameBut it s.heap h' → Q (some x) { s with heap := h' }) :
    wpAny (model prog w) A (Builtin.SmallTypes.nextOrEnd (.ref it)) Q E s := by
  unfold Builtin.SmallTypes.nextOrEnd
  exact wpAny_bind (wpAny_attempt (wpAny_nextOf_list_item hit hl hx fun h' a b => wpAny_pure (hQ h' a b)))
theorem nextOrEnd_end {it l : Addr} {i : Nat} {items : Array Value} {Q : Option Value → Shared → Prop} (hh : A.handled = none) (hit : s.heap.IsListIter it l i)
    (hl : s.heap.IsList l items) (hx : items[i]? = none)
    (hQ : ∀ h', Heap.ExtBut it s.heap h' → Q none { s with heap := h' }) :
    wpAny (model prog w) A (Builtin.SmallTypes.nextOrEnd (.ref it)) Q E s := by
  unfold Builtin.SmallTypes.nextOrEnd
  refine wpAny_bind (wpAny_attempt (wpAny_nextOf_list_end hh hit hl hx fun h' e a ⟨o, ho, hc⟩ => ?_))
  refine wpAny_bind (wpAny_isInstance (T := "StopIteration") (b := true) ⟨o, ho, hc⟩ isSubtype_stop ?_)
  exact wpAny_pure (hQ h' a)
theorem stop_raise {α : Type} {Q : α → Shared → Prop} (hh : A.handled = none) (hE : ∀ h' e, (∀ b o, s.heap.get? b = some o → h'.get? b = some o) → (∃ o, h'.get? e = some o ∧ o.cls = .type "StopIteration") → E (.ref e) { s with heap := h' }) :
    wpAny (model prog w) A (Builtin.SmallTypes.stopIteration (α := α)) Q E s := by
  unfold Builtin.SmallTypes.stopIteration
  refine wpAny_bind ?_
  simp only [newExc, newTuple]
  refine wpAny_bind (wpAny_newObj_type ?_ (by size_fits))
  refine wpAny_bind (m := firstArgMember _ _) (wpAny_of_eq (a := Value.none) (by first | rfl | (simp only [firstArgMember]; rfl)) ?_)
  refine wpAny_newObj_type ?_ (by size_fits)
  simp only [raiseNew]
  refine wpAny_bind (wpAny_handled ?_)
  first | rw [show A.in1.handled = none from hh] | rw [hh]
  refine wpAny_bind (wpAny_pure (wpAny_throw ?_))
  exact hE _ _ (fun b o e => Heap.get?_push_of_some _ (Heap.get?_push_of_some _ e)) ⟨_, Heap.get?_push_size _ rfl, rfl⟩
abbrev IsZipS (h : Heap) (z TI TO : Addr) (f0 : Value) : Prop :=
  h.get? z = some { cls := .type "zip", dict := none, data := .fields #[f0, .bool false, .bool true, .ref TI, .ref TO], slots := #[] }
theorem zipS_next_item {z TI TO i1 i2 l1 l2 : Addr} {k1 k2 : Nat} {xs ys : Array Value} {x y a b : Value} {Q : Value → Shared → Prop} (D : ZipApart z TI TO i1 i2 l1 l2)
    (hz : IsZipS s.heap z TI TO .none) (hTI : IsPair s.heap TI (.ref i1) (.ref i2)) (hTO : IsPair s.heap TO a b)
    (h1 : s.heap.IsListIter i1 l1 k1) (h2 : s.heap.IsListIter i2 l2 k2) (hl1 : s.heap.IsList l1 xs) (hl2 : s.heap.IsList l2 ys) (hx : xs[k1]? = some x) (hy : ys[k2]? = some y)
    (hQ : ∀ h', IsZipS h' z TI TO (rawInt s.heap.objs.size) → IsPair h' TO x y → h'.IsListIter i1 l1 (k1 + 1) → h'.IsListIter i2 l2 (k2 + 1) → IsPair h' s.heap.objs.size x y → h'.objs.size = s.heap.objs.size + 1 →
      (∀ c o, c ≠ z → c ≠ TO → c ≠ i1 → c ≠ i2 → s.heap.get? c = some o → h'.get? c = some o) → Q (.ref s.heap.objs.size) { s with heap := h' }) :
    wpAny (model prog w) A (Builtin.«zip.__next__» ⟨[.ref z], []⟩) (fun fin s' => ∃ v, fin = .done (.ret v) ∧ Q v s') E s := by
  show wpAny _ _ (field (.ref z) 2 >>= _) _ _ _
  refine wpAny_bind (wpAny_field hz rfl (x := .bool true) rfl ?_)
  show wpAny _ _ (field (.ref z) 3 >>= _) _ _ _
  refine wpAny_bind (wpAny_field hz rfl (x := .ref TI) rfl ?_)
  refine wpAny_bind (wpAny_seqItems hTI rfl ?_)
  show wpAny _ _ (Builtin.SmallTypes.ownedTupleIsFree (.ref z) >>= _) _ _ _
  refine wpAny_bind ?_
  unfold Builtin.SmallTypes.ownedTupleIsFree
  refine wpAny_bind (wpAny_field hz rfl (x := .none) rfl (wpAny_pure ?_))
  simp only [if_true]
  refine wpAny_bind (wpAny_rule ?_)
  refine wpAny_bind (wpAny_field hz rfl (x := .ref TO) rfl ?_)
  refine wpAny_bind (wpAny_setField_rec hz (by simp) fun h₁ hz₁ hs₁ => ?_)
  replace hz₁ : IsZipS h₁ z TI TO .ellipsis := hz₁
  refine wpAny_bind ?_
  simp only [List.zipIdx_cons, List.zipIdx_nil, List.forIn_cons, List.forIn_nil]

  refine wpAny_bind (wpAny_bind (wpAny_onRaise ?_))
  show wpAny _ _ (Builtin.SmallTypes.nextOrEnd (.ref i1)) _ _ _
  refine (nextOrEnd_item (h1.extBut hs₁.extBut D.i1z) (hl1.extBut hs₁.extBut D.l1z) hx fun h₂ h1₂ hs₂ => ?_)
  have hTO₂ : IsPair h₂ TO a b := hs₂.extBut _ _ D.TOi1 (hs₁.extBut _ _ D.TOz hTO)
  refine wpAny_bind (wpAny_seqItems hTO₂ rfl ?_)
  refine wpAny_bind (wpAny_updateSeq_pair hTO₂ fun h₃ hTO₃ hs₃ => ?_)
  replace hTO₃ : IsPair h₃ TO x b := hTO₃
  refine wpAny_bind (wpAny_letGo (wpAny_pure ?_))

  refine wpAny_bind (wpAny_bind (wpAny_onRaise ?_))
  show wpAny _ _ (Builtin.SmallTypes.nextOrEnd (.ref i2)) _ _ _
  refine (nextOrEnd_item (((h2.extBut hs₁.extBut D.i2z).extBut hs₂.extBut D.i12.symm).extBut hs₃.extBut D.TOi2.symm)
    (((hl2.extBut hs₁.extBut D.l2z).extBut hs₂.extBut D.l2i1).extBut hs₃.extBut D.l2TO) hy fun h₄ h2₄ hs₄ => ?_)
  have hTO₄ : IsPair h₄ TO x b := hs₄.extBut _ _ D.TOi2 hTO₃
  refine wpAny_bind (wpAny_seqItems hTO₄ rfl ?_)
  refine wpAny_bind (wpAny_updateSeq_pair hTO₄ fun h₅ hTO₅ hs₅ => ?_)
  replace hTO₅ : IsPair h₅ TO x y := hTO₅
  refine wpAny_bind (wpAny_letGo (wpAny_pure (wpAny_pure ?_)))

  refine wpAny_bind (wpAny_seqItems hTO₅ rfl ?_)
  refine wpAny_bind (wpAny_newTuple ?_)
  have hsz : h₅.objs.size = s.heap.objs.size := by rw [hs₅.1, hs₄.1, hs₃.1, hs₂.1, hs₁.1]
  have hz₅ : IsZipS h₅ z TI TO .ellipsis := hs₅.extBut _ _ D.TOz.symm (hs₄.extBut _ _ D.i2z.symm (hs₃.extBut _ _ D.TOz.symm (hs₂.extBut _ _ D.i1z.symm hz₁)))
  have hk₅ : ∀ c o, c ≠ z → c ≠ TO → c ≠ i1 → c ≠ i2 → s.heap.get? c = some o → h₅.get? c = some o := fun c o c1 c2 c3 c4 e =>
    hs₅.extBut _ _ c2 (hs₄.extBut _ _ c4 (hs₃.extBut _ _ c2 (hs₂.extBut _ _ c3 (hs₁.extBut _ _ c1 e))))
  have h1₅ : h₅.IsListIter i1 l1 (k1 + 1) := ((h1₂.extBut hs₃.extBut D.TOi1.symm).extBut hs₄.extBut D.i12).extBut hs₅.extBut D.TOi1.symm
  have h2₅ : h₅.IsListIter i2 l2 (k2 + 1) := h2₄.extBut hs₅.extBut D.TOi2.symm
  have hzlt : z < h₅.objs.size := Heap.lt_size hz₅
  have hTOlt : TO < h₅.objs.size := Heap.lt_size hTO₅
  have hi1lt : i1 < h₅.objs.size := by obtain ⟨_, e, _⟩ := h1₅; exact Heap.lt_size e
  have hi2lt : i2 < h₅.objs.size := by obtain ⟨_, e, _⟩ := h2₅; exact Heap.lt_size e
  show wpAny _ _ (Builtin.SmallTypes.ownedTupleHandOut (.ref z) (.ref h₅.objs.size) >>= _) _ _ _
  refine wpAny_bind ?_
  unfold Builtin.SmallTypes.ownedTupleHandOut
  have hz₆ : IsZipS (h₅.push { cls := .type "tuple", data := .seq #[x, y] }) z TI TO .ellipsis := Heap.get?_push_of_some _ hz₅
  refine wpAny_bind (wpAny_setField_rec hz₆ (by simp) fun h₇ hz₇ hs₇ => ?_)
  replace hz₇ : IsZipS h₇ z TI TO (rawInt h₅.objs.size) := hz₇
  refine wpAny_setField_rec hz₇ (by simp) fun h₈ hz₈ hs₈ => ?_
  replace hz₈ : IsZipS h₈ z TI TO (rawInt h₅.objs.size) := hz₈
  have up : ∀ c o, c ≠ z → h₅.get? c = some o → h₈.get? c = some o := fun c o c1 e => hs₈.extBut _ _ c1 (hs₇.extBut _ _ c1 (Heap.get?_push_of_some _ e))
  have hT₈ : IsPair h₈ h₅.objs.size x y := hs₈.extBut _ _ (Nat.ne_of_gt hzlt) (hs₇.extBut _ _ (Nat.ne_of_gt hzlt) (Heap.get?_push_size _ rfl))
  have hz8 : h₈.objs.size = h₅.objs.size + 1 := by rw [hs₈.1, hs₇.1, Heap.size_push]
  rw [hsz] at hz₈ hT₈ hz8
  refine wpAny_pure ⟨_, rfl, ?_⟩
  show Q (.ref h₅.objs.size) _
  rw [hsz]
  exact hQ h₈ hz₈ (up _ _ D.TOz hTO₅) (h1₅.at fun o e => up _ o D.i1z e) (h2₅.at fun o e => up _ o D.i2z e) hT₈ hz8 fun c o c1 c2 c3 c4 e => up c o c1 (hk₅ c o c1 c2 c3 c4 e)

theorem zipS_next_end {z TI TO i1 i2 l1 l2 : Addr} {k1 k2 : Nat} {xs ys : Array Value} {a b : Value} {Q : Fin → Shared → Prop} (hh : A.handled = none) (D : ZipApart z TI TO i1 i2 l1 l2)
    (hz : IsZipS s.heap z TI TO .none) (hTI : IsPair s.heap TI (.ref i1) (.ref i2)) (hTO : IsPair s.heap TO a b)
    (h1 : s.heap.IsListIter i1 l1 k1) (h2 : s.heap.IsListIter i2 l2 k2) (hl1 : s.heap.IsList l1 xs) (hl2 : s.heap.IsList l2 ys) (hx : xs[k1]? = none) (hy : ys[k2]? = none)
    (hE : ∀ h' e, (∀ c o, c ≠ z → c ≠ TO → c ≠ i1 → c ≠ i2 → s.heap.get? c = some o → h'.get? c = some o) → (∃ o, h'.get? e = some o ∧ o.cls = .type "StopIteration") → E (.ref e) { s with heap := h' }) :
    wpAny (model prog w) A (Builtin.«zip.__next__» ⟨[.ref z], []⟩) Q E s := by
  show wpAny _ _ (field (.ref z) 2 >>= _) _ _ _
  refine wpAny_bind (wpAny_field hz rfl (x := .bool true) rfl ?_)
  show wpAny _ _ (field (.ref z) 3 >>= _) _ _ _
  refine wpAny_bind (wpAny_field hz rfl (x := .ref TI) rfl ?_)
  refine wpAny_bind (wpAny_seqItems hTI rfl ?_)
  show wpAny _ _ (Builtin.SmallTypes.ownedTupleIsFree (.ref z) >>= _) _ _ _
  refine wpAny_bind ?_
  unfold Builtin.SmallTypes.ownedTupleIsFree
  refine wpAny_bind (wpAny_field hz rfl (x := .none) rfl (wpAny_pure ?_))
  simp only [if_true]
  refine wpAny_bind (wpAny_rule ?_)
  refine wpAny_bind (wpAny_field hz rfl (x := .ref TO) rfl ?_)
  refine wpAny_bind (wpAny_setField_rec hz (by simp) fun h₁ hz₁ hs₁ => ?_)
  replace hz₁ : IsZipS h₁ z TI TO .ellipsis := hz₁
  refine wpAny_bind ?_
  simp only [List.zipIdx_cons, List.zipIdx_nil, List.forIn_cons, List.forIn_nil]
  refine wpAny_bind (wpAny_bind (wpAny_onRaise ?_))
  show wpAny _ _ (Builtin.SmallTypes.nextOrEnd (.ref i1)) _ _ _
  refine (nextOrEnd_end hh (h1.extBut hs₁.extBut D.i1z) (hl1.extBut hs₁.extBut D.l1z) hx fun h₂ hs₂ => ?_)
  have hz₂ : IsZipS h₂ z TI TO .ellipsis := hs₂ _ _ D.i1z.symm hz₁
  refine wpAny_bind (wpAny_setField_rec hz₂ (by simp) fun h₃ hz₃ hs₃ => ?_)
  have k3 : ∀ c o, c ≠ z → c ≠ i1 → s.heap.get? c = some o → h₃.get? c = some o := fun c o c1 c2 e => hs₃.extBut _ _ c1 (hs₂ _ _ c2 (hs₁.extBut _ _ c1 e))
  refine wpAny_bind ?_
  show wpAny _ _ (forIn [(Value.ref i2, 1)] _ _ >>= _) _ _ _
  simp only [List.forIn_cons, List.forIn_nil]
  refine wpAny_bind (wpAny_bind ?_)
  show wpAny _ _ (Builtin.SmallTypes.nextOrEnd (.ref i2) >>= _) _ _ _
  have h2₃ : Heap.IsListIter h₃ i2 l2 k2 := h2.at fun o e => k3 _ o D.i2z D.i12.symm e
  have l2₃ : Heap.IsList h₃ l2 ys := hl2.at fun o e => k3 _ o D.l2z D.l2i1 e
  refine wpAny_bind (nextOrEnd_end hh h2₃ l2₃ hy fun h₄ hs₄ => ?_)
  refine wpAny_pure (wpAny_pure (wpAny_bind (wpAny_rule ?_)))
  refine stop_raise hh fun h₅ e k5 ho => ?_
  exact hE h₅ e (fun c o c1 c2 c3 c4 q => k5 c o (hs₄ _ _ c4 (k3 c o c1 c3 q))) ho
theorem pyNext_zipS_item {z TI TO i1 i2 l1 l2 : Addr} {k1 k2 : Nat} {xs ys : Array Value} {x y a b : Value} {Q : Option Value → Shared → Prop} (D : ZipApart z TI TO i1 i2 l1 l2)
    (hz : IsZipS s.heap z TI TO .none) (hTI : IsPair s.heap TI (.ref i1) (.ref i2)) (hTO : IsPair s.heap TO a b)
    (h1 : s.heap.IsListIter i1 l1 k1) (h2 : s.heap.IsListIter i2 l2 k2) (hl1 : s.heap.IsList l1 xs) (hl2 : s.heap.IsList l2 ys) (hx : xs[k1]? = some x) (hy : ys[k2]? = some y)
    (hQ : ∀ h', IsZipS h' z TI TO (rawInt s.heap.objs.size) → IsPair h' TO x y → h'.IsListIter i1 l1 (k1 + 1) → h'.IsListIter i2 l2 (k2 + 1) → IsPair h' s.heap.objs.size x y → h'.objs.size = s.heap.objs.size + 1 →
      (∀ c o, c ≠ z → c ≠ TO → c ≠ i1 → c ≠ i2 → s.heap.get? c = some o → h'.get? c = some o) → Q (some (.ref s.heap.objs.size)) { s with heap := h' }) :
    wpAny (model prog w) A (pyNext (.ref z)) Q E s := by
  have hT : s.TypeIs (.ref z) "zip" := ⟨_, hz, rfl⟩
  unfold pyNext
  exact wpAny_bind (wpAny_attempt (wpAny_callSpecial?_slot (name := Str.ofString "__next__") hT PySem.F.slot_zip_next
    (wpAny_call_entry PySem.F.slot_zip_next hT PySem.F.entry_zip_next
      (zipS_next_item D hz hTI hTO h1 h2 hl1 hl2 hx hy fun h' a1 a2 a3 a4 a5 a6 a7 => wpAny_pure (hQ h' a1 a2 a3 a4 a5 a6 a7)) (PySem.F.args_zip_next_1 _))))
theorem pyNext_zipS_end {z TI TO i1 i2 l1 l2 : Addr} {k1 k2 : Nat} {xs ys : Array Value} {a b : Value} {Q : Option Value → Shared → Prop} (hh : A.handled = none) (D : ZipApart z TI TO i1 i2 l1 l2)
    (hz : IsZipS s.heap z TI TO .none) (hTI : IsPair s.heap TI (.ref i1) (.ref i2)) (hTO : IsPair s.heap TO a b)
    (h1 : s.heap.IsListIter i1 l1 k1) (h2 : s.heap.IsListIter i2 l2 k2) (hl1 : s.heap.IsList l1 xs) (hl2 : s.heap.IsList l2 ys) (hx : xs[k1]? = none) (hy : ys[k2]? = none)
    (hQ : ∀ h', (∀ c o, c ≠ z → c ≠ TO → c ≠ i1 → c ≠ i2 → s.heap.get? c = some o → h'.get? c = some o) → Q none { s with heap := h' }) : wpAny (model prog w) A (pyNext (.ref z)) Q E s := by
  have hT : s.TypeIs (.ref z) "zip" := ⟨_, hz, rfl⟩
  unfold pyNext
  refine wpAny_bind (wpAny_attempt (wpAny_callSpecial?_slot (name := Str.ofString "__next__") hT PySem.F.slot_zip_next
    (wpAny_call_entry PySem.F.slot_zip_next hT PySem.F.entry_zip_next (zipS_next_end hh D hz hTI hTO h1 h2 hl1 hl2 hx hy fun h' e hk he => ?_) (PySem.F.args_zip_next_1 _))))
  obtain ⟨o, ho, hc⟩ := he
  refine wpAny_bind (wpAny_isInstance (T := "StopIteration") (b := true) ⟨o, ho, hc⟩ isSubtype_stop ?_)
  exact wpAny_pure (hQ _ hk)
theorem letGo_zipS {elts : List Expr} {x1} {pos : Pos} {z TI TO T : Addr} {Q : Unit → Shared → Prop} (hz : IsZipS s.heap z TI TO (rawInt T))
    (hQ : ∀ h', IsZipS h' z TI TO .none → Heap.SameBut z s.heap h' → Q () { s with heap := h' }) :
    wpAny (model prog w) A (letOwnedTupleGo (.Tuple elts x1 pos) (.ref z) (.ref T)) Q E s := by
  unfold letOwnedTupleGo
  refine wpAny_bind (wpAny_load hz ?_)
  show wpAny _ _ (if (["enumerate", "zip", "dict_itemiterator", "dict_reverseitemiterator", "odict_iterator", "itertools.zip_longest", "itertools.pairwise"].contains "zip" &&
      (#[rawInt T, .bool false, .bool true, .ref TI, .ref TO] : Array Value)[0]? == some (rawInt T)) = true then _ else _) Q E s
  rw [if_pos (by simp)]
  refine wpAny_bind (wpAny_rule ?_)
  show wpAny _ _ (setField (.ref z) 0 .none) Q E s
  exact wpAny_setField_rec hz (by simp) fun h' hz' hs' => hQ h' hz' hs'
theorem pyIter_zipS {z TI TO : Addr} {f0 : Value} {Q : Value → Shared → Prop} (hz : IsZipS s.heap z TI TO f0) (h : Q (.ref z) s) : wpAny (model prog w) A (pyIter (.ref z)) Q E s := by
  have hT : s.TypeIs (.ref z) "zip" := ⟨_, hz, rfl⟩
  refine wpAny_pyIter_slot hT PySem.F.slot_zip_iter (wpAny_call_entry PySem.F.slot_zip_iter hT PySem.F.entry_zip_iter ?_ (PySem.F.args_zip_iter_1 _))
  show wpAny _ _ (ret (.ref z)) _ _ s
  exact wpAny_pure ⟨_, rfl, "zip", _, hT, PySem.F.slot_zip_next.lookup, h⟩
theorem typeCall_zipS (a b : Value) : checkTypeCall "zip" ⟨[a, b], [(Str.ofString "strict", .bool true)]⟩ = pure () := by kernel_rfl
theorem newCall_zipS (a b : Value) : checkBuiltinCall "zip.__new__" ⟨[.type "zip", a, b], [(Str.ofString "strict", .bool true)]⟩ = pure () := by kernel_rfl
theorem args_object_init_zipS (obj a b : Value) : argsOk "object.__init__" ⟨[obj, a, b], [(Str.ofString "strict", .bool true)]⟩ := by unfold argsOk; kernel_rfl
abbrev zipS5 (h : Heap) (l1 l2 : Addr) : Heap := (zipH4 h l1 l2).push { cls := .type "zip", data := .fields #[.none, .bool false, .bool true, .ref (zipH2 h l1 l2).objs.size, .ref (zipH3 h l1 l2).objs.size] }
set_option maxHeartbeats 1000000 in
theorem meets_zipS_new (l1 l2 : Addr) (xs ys : Array Value) :
    Meets (Builtin.«zip.__new__» ⟨[.type "zip", .ref l1, .ref l2], [(Str.ofString "strict", .bool true)]⟩) (fun _ R s => s.heap.IsList l1 xs ∧ s.heap.IsList l2 ys ∧
      R (.ok (.ret (.ref (zipH4 s.heap l1 l2).objs.size))) { s with heap := zipS5 s.heap l1 l2 }) :=
  .of_wp fun prog w A R s h => by
    obtain ⟨hp, g, d, tk, os⟩ := s; obtain ⟨hl1, hl2, h⟩ := h
    have hsub := sub_zip
    have hL1 : Heap.IsList (Shared.heap ⟨hp, g, d, tk, os⟩) l1 xs := hl1
    have hL2 : Heap.IsList (Shared.heap ⟨hp.push { cls := .type "list_iterator", data := .fields #[.ref l1, .int 0 0] }, g, d, tk, os⟩) l2 ys := Heap.IsList.push hl2 _
    have e2 : (Str.ofString "strict" != ("strict" : Str)) = false := by decide +kernel
    wp_walk using wpAny_pyIter_list hL1, wpAny_pyIter_list hL2
    exact ⟨_, rfl, h⟩
theorem call_zipS {l1 l2 : Addr} {xs ys : Array Value} {Q : Value → Shared → Prop} (hl1 : s.heap.IsList l1 xs) (hl2 : s.heap.IsList l2 ys)
    (h : ∀ h', IsZipS h' (s.heap.objs.size + 4) (s.heap.objs.size + 2) (s.heap.objs.size + 3) .none → IsPair h' (s.heap.objs.size + 2) (.ref s.heap.objs.size) (.ref (s.heap.objs.size + 1)) →
      IsPair h' (s.heap.objs.size + 3) .none .none → h'.IsListIter s.heap.objs.size l1 0 → h'.IsListIter (s.heap.objs.size + 1) l2 0 → h'.objs.size = s.heap.objs.size + 5 →
      (∀ c o, s.heap.get? c = some o → h'.get? c = some o) → Q (.ref (s.heap.objs.size + 4)) { s with heap := h' }) :
    wpAny (model prog w) A (call (.type "zip") [.ref l1, .ref l2] [(Str.ofString "strict", .bool true)]) Q E s := by
  refine callType_newKw PySem.F.called_zip (by decide) (typeCall_zipS _ _) (newCall_zipS _ _) (fun obj => args_object_init_zipS obj _ _) PySem.F.entry_zip_new
    (meets_zipS_new l1 l2 xs ys) ⟨hl1, hl2, ?_⟩
  have z1 : (zipH1 s.heap l1).objs.size = s.heap.objs.size + 1 := Heap.size_push ..
  have z2 : (zipH2 s.heap l1 l2).objs.size = s.heap.objs.size + 2 := by rw [Heap.size_push, z1]
  have z3 : (zipH3 s.heap l1 l2).objs.size = s.heap.objs.size + 3 := by rw [Heap.size_push, z2]
  have z4 : (zipH4 s.heap l1 l2).objs.size = s.heap.objs.size + 4 := by rw [Heap.size_push, z3]
  have z5 : (zipS5 s.heap l1 l2).objs.size = s.heap.objs.size + 5 := by rw [Heap.size_push, z4]
  have g5 : (zipS5 s.heap l1 l2).get? (zipH4 s.heap l1 l2).objs.size = some _ := Heap.get?_push_size _ rfl
  have g4 : (zipS5 s.heap l1 l2).get? (zipH3 s.heap l1 l2).objs.size = some _ := Heap.get?_push_of_some _ (Heap.get?_push_size _ rfl)
  have g3 : (zipS5 s.heap l1 l2).get? (zipH2 s.heap l1 l2).objs.size = some _ := Heap.get?_push_of_some _ (Heap.get?_push_of_some _ (Heap.get?_push_size _ rfl))
  have g2 : (zipS5 s.heap l1 l2).get? (zipH1 s.heap l1).objs.size = some _ := Heap.get?_push_of_some _ (Heap.get?_push_of_some _ (Heap.get?_push_of_some _ (Heap.get?_push_size _ rfl)))
  have g1 : (zipS5 s.heap l1 l2).get? s.heap.objs.size = some _ := Heap.get?_push_of_some _ (Heap.get?_push_of_some _ (Heap.get?_push_of_some _ (Heap.get?_push_of_some _ (Heap.get?_push_size _ rfl))))
  show _ ∧ _
  rw [z2, z3, z4] at g5
  rw [z1, z2] at g3
  rw [z3] at g4
  rw [z1] at g2
  rw [z4]
  exact ⟨⟨_, g5, rfl⟩, h _ g5 g3 g4 ⟨_, g1, rfl, rfl⟩ ⟨_, g2, rfl, rfl⟩ z5 fun c o x =>
    Heap.get?_push_of_some _ (Heap.get?_push_of_some _ (Heap.get?_push_of_some _ (Heap.get?_push_of_some _ (Heap.get?_push_of_some _ x))))⟩
theorem callWith_typeKw {pos : Pos} {T : String} {first : List Value} {args : List (Bool × Sem Value)} {keywords : List (Option Str × Sem Value)} {Q : Value → Shared → Prop}
    (hplain : args.any (·.1) = false) (hkw : keywords.any (·.1.isNone) = false)
    (h : wpAny (model prog w) A (evalArgs (.type T) true args keywords) (fun a s₁ => wpAny (model prog w) A (call (.type T) (first ++ a.pos) a.kw) Q E s₁) E s) :
    wpAny (model prog w) A (callWith pos (.type T) first args keywords) Q E s := by
  unfold callWith
  refine wpAny_bind (wpAny_holding (wpAny_mono h (fun a s₁ h₁ => wpAny_bind (wpAny_standAt ?_)) fun _ _ x => x))
  simp only [hplain, hkw, Bool.or_false]
  refine wpAny_bind (wpAny_pure ?_)
  exact wpAny_bind (wpAny_mono h₁ (fun r s₂ hr => wpAny_bind (wpAny_holding (wpAny_point (wpAny_pure hr)))) fun _ _ x => x)
end
/-- the lists at a and b as they stand at each turn, the items in new pairs, ended together -/
def ItzS (K : PySem.W.Frag) (a b : Addr) : It :=
  ⟨fun i H => ∃ (xs ys : List V) (x y : V), SqL K H a xs ∧ SqL K H b ys ∧ xs[i]? = some x ∧ ys[i]? = some y,
    fun i H v H' => ∃ T x y, v = .ref T ∧ H T = none ∧ H' = upd H T (.tup [x, y]) ∧ (∀ xs, SqL K H a xs → xs[i]? = some x) ∧ ∀ ys, SqL K H b ys → ys[i]? = some y,
    fun i H => ∃ xs ys : List V, SqL K H a xs ∧ SqL K H b ys ∧ xs.length ≤ i ∧ ys.length ≤ i⟩
theorem turn_zipS {P : Program} {w : World} {K : PySem.W.Frag} {elts : List Expr} {kk : Nat} {tpos : Pos} {a b z TI TO i1 i2 : Addr} (D : ZipApart z TI TO i1 i2 a b) :
    Turn P w K (.Tuple elts kk tpos) (ItzS K a b) [z, TI, TO, i1, i2] z (fun i h => IsZipS h z TI TO .none ∧ IsPair h TI (.ref i1) (.ref i2) ∧ (∃ x y, IsPair h TO x y) ∧ h.IsListIter i1 a i ∧ h.IsListIter i2 b i) where
  mem := by simp
  obj := fun i h st c hc => by
    obtain ⟨hz, hTI, ⟨x, y, hTO⟩, ⟨o1, e1, _, d1⟩, ⟨o2, e2, _, d2⟩⟩ := st
    have e' : c = z ∨ c = TI ∨ c = TO ∨ c = i1 ∨ c = i2 := by simpa using hc
    rcases e' with q | q | q | q | q
    · rw [q]; exact ⟨_, hz, fun v q => nomatch q⟩
    · rw [q]; exact ⟨_, hTI, fun v q => nomatch q⟩
    · rw [q]; exact ⟨_, hTO, fun v q => nomatch q⟩
    · rw [q]; exact ⟨o1, e1, fun v q => by rw [d1] at q; cases q⟩
    · rw [q]; exact ⟨o2, e2, fun v q => by rw [d2] at q; cases q⟩
  keep := fun i h h' st k => by
    obtain ⟨hz, hTI, ⟨x, y, hTO⟩, h1, h2⟩ := st
    exact ⟨k z (by simp) _ hz, k TI (by simp) _ hTI, ⟨x, y, k TO (by simp) _ hTO⟩, h1.at fun o q => k i1 (by simp) o q, h2.at fun o q => k i2 (by simp) o q⟩
  item := by
    intro X hP hw hK hc i pins s σ H E I hf st hg
    subst hP hw hK
    obtain ⟨hz, hTI, ⟨x0, y0, hTO⟩, h1, h2⟩ := st
    obtain ⟨xs, ys, x, y, hqx, hqy, hx, hy⟩ := hg
    obtain ⟨its, rv, p, _⟩ := I.list hqx
    obtain ⟨its2, rv2, p2, _⟩ := I.list hqy
    obtain ⟨u, hu, ru⟩ := rv.get hx
    obtain ⟨u2, hu2, ru2⟩ := rv2.get hy
    have hzl : z < s.heap.objs.size := Heap.lt_size hz
    refine pyNext_zipS_item D hz hTI hTO h1 h2 p.isList p2.isList (x := u) (y := u2) (by simpa using hu) (by simpa using hu2) fun h' z' TO' h1' h2' hT hsz hk => ?_
    refine ⟨_, rfl, letGo_zipS (s := { s with heap := h' }) z' fun h'' z'' sb => ?_⟩
    have hT2 : h''.get? s.heap.objs.size = some { cls := .type "tuple", data := .seq #[u, u2] } := (sb.2 _ (Nat.ne_of_gt hzl)).trans hT
    have new : ObjOk X.prog X.w (upd H s.heap.objs.size (.tup [x, y])) h'' s.heap.objs.size (.tup [x, y]) :=
      ⟨by show 2 ≤ sizeLine; decide, [u, u2], .cons ru (.cons ru2 .nil), ⟨_, hT2, rfl, _, rfl⟩⟩
    have I1 : Inv X pins σ (upd H s.heap.objs.size (.tup [x, y])) { s with heap := h'' } :=
      I.turnedNew (t' := s.toks) (ch := [z, TI, TO, i1, i2]) (fun c o hb q => (sb.2 c (fun q' => hb (by simp [q']))).trans (hk c o (fun q' => hb (by simp [q'])) (fun q' => hb (by simp [q'])) (fun q' => hb (by simp [q'])) (fun q' => hb (by simp [q'])) q)) hf (Nat.le_refl _) new
    refine ⟨.ref s.heap.objs.size, _, I1, rfl, ⟨_, x, y, rfl, I.hok.fresh (Nat.le_refl _), rfl, fun l hl => by rw [I.list_inj hl hqx]; exact hx, fun l hl => by rw [I.list_inj hl hqy]; exact hy⟩, ⟨z'', ?_, ⟨u, u2, ?_⟩, ?_, ?_⟩, fun c hcm => ?_⟩
    · exact (sb.2 _ D.TIz).trans (hk _ _ D.TIz D.TITO D.TIi1 D.TIi2 hTI)
    · exact (sb.2 _ D.TOz).trans TO'
    · exact h1'.at fun o q => (sb.2 _ D.i1z).trans q
    · exact h2'.at fun o q => (sb.2 _ D.i2z).trans q
    · have hlt : c < s.heap.objs.size := by
        have e' : c = z ∨ c = TI ∨ c = TO ∨ c = i1 ∨ c = i2 := by simpa using hcm
        rcases e' with q | q | q | q | q
        · rw [q]; exact hzl
        · rw [q]; exact Heap.lt_size hTI
        · rw [q]; exact Heap.lt_size hTO
        · rw [q]; obtain ⟨_, e1, _⟩ := h1; exact Heap.lt_size e1
        · rw [q]; obtain ⟨_, e2, _⟩ := h2; exact Heap.lt_size e2
      rw [upd_ne (Nat.ne_of_lt hlt)]
      exact (hf c hcm).1
  done := by
    intro X hP hw hK hc i pins s σ H E I hf st hg
    subst hP hw hK
    obtain ⟨hz, hTI, ⟨x0, y0, hTO⟩, h1, h2⟩ := st
    obtain ⟨xs, ys, hqx, hqy, hend, hend2⟩ := hg
    obtain ⟨its, rv, p, _⟩ := I.list hqx
    obtain ⟨its2, rv2, p2, _⟩ := I.list hqy
    have l1 := rv.length
    have l2 := rv2.length
    exact pyNext_zipS_end (I.ok.hd hc) D hz hTI hTO h1 h2 p.isList p2.isList (by simp; omega) (by simp; omega) fun h' hk => ⟨rfl, I.turnedL (t' := s.toks) (ch := [z, TI, TO, i1, i2]) (fun c o hb q =>
      hk c o (fun q' => hb (by simp [q'])) (fun q' => hb (by simp [q'])) (fun q' => hb (by simp [q'])) (fun q' => hb (by simp [q'])) q) hf⟩
  self := fun A i s Q E st h => pyIter_zipS st.1 h
def iZipS0 (K : PySem.W.Frag) (ta : TA) : TI := fun σ H R => ta σ H fun vs H1 => ∃ a b xs ys, vs = [.ref a, .ref b] ∧ SqL K H1 a xs ∧ SqL K H1 b ys ∧ R (ItzS K a b) H1
theorem pi_zipS {X : Cx} {e e2 : Expr} {ta : TA} {p pos tpos kpos cpos : Pos} {j : Nat} {elts : List Expr} {kk : Nat} (hg : Gl X "zip") (hm : X.mg "zip" = none) (ha : PA X [e, e2] ta)
    (hs : starEach (e :: [e2]) X.env = (false, eval e X.env) :: starEach [e2] X.env := by rfl) (hpl : (backTo pos (starEach (e :: [e2]) X.env)).any (·.1) = false := by rfl)
    (hall : (backToKw pos (keywordEach [⟨some (Str.ofString "strict"), .Constant (.bool true) j cpos, kpos⟩] X.env)).all (·.1.isSome) = true := by rfl)
    (hnone : (backToKw pos (keywordEach [⟨some (Str.ofString "strict"), .Constant (.bool true) j cpos, kpos⟩] X.env)).any (·.1.isNone) = false := by rfl)
    (hks : (backToKw pos (keywordEach [⟨some (Str.ofString "strict"), .Constant (.bool true) j cpos, kpos⟩] X.env)).filterMap (·.1) = [Str.ofString "strict"] := by rfl) :
    PI X (.Tuple elts kk tpos) (.Call (.Name "zip" p) [e, e2] [⟨some (Str.ofString "strict"), .Constant (.bool true) j cpos, kpos⟩] pos) (iZipS0 X.K ta) := by
  refine ⟨fun pins s σ H R I h => ?_⟩
  refine wpAny_Call_Name_kw (ld_blt I hg hm PyProof.Rows.boot_zip ?_)
  refine callWith_typeKw hpl hnone (evalArgs_kw2 hall (thn (ha.run pos pins s σ H _ I h) fun us s1 ⟨vs, H1, I1, r1, q1⟩ => ?_) hs)
  have hk : PK X [⟨some (Str.ofString "strict"), .Constant (.bool true) j cpos, kpos⟩] (tCons (tC (.bl true)) tNil) := pk_cons pe_bl pk_nil
  refine thn (hk.run pos pins s1 σ H1 (fun zs H2 => zs = [.bl true] ∧ H2 = H1) I1 ⟨rfl, rfl⟩) fun ws s2 ⟨zs, H2, I2, r2, e1, e2⟩ => ?_
  subst e1 e2
  obtain ⟨w0, rfl, rw0⟩ := vals1 r2
  cases rw0
  rw [hks]
  obtain ⟨a, b, xs, ys, ex, hqx, hqy, q⟩ := q1
  subst ex
  cases r1 with
  | cons r rr =>
    cases rr with
    | cons r' rr =>
      cases rr
      cases r
      cases r'
      obtain ⟨its, rv, p1, _⟩ := I2.list hqx
      obtain ⟨its2, rv2, p2, _⟩ := I2.list hqy
      have la : a < s2.heap.objs.size := p1.lt
      have lb : b < s2.heap.objs.size := p2.lt
      refine call_zipS p1.isList p2.isList fun h' hz hTI hTO h1 h2 hsz hk => pyIter_zipS hz ?_
      have I3 : Inv X pins σ H2 { s2 with heap := h' } := I2.kept (t' := s2.toks) hk
      refine ⟨s2.heap.objs.size + 4, [s2.heap.objs.size + 4, s2.heap.objs.size + 2, s2.heap.objs.size + 3, s2.heap.objs.size, s2.heap.objs.size + 1], _, _, H2, rfl, I3, turn_zipS (PySem.W.ktu_apart s2.heap.objs.size a b la lb), ⟨hz, hTI, ⟨_, _, hTO⟩, h1, h2⟩, fun c hcm => ?_, q⟩
      have e' : c = s2.heap.objs.size + 4 ∨ c = s2.heap.objs.size + 2 ∨ c = s2.heap.objs.size + 3 ∨ c = s2.heap.objs.size ∨ c = s2.heap.objs.size + 1 := by simpa using hcm
      have hle : s2.heap.objs.size ≤ c := by
        rcases e' with z | z | z | z | z
        · rw [z]; exact Nat.le_add_right _ _
        · rw [z]; exact Nat.le_add_right _ _
        · rw [z]; exact Nat.le_add_right _ _
        · rw [z]; exact Nat.le_refl _
        · rw [z]; exact Nat.le_add_right _ _
      exact I2.fpOk hle (I2.hok.fresh hle)
/-! the reading -/
theorem itOk_zipS {K : PySem.W.Frag} {mg : Str → Option Value} {W : Hp} {a b : Addr} {vs us : List V} {l m : List D} (h1 : SqL K W a vs) (h2 : RepL K mg W l vs) (h3 : SqL K W b us) (h4 : RepL K mg W m us) (he : l.length = m.length) : ItOk K mg (ItzS K a b) W (zipD l m) where
  go := fun i H s hi => by
    rw [zipD_len] at hi
    have hv : i < vs.length := by rw [h2.length]; omega
    have hu : i < us.length := by rw [h4.length]; omega
    exact ⟨vs, us, vs[i], us[i], s.seq h1, s.seq h3, by simp [hv], by simp [hu]⟩
  stop := fun H s => ⟨vs, us, s.seq h1, s.seq h3, by rw [zipD_len, h2.length, he, Nat.min_self]; exact Nat.le_refl _, by rw [zipD_len, h4.length, he, Nat.min_self]; exact Nat.le_refl _⟩
  yld := fun B W1 H xs cs i x H' d s r e y => by
    obtain ⟨T, u, u', rfl, nT, rfl, f, f'⟩ := y
    obtain ⟨z, z', ez, ez', rfl⟩ := zipD_get e
    exact R.pair (ds := [z, z']) (xs := [u, u']) r ⟨u, [u'], rfl, Rep.mono s _ _ (h2.uniq ez (f vs (r.sw.seq (s.seq h1)))), u', [], rfl, Rep.mono s _ _ (h4.uniq ez' (f' us (r.sw.seq (s.seq h3)))), rfl⟩ nT
def iZipSM (ms : Env → Option (List D × Env)) : Env → Option (List D × Env) := fun ρ => match ms ρ with
  | some ([.lst l, .lst m], ρ1) => if l.length = m.length then some (zipD l m, ρ1) else none
  | _ => none
theorem i_zipS {X : Cx} {a b : Expr} {ms : Env → Option (List D × Env)} {p pos tpos kpos cpos : Pos} {j : Nat} {elts : List Expr} {kk : Nat} (hg : Gl X "zip") (hm : X.mg "zip" = none) (ha : PA X [a, b] (gA X 0 ms))
    (hs : starEach (a :: [b]) X.env = (false, eval a X.env) :: starEach [b] X.env := by rfl) (hpl : (backTo pos (starEach (a :: [b]) X.env)).any (·.1) = false := by rfl)
    (hall : (backToKw pos (keywordEach [⟨some (Str.ofString "strict"), .Constant (.bool true) j cpos, kpos⟩] X.env)).all (·.1.isSome) = true := by rfl)
    (hnone : (backToKw pos (keywordEach [⟨some (Str.ofString "strict"), .Constant (.bool true) j cpos, kpos⟩] X.env)).any (·.1.isNone) = false := by rfl)
    (hks : (backToKw pos (keywordEach [⟨some (Str.ofString "strict"), .Constant (.bool true) j cpos, kpos⟩] X.env)).filterMap (·.1) = [Str.ofString "strict"] := by rfl) :
    PI X (.Tuple elts kk tpos) (.Call (.Name "zip" p) [a, b] [⟨some (Str.ofString "strict"), .Constant (.bool true) j cpos, kpos⟩] pos) (gI X (iZipSM ms)) :=
  PIi (pi_zipS hg hm ha hs hpl hall hnone hks) fun σ H Rj ⟨B, W, ts, tc, ρ, ds, ρ', r, hl, em, q⟩ => by
    unfold iZipSM at em
    split at em
    · rename_i l m ρ1 ex
      split at em
      · rename_i he
        cases em
        refine ⟨B, W, ts, tc, ρ, _, ρ', r, hl, ex, fun W1 H1 vs g1 r1 => ?_⟩
        obtain ⟨u, v, rfl, ⟨a, xs, rfl, h1, h2⟩, ⟨b, ys, rfl, h3, h4⟩⟩ := repL2 (RL.rep0 r1)
        exact ⟨a, b, xs, ys, rfl, (RL.r r1).sw.seq h1.sq, (RL.r r1).sw.seq h3.sq, q W1 H1 _ g1 (RL.r r1) (itOk_zipS h1.sq h2 h3.sq h4 he)⟩
      · cases em
    · cases em
end Mn

namespace Mn
open PySem PySem.Spec PyProof.Rows L2
/-! ### calls with keywords alone -/
def permL {α : Type} (p : List Nat) (l : List α) : List α := p.filterMap (l[·]?)
structure FnKw (P : Program) (w : World) (K : PySem.W.Frag) (mg : Str → Option Value) (base : Heap) (k : Nat) (x : Str) (n : Nat) (ks : List Str) (p : List Nat) (sp : Sp1) : Prop where
  ex : ∃ (f : Addr) (fd : FuncData) (ps : List Str), mg x = some (.ref f) ∧ PySem.W.keepIn K (.ref f) = true ∧ (∀ ws : List Value, ws.length = ks.length → bindArgs fd ⟨[], ks.zip ws⟩ = pure (ps.zip (permL p ws))) ∧ ps.length = n ∧ FnG P w K mg base k f fd ps sp
theorem Vals.perm {vs : List V} {us : List Value} (h : Vals vs us) : ∀ p : List Nat, Vals (permL p vs) (permL p us)
  | [] => .nil
  | i :: p => by
    have hp := Vals.perm h p
    unfold permL at hp ⊢
    rw [List.filterMap_cons, List.filterMap_cons]
    cases q : vs[i]? with
    | none =>
      have : us[i]? = none := by
        rw [List.getElem?_eq_none_iff] at q ⊢
        rw [← h.length]; exact q
      rw [this]
      exact hp
    | some v =>
      obtain ⟨u, hu, r⟩ := h.get q
      rw [hu]
      exact .cons r hp
theorem RepL.perm {K : PySem.W.Frag} {mg : Str → Option Value} {W : Hp} {ds : List D} {vs : List V} (h : RepL K mg W ds vs) : ∀ p : List Nat, RepL K mg W (permL p ds) (permL p vs)
  | [] => rfl
  | i :: p => by
    have hp := RepL.perm h p
    unfold permL at hp ⊢
    rw [List.filterMap_cons, List.filterMap_cons]
    cases q : ds[i]? with
    | none =>
      have : vs[i]? = none := by
        rw [List.getElem?_eq_none_iff] at q ⊢
        rw [h.length]; exact q
      rw [this]
      exact hp
    | some d =>
      obtain ⟨v, hv, r⟩ := h.get q
      rw [hv]
      exact ⟨v, _, rfl, r, hp⟩
section
variable {X : Cx} {a b c e : Expr} {es : List Expr} {f g : Env → Option D} {m n : Env → Option (Cell × Env)} {ms : Env → Option (List D × Env)} {pos kpos : Pos} {σ : L2.St} {H : Hp} {ρ : Env} {k : Nat} {nm : Option Str} {kws : List Keyword}
theorem gk_nil : PK X [] (gA X k mNil) := ⟨fun pos pins s σ H Q I ⟨B, W, ts, tc, ρ, ds, ρ', r, hl, e, q⟩ => by
  cases e
  exact pk_nil.run pos pins s σ H Q I (q W H [] (Gr.refl B W) (RL.nil r))⟩
theorem gk_cons (ha : PE X a (gS X m)) (hr : PK X kws (gA X k ms)) : PK X (⟨nm, a, kpos⟩ :: kws) (gA X k (mCons k m ms)) :=
  ⟨fun pos pins s σ H Q I ⟨B, W, ts, tc, ρ, ds, ρ', r, hl, e, q⟩ => by
    refine (pk_cons ha hr).run pos pins s σ H Q I ?_
    unfold mCons at e
    split at e
    · rename_i c ρ1 em
      split at e
      · rename_i hf
        split at e
        · rename_i ds' ρ2 ems
          cases e
          refine ⟨B, W, ts, tc, ρ, c, ρ1, r, hl, em, fun W1 H1 v g1 r1 => ?_⟩
          obtain ⟨W2, g2, r2⟩ := R.fit (k := k) r1 hf
          refine ⟨B, W2, some v :: ts, some (k, c.2) :: tc, ρ1, ds', ρ', r2, by simp [hl], ems, fun W3 H3 vs g3 r3 => ?_⟩
          exact q W3 H3 (v :: vs) ((g1.trans g2).trans g3) (RL.cons r3)
        · cases e
      · cases e
    · cases e⟩
def tCallKw (sp : Sp1) (p : List Nat) (t : TA) : TE := fun σ H Q => t σ H fun zs H2 => sp (permL p zs) H2 Q
theorem pe_callKw {x : Str} {sp : Sp1} {p : List Nat} {ks : List Str} {np : Pos} {nn : Nat} {tk : TA} (F : FnKw X.prog X.w X.K X.mg X.base k x nn ks p sp) (hr : Room k X.A) (hgd : X.A.guards = some []) (hg : Gl X x)
    (hkw : PK X kws tk) (hlen : ∀ σ H Q, tk σ H Q → tk σ H fun zs H2 => zs.length = ks.length ∧ Q zs H2) (hall : (backToKw pos (keywordEach kws X.env)).all (·.1.isSome) = true := by rfl) (hks : (backToKw pos (keywordEach kws X.env)).filterMap (·.1) = ks := by rfl)
    (hdb : (x == ("__debug__" : Str)) = false := by decide)
    (hpl : ((backTo pos (starEach [] X.env)).any (·.1) || (backToKw pos (keywordEach kws X.env)).any (·.1.isNone)) = false := by rfl) :
    PE X (.Call (.Name x np) [] kws pos) (tCallKw sp p tk) := by
  obtain ⟨f, fd, ps, hm, hk, hb, _, F⟩ := F.ex
  refine ⟨fun pins s σ H Q I h => ?_⟩
  refine wpAny_Call_Name_kw (ld_glob I hg hm ?_ hdb)
  refine PySem.W.callWith_KW0 (h₀ := X.base) I.ok.mod.kin hk hall (thn (hkw.run pos pins s σ H _ I (hlen _ _ _ h)) fun ws s2 ⟨zs, H2, I2, rz, hl, q2⟩ => ⟨I2.kIn, ?_⟩) hpl
  rw [hks]
  have hlw : ws.length = ks.length := by rw [← rz.length]; exact hl
  have hsp := F.len _ _ _ q2
  refine wpAny_call (codeAny_mono (F.run X.A X.stack s2 H2 ⟨[] ++ [], ks.zip ws⟩ (permL p ws) (permL p zs) Q hr hgd I2.env0 (.of_eq (hb ws hlw)) (Vals.perm rz p) q2) fun r s' hq => ?_)
  cases r with
  | error e => exact False.elim hq
  | ok fl =>
    cases fl with
    | ret u => exact I2.after hq
    | next => exact False.elim hq
    | brk => exact False.elim hq
    | cont => exact False.elim hq
def mCallKw (n nk : Nat) (F : Fp0) (p : List Nat) (ms : Env → Option (List D × Env)) : Env → Option (Cell × Env) := fun ρ => match ms ρ with
  | some (ds, ρ1) => if (permL p ds).length = n then (match F (permL p ds) with
    | some c => some (c, ρ1)
    | none => none) else none
  | none => none
theorem g_callKw {x : Str} {F : Fp0} {p : List Nat} {ks : List Str} {np : Pos} {nn : Nat} (hF : FnKw X.prog X.w X.K X.mg X.base k x nn ks p (sp0 X.K X.mg nn F)) (hr : Room k X.A) (hgd : X.A.guards = some []) (hg : Gl X x)
    (hkw : PK X kws (gA X 0 ms)) (hlen : ∀ ρ ds ρ', ms ρ = some (ds, ρ') → ds.length = ks.length) (hall : (backToKw pos (keywordEach kws X.env)).all (·.1.isSome) = true := by rfl) (hks : (backToKw pos (keywordEach kws X.env)).filterMap (·.1) = ks := by rfl)
    (hdb : (x == ("__debug__" : Str)) = false := by decide)
    (hpl : ((backTo pos (starEach [] X.env)).any (·.1) || (backToKw pos (keywordEach kws X.env)).any (·.1.isNone)) = false := by rfl) :
    PE X (.Call (.Name x np) [] kws pos) (gS X (mCallKw nn ks.length F p ms)) :=
  PEi (pe_callKw hF hr hgd hg hkw (fun σ H Q ⟨B, W, ts, tc, ρ, ds, ρ', r, hl, e, q⟩ => ⟨B, W, ts, tc, ρ, ds, ρ', r, hl, e, fun W' H' vs g r' => ⟨by rw [(RL.rep0 r').length]; exact hlen _ _ _ e, q W' H' vs g r'⟩⟩) hall hks hdb hpl) fun σ H Q ⟨B, W, ts, tc, ρ, cl, ρ', r, hl, em, q⟩ => by
    unfold mCallKw at em
    split at em
    · rename_i ds ρ1 ex
      split at em
      · rename_i hn
        split at em
        · rename_i c ef
          cases em
          refine ⟨B, W, ts, tc, ρ, ds, ρ', r, hl, ex, fun W1 H1 vs g1 r1 => ?_⟩
          have r0 := RL.r r1
          refine ⟨H1, W1, permL p ds, _, ⟨r0.sw, Same.refl _, fun _ => 0, fun _ => rfl, fun b => ⟨Nat.zero_le _, fun hb => (hb rfl).elim⟩⟩, (RL.rep0 r1).perm p, hn, ef, fun W2 H2 v g2 r2 => ?_⟩
          obtain ⟨g3, r3⟩ := R.called r0 g2 r2
          exact q W2 H2 v (g1.trans g3) r3
        · cases em
      · cases em
    · cases em
/-! ### repr -/
def rReprD (K : PySem.W.Frag) : List V → Hp → VK → Prop := fun xs H Q => ∃ x d, xs = [x] ∧ Dp K H x d ∧ d.showable = true ∧ d.hasDict = false ∧ d.depth < 64 ∧ d.shown.length ≤ sizeLine ∧ Q (.str d.shown) H
theorem call_reprD (hg : X.A.guards = some []) (hu : X.A.units + 65 < cLine) : CallR X (.builtin "repr") (rReprD X.K) := by
  intro pins s σ H xs us Q I r h
  obtain ⟨x, d, rfl, hd, hs, hn, hdp, hz, q⟩ := h
  obtain ⟨u, rfl, ru⟩ := vals1 r
  have go : ∀ (t : Tok) (h' : Heap) (tk : Nat), (∀ b o, s.heap.get? b = some o → h'.get? b = some o) → EP X pins σ Q (.str d.shown t) { s with heap := h', toks := tk } := fun t h' tk k => ⟨.str d.shown, H, I.kept k, ⟨t, rfl⟩, q⟩
  obtain ⟨as, rr⟩ := Dp.reads I d x u hd ru
  cases rr with
  | none => exact PySem.P.repr_of_none (go _ s.heap _ fun _ _ e => e)
  | bool b => exact PySem.P.repr_of_bool (go _ s.heap _ fun _ _ e => e)
  | int i t => exact PySem.P.repr_of_int (of_decide_eq_true hs) (go _ s.heap _ fun _ _ e => e)
  | str y t => exact PySem.P.repr_of_str (go _ s.heap _ fun _ _ e => e) hz
  | list h1 h2 h3 h4 => exact repr_of_reads' (.list h1 h2 h3 h4) hs (PyData.noDict_hsm hn) hg (by omega) (fun _ _ e => e) (fun h' u tk k => go u h' tk k) hz
  | tuple h1 h2 h3 h4 => exact repr_of_reads' (.tuple h1 h2 h3 h4) hs (PyData.noDict_hsm hn) hg (by omega) (fun _ _ e => e) (fun h' u tk k => go u h' tk k) hz
  | dict h1 h2 h3 h4 h5 => simp [PyData.hasDict] at hn
def okRepr (p : PyData) : Bool := p.showable && !p.hasDict && decide (p.depth < 64) && decide (p.shown.length ≤ sizeLine)
def dRepr : List D → Option D
  | [x] => match toP x with
    | some p => if okRepr p then some (.str p.shown) else none
    | none => none
  | _ => none
theorem w_repr : OpN X dRepr (rReprD X.K) := fun H xs z us Q e hu q => by
  unfold dRepr at e
  split at e
  · split at e
    · rename_i p ep
      split at e
      · rename_i hs
        unfold okRepr at hs
        simp only [Bool.and_eq_true, Bool.not_eq_true', decide_eq_true_eq] at hs
        cases e
        obtain ⟨u, rfl, h1⟩ := repL1 hu
        exact ⟨u, p, rfl, Rep.dp _ _ _ h1 ep, hs.1.1.1, hs.1.1.2, hs.1.2, hs.2, q _ rfl⟩
      · cases e
    · cases e
  · cases e
/-! ### sorted -/
def toP0 (d : D) : PyData := (toP d).getD .none
def leD : D → D → Bool := PySem.W.dataLe false toP0
def isTupC : PyData → Bool
  | .tuple (_ :: _) => true
  | _ => false
def notTN : PyData → Bool
  | .tuple _ => false
  | .none => false
  | _ => true
def okSort (ps : List PyData) : Bool := (ps.all fun p => ps.all fun q => PySem.W.alike p q) && (ps.all isTupC || ps.all notTN) && (ps.all fun p => decide (p.depth < 60))
theorem okSort_of {ps : List PyData} (h : okSort ps = true) : PySem.W.AllAlike ps ∧ PySem.W.Sortable ps ∧ ∀ p ∈ ps, p.depth < 60 := by
  unfold okSort at h
  rw [Bool.and_eq_true, Bool.and_eq_true, Bool.or_eq_true] at h
  obtain ⟨⟨h1, h2⟩, h3⟩ := h
  refine ⟨fun d hd d' hd' => ?_, ?_, fun p hp => ?_⟩
  · exact List.all_eq_true.mp (List.all_eq_true.mp h1 d hd) d' hd'
  · rcases h2 with h2 | h2
    · refine .inl fun d hd => ?_
      have := List.all_eq_true.mp h2 d hd
      unfold isTupC at this
      split at this
      · exact ⟨_, _, rfl⟩
      · cases this
    · refine .inr fun d hd => ?_
      have := List.all_eq_true.mp h2 d hd
      unfold notTN at this
      split at this
      · cases this
      · cases this
      · rename_i q1 q2
        exact ⟨q2, q1⟩
  · exact of_decide_eq_true (List.all_eq_true.mp h3 p hp)
def dSorted : List D → Option Cell
  | [.lst l] => match toPL l with
    | some ps => if okSort ps then some (1, .lst (l.mergeSort leD)) else none
    | none => none
  | _ => none
def rSortedG (K : PySem.W.Frag) (mg : Str → Option Value) : List V → Hp → VK → Prop := fun xs H Q => ∃ (a : Addr) (vs : List V) (W : Hp) (l : List D) (ps : List PyData), xs = [.ref a] ∧ SqL K H a vs ∧ Same W H ∧ RepL K mg W l vs ∧ toPL l = some ps ∧ okSort ps = true ∧
  ∀ (ys : List V) (p : Addr), RepL K mg W (l.mergeSort leD) ys → H p = none → Q (.ref p) (upd H p (.lst ys))
theorem toPL_map : ∀ {l : List D} {ps : List PyData}, toPL l = some ps → ps = l.map toP0 ∧ ∀ d ∈ l, toP d = some (toP0 d)
  | [], _, h => by cases h; exact ⟨rfl, by simp⟩
  | d :: ds, ps, h => by
    simp only [toPL] at h
    split at h
    · rename_i p ep
      split at h
      · rename_i qs eq
        cases h
        obtain ⟨h1, h2⟩ := toPL_map eq
        have e : toP0 d = p := by unfold toP0; rw [ep]; rfl
        refine ⟨by rw [List.map_cons, e, h1], fun x hx => ?_⟩
        rcases List.mem_cons.mp hx with rfl | hx
        · rw [e]; exact ep
        · exact h2 x hx
      · cases h
    · cases h
theorem each_vals {W : Hp} {K : PySem.W.Frag} {mg : Str → Option Value} : ∀ {l : List D} {vs : List V} {us : List Value}, RepL K mg W l vs → Vals vs us → PySem.W.EachIs (fun u d => ∃ v, RelV v u ∧ Rep K mg W d v) us l
  | [], _, _, h, r => by cases (show _ = [] from h); cases r; exact .nil
  | d :: ds, _, _, h, r => by
    obtain ⟨v, vr, rfl, h1, h2⟩ := h
    cases r with
    | cons r1 r2 => exact .cons ⟨v, r1, h1⟩ (each_vals h2 r2)
theorem each_back {W : Hp} {K : PySem.W.Frag} {mg : Str → Option Value} : ∀ {l : List D} {us : List Value}, PySem.W.EachIs (fun u d => ∃ v, RelV v u ∧ Rep K mg W d v) us l → ∃ vs, RepL K mg W l vs ∧ Vals vs us
  | _, _, .nil => ⟨[], rfl, .nil⟩
  | _, _, .cons ⟨v, r1, h1⟩ t => by
    obtain ⟨vs, h2, r2⟩ := each_back t
    exact ⟨v :: vs, ⟨v, vs, rfl, h1, h2⟩, .cons r1 r2⟩
theorem call_sortedG (hu : X.A.units + 65 < cLine) : CallR X (.builtin "sorted") (rSortedG X.K X.mg) := by
  intro pins s σ H xs us Q I r h
  obtain ⟨a, vs, W, l, ps, rfl, hs, sw, hrep, hl, hok, q⟩ := h
  obtain ⟨u, rfl, ru⟩ := vals1 r
  cases ru
  obtain ⟨its, rv, pl, hz⟩ := I.list hs
  obtain ⟨e1, e2⟩ := toPL_map hl
  obtain ⟨o1, o2, o3⟩ := okSort_of hok
  have each := each_vals hrep rv
  have er : PySem.W.EachIs (fun v b => ∃ as, Reads s.heap v (toP0 b) as) its l := by
    have : ∀ {l : List D} {vs : List V} {us : List Value}, (∀ d ∈ l, toP d = some (toP0 d)) → RepL X.K X.mg W l vs → Vals vs us → PySem.W.EachIs (fun v b => ∃ as, Reads s.heap v (toP0 b) as) us l := by
      intro l
      induction l with
      | nil => intro vs us _ h r; cases (show _ = [] from h); cases r; exact .nil
      | cons d ds ih =>
        rintro _ us hd ⟨v, vr, rfl, h1, h2⟩ r
        cases r with
        | cons r1 r2 => exact .cons (Dp.reads I _ _ _ (Rep.dp d v _ (Rep.mono sw _ _ h1) (hd d List.mem_cons_self)) r1) (ih (fun x hx => hd x (List.mem_cons_of_mem _ hx)) h2 r2)
    exact this e2 hrep rv
  have hlen : l.length ≤ sizeLine := by rw [← hrep.length]; exact hz
  refine PySem.W.sorted_data (enc := toP0) (bs := l) (R := fun u d => ∃ v, RelV v u ∧ Rep X.K X.mg W d v) pl.isList each er (by rw [← e1]; exact o1) (by rw [← e1]; exact o2) hlen (fun b hb => ?_) fun out ho eo => ?_
  · have := o3 (toP0 b) (by rw [e1]; exact List.mem_map.mpr ⟨b, hb, rfl⟩)
    omega
  · obtain ⟨ys, h1, h2⟩ := each_back eo
    obtain ⟨ep, he'⟩ := PyProof.Rows.sortedAll_at s.heap its out.toArray
    have hly : ys.length ≤ sizeLine := by rw [h2.length, ho]; exact hlen
    exact ⟨.ref _, upd H (s.heap.objs.size + 1) (.lst ys), I.laid (t' := s.toks) (fun _ _ => PyProof.Rows.sortedAll_old) (Nat.le_succ _) ⟨hly, out, ep, h2, he'⟩, rfl, q ys _ h1 (I.hok.fresh (Nat.le_succ _))⟩
theorem w_sorted : OpF1 X dSorted (rSortedG X.K X.mg) := fun B W H vs cs xs c us Q e r hu q => by
  unfold dSorted at e
  split at e
  · split at e
    · rename_i ps ep
      split at e
      · rename_i hs
        cases e
        obtain ⟨u, rfl, a, ys, rfl, h1, h2⟩ := repL1 hu
        exact ⟨a, ys, W, _, ps, rfl, (Same.seqX r.sw h1).sq, r.sw, h2, ep, hs, fun zs p h3 np => q W _ _ (Gr.refl B W) (r.newL h3 np)⟩
      · cases e
    · cases e
  · cases e
/-! ### in of a list or a tuple -/
def rInG (K : PySem.W.Frag) : R2 := fun x y H Q => ∃ d ds, Dp K H x d ∧ (Dp K H y (.list ds) ∨ Dp K H y (.tuple ds)) ∧ SeqAt.shaped d = true ∧ SeqAt.shaped (.list ds) = true ∧ Q (.bl (ds.any fun z => PyData.eqv z d)) H
def rNotInG (K : PySem.W.Frag) : R2 := fun x y H Q => ∃ d ds, Dp K H x d ∧ (Dp K H y (.list ds) ∨ Dp K H y (.tuple ds)) ∧ SeqAt.shaped d = true ∧ SeqAt.shaped (.list ds) = true ∧ Q (.bl (!ds.any fun z => PyData.eqv z d)) H
theorem op_inG (hu : X.A.units + 65 < cLine) : OpR X (compareOp .In) (rInG X.K) := by
  intro pins s σ H x y v u Q I rx ry h
  obtain ⟨d, ds, hd, he, sd, se, q⟩ := h
  obtain ⟨as, r1⟩ := Dp.reads I d x v hd rx
  rcases he with he | he
  · obtain ⟨bs, r2⟩ := Dp.reads I (.list ds) y u he ry
    exact SeqAt.in_list_reads r2 r1 (SeqAt.canLay_of_shaped se) (SeqAt.canLay_of_shaped sd) (room_in_shaped sd hu) ⟨.bl _, H, I, rfl, q⟩
  · obtain ⟨bs, r2⟩ := Dp.reads I (.tuple ds) y u he ry
    exact SeqAt.in_tuple_reads r2 r1 (SeqAt.canLay_of_shaped se) (SeqAt.canLay_of_shaped sd) (room_in_shaped sd hu) ⟨.bl _, H, I, rfl, q⟩
theorem op_notInG (hu : X.A.units + 65 < cLine) : OpR X (compareOp .NotIn) (rNotInG X.K) := by
  intro pins s σ H x y v u Q I rx ry h
  obtain ⟨d, ds, hd, he, sd, se, q⟩ := h
  obtain ⟨as, r1⟩ := Dp.reads I d x v hd rx
  rcases he with he | he
  · obtain ⟨bs, r2⟩ := Dp.reads I (.list ds) y u he ry
    exact SeqAt.notIn_list_reads r2 r1 (SeqAt.canLay_of_shaped se) (SeqAt.canLay_of_shaped sd) (room_in_shaped sd hu) ⟨.bl _, H, I, rfl, q⟩
  · obtain ⟨bs, r2⟩ := Dp.reads I (.tuple ds) y u he ry
    exact SeqAt.notIn_tuple_reads r2 r1 (SeqAt.canLay_of_shaped se) (SeqAt.canLay_of_shaped sd) (room_in_shaped sd hu) ⟨.bl _, H, I, rfl, q⟩
def seqP : D → Option (List PyData)
  | .lst l => toPL l
  | .tup l => toPL l
  | _ => none
def dInG : D → D → Option D := fun x y => match toP x, seqP y with
  | some p, some q => if SeqAt.shaped p && SeqAt.shaped (.list q) then some (.bl (q.any fun z => PyData.eqv z p)) else none
  | _, _ => none
def dNotInG : D → D → Option D := fun x y => match toP x, seqP y with
  | some p, some q => if SeqAt.shaped p && SeqAt.shaped (.list q) then some (.bl (!q.any fun z => PyData.eqv z p)) else none
  | _, _ => none
theorem seqP_dp {K : PySem.W.Frag} {mg : Str → Option Value} {y : D} {v : V} {q : List PyData} (e : seqP y = some q) (h : Rep K mg H y v) : Dp K H v (.list q) ∨ Dp K H v (.tuple q) := by
  cases y <;> first | (cases e; done) | skip
  · exact .inl (Rep.dp _ _ _ h (by simp only [toP]; rw [show toPL _ = some q from e]))
  · exact .inr (Rep.dp _ _ _ h (by simp only [toP]; rw [show toPL _ = some q from e]))
theorem w_inG : Op2 X dInG (rInG X.K) := fun H x y z u v Q e hu hv q => by
  unfold dInG at e
  split at e
  · rename_i px py ex ey
    split at e
    · rename_i hs
      rw [Bool.and_eq_true] at hs
      cases e
      exact ⟨px, py, Rep.dp x u px hu ex, seqP_dp ey hv, hs.1, hs.2, q _ rfl⟩
    · cases e
  · cases e
theorem w_notInG : Op2 X dNotInG (rNotInG X.K) := fun H x y z u v Q e hu hv q => by
  unfold dNotInG at e
  split at e
  · rename_i px py ex ey
    split at e
    · rename_i hs
      rw [Bool.and_eq_true] at hs
      cases e
      exact ⟨px, py, Rep.dp x u px hu ex, seqP_dp ey hv, hs.1, hs.2, q _ rfl⟩
    · cases e
  · cases e
theorem op_isG : OpR X (compareOp .Is) (fun x y H Q => rIsB x y H Q ∨ (y = .non ∧ Q (.bl (decide (x = .non))) H)) := OpR.or op_isBl op_isN
theorem op_notG : OpR X (compareOp .IsNot) (fun x y H Q => rNotB x y H Q ∨ (y = .non ∧ Q (.bl (!decide (x = .non))) H)) := OpR.or op_notBl op_notN
theorem w_isG : Op2 X dIsG (fun x y H Q => rIsB x y H Q ∨ (y = .non ∧ Q (.bl (decide (x = .non))) H)) := fun H x y z u v Q e hu hv q => by
  unfold dIsG at e
  split at e
  · cases e
    exact .inl ⟨_, _, hu, hv, q _ rfl⟩
  · exact .inr (w_isN (X := X) H x y z u v Q e hu hv q)
theorem w_notG : Op2 X dNotG (fun x y H Q => rNotB x y H Q ∨ (y = .non ∧ Q (.bl (!decide (x = .non))) H)) := fun H x y z u v Q e hu hv q => by
  unfold dNotG at e
  split at e
  · cases e
    exact .inl ⟨_, _, hu, hv, q _ rfl⟩
  · exact .inr (w_notN (X := X) H x y z u v Q e hu hv q)
end
end Mn

namespace Mn
open PySem PySem.Spec PyProof.Rows L2
theorem law_callG {P : Program} {w : World} {K : PySem.W.Frag} {mg mb : Str → Option Value} {k : Nat} {fa a : Addr} {x : Str} {Fl : Fp0} {j : Nat} {s₁ : Shared} {vs : List Value} {ns : List Int}
    (KX : K.In s₁.heap) (hns : s₁.heap.Ns mainGlobals mg) (hb : s₁.heap.Ns builtinsNs mb) (hbb : ∀ x : Str, x ≠ "__name__" → mb x = bootBuiltins x) (hlim : s₁.heap.NoLimit) (hg : s₁.gens = #[])
    (ha : s₁.heap.get? a = some { cls := .type "list", data := .seq vs.toArray }) (hi : IntsAre vs ns) (hl : ns.length ≤ sizeLine) (hr : Room k callerA) (hgd : callerA.guards = some [])
    (hmg : mg x = some (.ref fa)) (F : ∀ base : Heap, K.In base → base.Ns mainGlobals mg → FnAt P w K mg base k x 1 (sp0 K mg 1 Fl))
    (hF : Fl [.lst (ns.map D.int)] = some (j, .bl true)) :
    codeAny (model P w) callerA (.call (.ref fa) ⟨[.ref a], []⟩) (fun r s' => r = .ok (.ret (.bool true)) ∧ OldK s₁.heap s'.heap ∧ s'.os = s₁.os ∧ AllBare s'.gens) s₁ := by
  have rv := vals_ints hi
  have lenV := hi.length
  have repI : ∀ (W : Hp) (ns : List Int), RepL K mg W (ns.map D.int) (ns.map V.int) := by
    intro W ns
    induction ns with
    | nil => exact rfl
    | cons n ns ih => exact ⟨.int n, _, rfl, rfl, ih⟩
  have hsp : ∀ H : Hp, SqX K H a (ns.map V.int) → sp0 K mg 1 Fl [.ref a] H (fun v _ => v = .bl true) := fun H hS =>
    ⟨H, H, [.lst (ns.map D.int)], _, ⟨Same.refl H, Same.refl H, fun _ => 0, fun _ => rfl, fun b => ⟨Nat.zero_le _, fun z => absurd rfl z⟩⟩, ⟨.ref a, [], rfl, ⟨a, _, rfl, hS, repI H ns⟩, rfl⟩, rfl, hF, fun W' H' v g r => by
      obtain ⟨v', ev, hv⟩ := r.rep (i := 0) (c := (j, .bl true)) rfl
      have e2 : some (some v) = some (some v') := ev
      cases e2
      exact hv⟩
  -- from an abstract heap in which nothing but the script may be tracked
  have core : ∀ H : Hp, Only H → SqX K H a (ns.map V.int) → HOk P w H s₁.heap → (∀ b, H b ≠ none → b = a) → (H a ≠ none → K.lookup a = none) →
      codeAny (model P w) callerA (.call (.ref fa) ⟨[.ref a], []⟩) (fun r s' => r = .ok (.ret (.bool true)) ∧ OldK s₁.heap s'.heap ∧ s'.os = s₁.os ∧ AllBare s'.gens) s₁ := by
    intro H hO hS hok hA hK
    have base_of : ∀ {b : Addr} {o : Obj}, s₁.heap.get? b = some o → H b = none → (hidT s₁.heap H).get? b = some o := fun e n => hidT_get e n
    have noA : ∀ {b : Addr} {o : Obj} {es : Array DictEntry} {ep : Nat}, s₁.heap.get? b = some o → o.data = .dict es ep → H b = none := fun {b o es ep} e d => by
      cases q : H b with
      | none => rfl
      | some u =>
        have e' : b = a := hA b (by rw [q]; simp)
        subst e'
        rw [ha] at e; cases e
        have d' : Data.seq vs.toArray _ = Data.dict es ep := d
        cases d'
    have nsK : ∀ {b : Addr} {m : Str → Option Value}, s₁.heap.Ns b m → (hidT s₁.heap H).Ns b m := fun {b m} ⟨o, es, ep, e, d, r⟩ => ⟨o, es, ep, base_of e (noA e d), d, r⟩
    have hKb : K.In (hidT s₁.heap H) := fun b o e => base_of (KX b o e) (by
      cases q : H b with
      | none => rfl
      | some u =>
        have e' : b = a := hA b (by rw [q]; simp)
        subst e'
        rw [hK (by rw [q]; simp)] at e; cases e)
    have hM : Mod K mg (hidT s₁.heap H) := ⟨hKb, nsK hns, ⟨mb, nsK hb, hbb⟩, let ⟨mc, h1, h2⟩ := hlim; ⟨mc, nsK h1, h2⟩⟩
    have e0 : Env0 P w K mg (hidT s₁.heap H) callerA [] s₁ H := ⟨rfl, hM, fun b o e => of_hidT e, Nat.le_of_eq (hidT_size _ _), trivial, fun b hb => absurd (show b ∈ ([] : List Addr) from hb) (by simp), hok, .of_eq hg⟩
    obtain ⟨f, fd, ps, hm, hk, hbd, hps, G⟩ := (F _ hKb (nsK hns)).ex
    rw [hmg] at hm
    cases hm
    have hbind := hbd s₁ [.ref a] KX (by rw [hps]; rfl)
    rw [List.append_nil] at hbind
    refine codeAny_mono (G.run callerA [] s₁ H ⟨[.ref a], []⟩ [.ref a] [.ref a] (fun v _ => v = .bl true) hr hgd e0 hbind (.cons rfl .nil) (hsp H hS)) fun r s' h => ?_
    cases r with
    | error e => exact False.elim h
    | ok fl =>
      cases fl with
      | next => exact False.elim h
      | brk => exact False.elim h
      | cont => exact False.elim h
      | ret u =>
        obtain ⟨v, H', os, bare, un, hok', r', q⟩ := h
        have q' : v = .bl true := q
        subst q'
        obtain rfl : u = Value.bool true := r'
        refine ⟨rfl, OldK.of_keep fun b o e => ?_, os, bare⟩
        cases q : H b with
        | none => exact un.keep b o e q (by intro z; exact absurd (show b ∈ ([] : List Addr) from z) (by simp)) (by simp)
        | some u =>
          rcases hO b with z | ⟨ob, xs, z⟩
          · rw [q] at z; cases z
          · have z2 := un.frzs b ob _ z
            obtain ⟨e1, _⟩ := hok b _ z
            obtain ⟨e2, _⟩ := hok' b _ z2
            rw [e] at e1; cases e1
            exact e2
  cases hk : K.lookup a with
  | some o =>
    have e := KX a o hk
    rw [ha] at e
    cases e
    refine core (fun _ => none) (fun _ => .inl rfl) (.inr ⟨vs.toArray, _, hk, by rw [List.size_toArray, lenV]; exact hl, by simpa using rv⟩) (fun b u z => by have z' : (none : Option HO) = some u := z; cases z') (fun b z => absurd rfl z) fun z => absurd rfl z
  | none =>
    refine core (fun b => if b = a then some (.frz { cls := .type "list", data := .seq vs.toArray } (.lst (ns.map V.int))) else none) (fun b => ?_) (.inl (.inr ⟨{ cls := .type "list", data := .seq vs.toArray }, if_pos rfl⟩)) (fun b u z => ?_) (fun b z => ?_) fun _ => hk
    · by_cases hb : b = a
      · exact .inr ⟨_, _, if_pos hb⟩
      · exact .inl (if_neg hb)
    · by_cases hb : b = a
      · have z' := (if_pos hb).symm.trans z
        cases z'
        subst hb
        exact ⟨ha, by rw [List.length_map]; exact hl, vs, _, rv, ha⟩
      · have z' := (if_neg hb).symm.trans z
        cases z'
    · by_cases hb : b = a
      · exact hb
      · exact absurd (if_neg hb) z
/-- the goal that k_head leaves, from the law's def -/
theorem walk_ofM {l : PySem.W.OpenLaw} {n k : Nat} {q : Program} {loose : List Str} {XP : (Str → Option Value) → Heap → Prop} {YP : World → Heap → Prop} {d : DefRec} {K : Params → PySem.W.Frag} {Fl : Fp0}
    (hn : l.most = some n) (hn2 : n ≤ sizeLine) (hdf : d.params.defaults = []) (hr : Room k callerA) (hgd : callerA.guards = some [])
    (hY : ∀ (w : World) (h : Heap), YP w h → (K w.params).In h)
    (F : ∀ (w : World) (mg : Str → Option Value) (base : Heap), (K w.params).In base → base.Ns mainGlobals mg → FnAt l.prog w (K w.params) mg base k d.name 1 (sp0 (K w.params) mg 1 Fl))
    (hlaw : ∀ ns : List Int, ns.length ≤ n → ∃ j, Fl [.lst (ns.map D.int)] = some (j, .bl true)) :
    PySem.W.WalkO q loose XP YP l.row.toRowW d [] (fun f vs => PySem.call f vs) := by
  refine Att.attach_call hn hdf fun w s₀ s₁ mg mb fa o pm cd doc a vs ns G Y ho hd hcd hmg hobj hints hlen hg => ?_
  have KX := hY w _ Y
  obtain ⟨j, hF⟩ := hlaw ns hlen
  exact law_callG KX G.T.g G.T.b G.T.builtins G.T.nolimit hg hobj hints (Nat.le_trans hlen hn2) hr hgd hmg (F w mg) hF
theorem guards_caller : callerA.guards = some [] := by rfl
theorem room_caller {k : Nat} (h : k ≤ 200) : Room k callerA := by
  have e1 : callerA.depth ≤ 301 := by decide
  have e2 : callerA.units ≤ 10 := by decide
  have e3 : recursionLimit = 1000 := rfl
  have e4 : cLine = 9900 := rfl
  exact ⟨rfl, by omega, by omega⟩
end Mn

namespace Mn
open PySem PySem.Spec PyProof.Rows L2
section
variable {X : Cx} {a b c e : Expr} {es : List Expr} {f g : Env → Option D} {m n : Env → Option (Cell × Env)} {ms : Env → Option (List D × Env)} {pos : Pos} {σ : L2.St} {H : Hp} {ρ : Env} {k : Nat} {pr : List Nat}
/-- the value, shared from now on -/
def mFz (m : Env → Option (Cell × Env)) : Env → Option (Cell × Env) := fun ρ => match m ρ with
  | some (c, ρ1) => some ((0, c.2), ρ1)
  | none => none
theorem fz_imp {Q : VK} (h : gS X (mFz m) σ H Q) : gS X m σ H Q := by
  obtain ⟨B, W, ts, tc, ρ, cl, ρ', r, hl, e, q⟩ := h
  unfold mFz at e
  split at e
  · rename_i c ρ1 em
    cases e
    refine ⟨B, W, ts, tc, ρ, c, _, r, hl, em, fun W1 H1 v g1 r1 => ?_⟩
    obtain ⟨W2, g2, r2, hu⟩ := R.pop r1
    exact q W2 H1 v (g1.trans g2) (r2.push0 hu)
  · cases e
theorem g_fz (h : PE X e (gS X m)) : PE X e (gS X (mFz m)) := PEi h fun σ H Q q => fz_imp q
/-! ### items of what is owned, read -/
def oS (X : Cx) (f : Env → Option Cell) : TE := fun σ H Q => ∃ (B W : Hp) (ts : List (Option V)) (tc : List (Option Cell)) (ρ : Env) (c : Cell), R X.K X.mg B W H (ts ++ σ) (tc ++ ρ) ∧ ts.length = tc.length ∧ f ρ = some c ∧ ∀ v F, Own X.K X.mg W H c.1 c.2 v F → Q v H
def oVar (i : Nat) : Env → Option Cell := fun ρ => match ρ[i]? with
  | some (some c) => some c
  | _ => none
theorem R.own {K : PySem.W.Frag} {mg : Str → Option Value} {B W H : Hp} {vs : List (Option V)} {cs : List (Option Cell)} {c : Cell} (r : R K mg B W H vs cs) {i : Nat} (e : cs[i]? = some (some c)) : ∃ v F, vs[i]? = some (some v) ∧ Own K mg W H c.1 c.2 v F := by
  obtain ⟨T, h, hT⟩ := r.ex
  obtain ⟨v, F, G, ev, ⟨u, eu, ho⟩, h3, put⟩ := h.focus e
  exact ⟨u, F, by rw [ev, eu], ho⟩
theorem o_var {i : Nat} (h : PE X e (tVar i)) : PE X e (oS X (oVar i)) := PEi h fun σ H Q ⟨B, W, ts, tc, ρ, c, r, hl, em, q⟩ => by
  unfold oVar at em
  split at em
  · rename_i c' ec
    cases em
    obtain ⟨v, F, ev, ho⟩ := r.own (i := tc.length + i) (c := c) (by rw [get_app]; exact ec)
    rw [← hl, get_app] at ev
    exact ⟨v, ev, q v F ho⟩
  · cases em
def itC : Cell → Int → Option Cell
  | (k, .lst l), i => match atI l i with | some d => some (k - 1, d) | none => none
  | (k, .tup l), i => match atI l i with | some d => some (k - 1, d) | none => none
  | _, _ => none
def oIx (f : Env → Option Cell) (g : Env → Option D) : Env → Option Cell := fun ρ => match f ρ, g ρ with
  | some c, some (.int i) => itC c i
  | _, _ => none
theorem OwnL.get {K : PySem.W.Frag} {mg : Str → Option Value} {W H : Hp} {k : Nat} {l : List D} {vs : List V} {G : Fp} {i : Int} {d : D} (h : OwnL (Own K mg W H k) l vs G) (e : atI l i = some d) : ∃ v F, atI vs i = some v ∧ Own K mg W H k d v F := by
  unfold L2.atI at e ⊢
  rw [h.length]
  cases q : ixN l.length i with
  | none => rw [q] at e; cases e
  | some j =>
    rw [q] at e
    obtain ⟨v, F, G0, ev, ho, _⟩ := h.focus e
    exact ⟨v, F, ev, ho⟩
theorem o_ix (ha : PE X a (oS X (fc))) (hb : PE X b (pS X g)) (hs : PlainIx b) : PE X (.Subscript a b pos) (oS X (oIx fc g)) :=
  PEi (pe_ix ix_seq ha hb hs) fun σ H Q ⟨B, W, ts, tc, ρ, cl, r, hl, em, q⟩ => by
    unfold oIx at em
    split at em
    · rename_i c i ef eg
      refine ⟨B, W, ts, tc, ρ, c, r, hl, ef, fun v F ho => ⟨ρ, _, ⟨B, W, ts, tc, r, hl⟩, eg, fun u hu => ?_⟩⟩
      obtain ⟨k, d⟩ := c
      cases d <;> first | (cases em; done) | skip
      · rename_i l
        simp only [itC] at em
        split at em
        · rename_i d ed
          cases em
          cases k with
          | zero =>
            obtain ⟨⟨p, vs, rfl, h1, h2⟩, _⟩ := ho
            obtain ⟨w, ew, hw⟩ := h2.atI ed
            exact .inl ⟨p, vs, i, w, rfl, hu, r.sw.seq h1.sq, ew, q w _ ⟨hw, fun _ => rfl⟩⟩
          | succ k =>
            obtain ⟨p, vs, G, rfl, h1, h2, _⟩ := ho
            obtain ⟨w, F', ew, hw⟩ := h2.get ed
            exact .inl ⟨p, vs, i, w, rfl, hu, SqL.of h1, ew, q w _ hw⟩
        · cases em
      · rename_i l
        simp only [itC] at em
        split at em
        · rename_i d ed
          cases em
          cases k with
          | zero =>
            obtain ⟨⟨p, vs, rfl, h1, h2⟩, _⟩ := ho
            obtain ⟨w, ew, hw⟩ := h2.atI ed
            exact .inr (.inl ⟨p, vs, i, w, rfl, hu, Same.seqT r.sw h1, ew, q w _ ⟨hw, fun _ => rfl⟩⟩)
          | succ k =>
            obtain ⟨p, vs, G, rfl, h1, h2, _⟩ := ho
            obtain ⟨w, F', ew, hw⟩ := h2.get ed
            exact .inr (.inl ⟨p, vs, i, w, rfl, hu, SqT.of h1, ew, q w _ hw⟩)
        · cases em
    · cases em
/-- .. as a value: what is shared, or a scalar -/
def mO (f : Env → Option Cell) : Env → Option (Cell × Env) := fun ρ => match f ρ with
  | some (k, d) => if k == 0 || d.sc then some ((0, d), ρ) else none
  | none => none
theorem g_o {fc : Env → Option Cell} (h : PE X e (oS X fc)) : PE X e (gS X (mO fc)) := PEi h fun σ H Q ⟨B, W, ts, tc, ρ, cl, ρ', r, hl, em, q⟩ => by
  unfold mO at em
  split at em
  · rename_i k d ed
    split at em
    · rename_i hk
      cases em
      refine ⟨B, W, ts, tc, ρ, _, r, hl, ed, fun v F ho => ?_⟩
      rw [Bool.or_eq_true] at hk
      rcases hk with hk | hk
      · have : k = 0 := by simpa using hk
        subst this
        exact q W H v (Gr.refl B W) (r.push0 ho.1)
      · exact q W H v (Gr.refl B W) (r.push0 (Own.scal (k' := 0) hk ho).1)
    · cases em
  · cases em
/-- a constant of the module, of any kind -/
def oK (d : D) : Env → Option Cell := fun _ => some (0, d)
theorem o_glv {x : Str} {u : Value} {v : V} {d : D} (hg : Gl X x) (hm : X.mg x = some u) (r : RelV v u) (hd : ∀ W, Rep X.K X.mg W d v) (hdb : (x == ("__debug__" : Str)) = false := by decide) : PE X (.Name x pos) (oS X (oK d)) :=
  PEi (pe_glob hg hm r hdb) fun σ H Q ⟨B, W, ts, tc, ρ, c, r, hl, e, q⟩ => by cases e; exact q v (fun _ => 0) ⟨hd W, fun _ => rfl⟩
/-- what is owned put together: both lists are given up -/
def mCatO (k : Nat) (m n : Env → Option (Cell × Env)) : Env → Option (Cell × Env) := fun ρ => match m ρ with
  | some ((k1, .lst l), ρ1) => (match n ρ1 with
    | some ((k2, .lst l'), ρ2) => if k + 1 ≤ k1 ∧ k + 1 ≤ k2 ∧ l.length + l'.length ≤ sizeLine then some ((k + 1, .lst (l ++ l')), ρ2) else none
    | _ => none)
  | _ => none
theorem OwnL.append {P : D → V → Fp → Prop} : ∀ {l l' : List D} {vs us : List V} {G G' : Fp}, OwnL P l vs G → OwnL P l' us G' → OwnL P (l ++ l') (vs ++ us) (fun b => G b + G' b)
  | [], _, _, _, G, G', h, h' => by
    obtain ⟨rfl, h0⟩ := h
    have : (fun b => G b + G' b) = G' := by funext b; rw [h0 b, Nat.zero_add]
    rw [this]; exact h'
  | _ :: _, _, _, _, G, G', h, h' => by
    obtain ⟨v, r, F, G1, rfl, h1, h2, h3⟩ := h
    exact ⟨v, r ++ _, F, _, rfl, h1, OwnL.append h2 h', fun b => by show G b + G' b = F b + (G1 b + G' b); rw [h3 b]; omega⟩
theorem g_catO (ha : PE X a (gS X m)) (hb : PE X b (gS X n)) : PE X (.BinOp a .Add b pos) (gS X (mCatO k m n)) :=
  PEi (pe_op op_cat ha hb) fun σ H Q ⟨B, W, ts, tc, ρ, cl, ρ', r, hl, em, q⟩ => by
    unfold mCatO at em
    split at em
    · rename_i k1 l ρ1 e1
      split at em
      · rename_i k2 l' ρ2 e2
        split at em
        · rename_i hz
          cases em
          obtain ⟨z1, z2, z3⟩ := hz
          refine ⟨B, W, ts, tc, ρ, _, ρ1, r, hl, e1, fun W1 H1 u g1 r1 => ?_⟩
          obtain ⟨W2, g2, r2⟩ := R.fit (k := k + 1) r1 (by unfold Mn.fit; simp [z1])
          refine ⟨B, W2, some u :: ts, some (k + 1, .lst l) :: tc, ρ1, _, _, r2, by simp [hl], e2, fun W3 H3 v g3 r3 => ?_⟩
          obtain ⟨W4, g4, r4⟩ := R.fit (k := k + 1) r3 (by unfold Mn.fit; simp [z2])
          obtain ⟨T, ⟨F, G, ⟨v', ev, ⟨p, xs, G1, rfl, h1, h2, h3⟩⟩, ⟨F2, G2, ⟨u', eu, ⟨p', ys, G3, rfl, h4, h5, h6⟩⟩, h7, h8⟩, h9⟩, hT⟩ := r4.ex
          cases ev; cases eu
          refine ⟨p', p, ys, xs, rfl, rfl, h4, h1, by rw [h5.length, h2.length]; exact z3, fun pn np => q W4 _ _ (((g1.trans g2).trans g3).trans g4) ?_⟩
          exact RL.lst ⟨r4.sw, r4.sb, G2, fun b => G3 b + G1 b, h7, OwnL.append h5 h2, fun b => ⟨by have := (hT b).1; have := h9 b; have := h8 b; have := h6 b; have := h3 b; show G2 b + (G3 b + G1 b) ≤ 1; omega, fun hb => (hT b).2 (by have := h9 b; have := h8 b; have := h6 b; have := h3 b; have : G2 b + (G3 b + G1 b) ≠ 0 := hb; omega)⟩⟩ np
        · cases em
      · cases em
    · cases em
/-- f(e, ..) that changes e's object, e just made: it is given up behind the call -/
def mCallT (n : Nat) (F : Fp1) (m : Env → Option (Cell × Env)) (ms : Env → Option (List D × Env)) : Env → Option (Cell × Env) := fun ρ => match m ρ with
  | some (c0, ρ0) => (match ms ρ0 with
    | some (ds, ρ1) => if ds.length + 1 = n then (match F c0 ds with
        | some (c, _) => some (c, ρ1)
        | none => none) else none
    | none => none)
  | none => none
theorem g_callT {F : Fp1} {x : Str} {nn : Nat} {p : Pos} {es : List Expr} (hF : FnAt X.prog X.w X.K X.mg X.base k x nn (sp1 X.K X.mg nn F)) (hr : Room k X.A) (hgd : X.A.guards = some []) (hg : Gl X x)
    (h0 : PE X e (gS X m)) (ha : PA X es (gA X 0 ms)) (hdb : (x == ("__debug__" : Str)) = false := by decide) (he : starEach (e :: es) X.env = (false, eval e X.env) :: starEach es X.env := by rfl) (hpl : (backTo pos (starEach es X.env)).any (·.1) = false := by rfl) :
    PE X (.Call (.Name x p) (e :: es) [] pos) (gS X (mCallT nn F m ms)) := PEi (pe_callG hF hr hgd hg (pa_cons h0 ha he) hdb he hpl) fun σ H Q ⟨B, W, ts, tc, ρ, cl, ρ', r, hl, em, q⟩ => by
  unfold mCallT at em
  split at em
  · rename_i c0 ρ0 e0
    split at em
    · rename_i ds ρ1 ex
      split at em
      · rename_i hn
        split at em
        · rename_i c c1 ef
          cases em
          refine ⟨B, W, ts, tc, ρ, c0, ρ0, r, hl, e0, fun W0 H0 v0 g0 r0 => ⟨B, W0, some v0 :: ts, some c0 :: tc, ρ0, ds, _, r0, by simp [hl], ex, fun W1 H1 vs g1 r1 => ?_⟩⟩
          have r2 := RL.r r1
          obtain ⟨v0', B1, ev, rc, back⟩ := R.calledI r2 (i := 0) (c := c0) rfl
          have ev2 : some (some v0) = some (some v0') := ev
          cases ev2
          refine ⟨B1, W1, v0, vs, c0, ds, _, c1, rfl, rc, RL.rep0 r1, hn, ef, fun W2 H2 v g2 r3 => ?_⟩
          obtain ⟨g3, r4⟩ := back W2 H2 v _ c1 g2 r3
          have r5 : R X.K X.mg B W2 H2 (some v :: (some v0 :: (ts ++ σ))) (some cl :: (some c1 :: (tc ++ ρ'))) := r4
          obtain ⟨T, ⟨F1, G1, p1, ⟨F2, G2, p2, p3, p4⟩, p5⟩, hT⟩ := r5.ex
          exact q W2 H2 v ((g0.trans g1).trans g3) ⟨r5.sw, r5.sb, _, ⟨F1, G2, p1, p3, fun b => rfl⟩, fun b => ⟨by have := (hT b).1; have := p5 b; have := p4 b; show F1 b + G2 b ≤ 1; omega, fun hb => (hT b).2 (by have := p5 b; have := p4 b; have : F1 b + G2 b ≠ 0 := hb; omega)⟩⟩
        · cases em
      · cases em
    · cases em
  · cases em
end
section
variable {X : Cx} {pr js : List Nat} {tgt iter e a b : Expr} {sts : List Stmt} {it : Env → Option (List D × Env)} {tg : D → Env → Option Env} {pos : Pos}
/-- y = [..] on one line, shared -/
theorem s_setComp0 {kc i : Nat} {y : Str} {py spos : Pos} {elt tgt iter : Expr} {scope : Scope} {own : List (Str × Nat)} {x : Env → Option (Cell × Env)} (hc : X.calm = true) (hN : X.N.Nodup) (hy : X.N[i]? = some y) (hyl : X.env.scope.names.lookup y = some .local) (hp : i ∉ pr)
    (hsw : swapsWith (.ListComp elt [⟨tgt, iter, [], 0⟩] scope pos) (some (.Name y py)) spos.line X.env = pure true) (hi : PI X tgt iter (gI X it)) (ok : BlkOk X.N X.env.scope scope own)
    (hg : ∀ (s : Shared) (H : Hp) (C : Addr) (cl : List (Str × Addr)) (fp : List Addr), PG (X.blk s H scope (compEnvC scope cl C X.env) fp) tgt (tgS X js tg))
    (he : ∀ (s : Shared) (H : Hp) (C : Addr) (cl : List (Str × Addr)) (fp : List Addr), PE (X.blk s H scope (compEnvC scope cl C X.env) fp) elt (gS X x)) (hjs : ∀ j ∈ js, j ∈ own.map (·.2)) (hs : ∀ x, foldedSetIterable iter X.env x = pure x := by intro _; rfl) :
    PS X (.Assign [.Name y py] (.ListComp elt [⟨tgt, iter, [], 0⟩] scope pos) spos) (sS X pr (sAsg i (mFz (mComp kc it tg tYesM x (own.map (·.2)))))) :=
  PSi (ps_setLc hc hN hy hyl hsw hi ok hg (fun _ _ _ _ _ => pts_nil) he hs) fun Dn σ H h => comp_imp (fun _ _ _ h => h) (fun _ _ _ _ h => h) (fun _ _ _ h => yes_imp h) (fun _ _ _ h => h) hjs (fz_imp (asg_imp hp h))
theorem s_setCompIf0 {kc i : Nat} {y : Str} {py spos : Pos} {elt tgt iter cond : Expr} {scope : Scope} {own : List (Str × Nat)} {x : Env → Option (Cell × Env)} {t : Env → Option (Bool × Env)} (hc : X.calm = true) (hN : X.N.Nodup) (hy : X.N[i]? = some y) (hyl : X.env.scope.names.lookup y = some .local) (hp : i ∉ pr)
    (hsw : swapsWith (.ListComp elt [⟨tgt, iter, [cond], 0⟩] scope pos) (some (.Name y py)) spos.line X.env = pure true) (hi : PI X tgt iter (gI X it)) (ok : BlkOk X.N X.env.scope scope own)
    (hg : ∀ (s : Shared) (H : Hp) (C : Addr) (cl : List (Str × Addr)) (fp : List Addr), PG (X.blk s H scope (compEnvC scope cl C X.env) fp) tgt (tgS X js tg))
    (ht : ∀ (s : Shared) (H : Hp) (C : Addr) (cl : List (Str × Addr)) (fp : List Addr), PT (X.blk s H scope (compEnvC scope cl C X.env) fp) cond (gT X t))
    (he : ∀ (s : Shared) (H : Hp) (C : Addr) (cl : List (Str × Addr)) (fp : List Addr), PE (X.blk s H scope (compEnvC scope cl C X.env) fp) elt (gS X x)) (hjs : ∀ j ∈ js, j ∈ own.map (·.2)) (hs : ∀ x, foldedSetIterable iter X.env x = pure x := by intro _; rfl) :
    PS X (.Assign [.Name y py] (.ListComp elt [⟨tgt, iter, [cond], 0⟩] scope pos) spos) (sS X pr (sAsg i (mFz (mComp kc it tg t x (own.map (·.2)))))) :=
  PSi (ps_setLc hc hN hy hyl hsw hi ok hg (fun s H C cl fp => pts_one (ht s H C cl fp)) he hs) fun Dn σ H h => comp_imp (fun _ _ _ h => h) (fun _ _ _ _ h => h) (fun _ _ _ h => h) (fun _ _ _ h => h) hjs (fz_imp (asg_imp hp h))
end
/-! ### defs over the frames that stand -/
section
variable {P : Program} {w : World} {K : PySem.W.Frag} {mg : Str → Option Value} {base : Heap}
theorem fnG_fun {x qual : Str} {st : Stmt} {f : Addr} {fd : FuncData} {N ps : List Str} {k : Nat} {sp : Sp1} (F : Fun K x qual st f fd) (S : FnScope N ps (defScope st)) (len : ∀ vs H Q, sp vs H Q → vs.length = ps.length)
    (hbody : ∀ (cdv : Value) (A : Around) (outer : List PySem.Env) (s : Shared) (H : Hp) (vs : List V) (Q : VK), Room k (A.deeper (envOfC qual (defScope st) s.heap.objs.size f cdv)) → (A.deeper (envOfC qual (defScope st) s.heap.objs.size f cdv)).guards = some [] → sp vs H Q →
      ∃ t, PSs (cxOf CX0 P w K mg base N qual (defScope st) f cdv A outer s H E0).nox (defBody st) t ∧ t { nx := fun _ H' => Q .non H', rt := Q } (L2.start N vs) H) : FnG P w K mg base (k + 1) f fd ps sp := by
  obtain ⟨oc, od, kV, doc, pm, an, cdv, ct, osl, rfl, lk, hcd⟩ := F.ex
  exact fnG_of lk hcd S len fun A outer s H vs Q hr hg hsp => hbody cdv A outer s H vs Q hr hg hsp
/-- what is asked of a def's body -/
def Body (P : Program) (w : World) (K : PySem.W.Frag) (mg : Str → Option Value) (base : Heap) (N : List Str) (qual : Str) (st : Stmt) (f : Addr) (k : Nat) (pr : List Nat) (m : Env → Option Out) : Prop :=
  ∀ (cdv : Value) (A : Around) (outer : List PySem.Env) (s : Shared) (H : Hp), Room k (A.deeper (envOfC qual (defScope st) s.heap.objs.size f cdv)) → (A.deeper (envOfC qual (defScope st) s.heap.objs.size f cdv)).guards = some [] →
      PSs (cxOf CX0 P w K mg base N qual (defScope st) f cdv A outer s H E0).nox (defBody st) (sS (cxOf CX0 P w K mg base N qual (defScope st) f cdv A outer s H E0).nox pr m)
theorem fnG_of0 {x qual : Str} {st : Stmt} {f : Addr} {fd : FuncData} {N ps : List Str} {k n : Nat} {m : Env → Option Out} (F : Fun K x qual st f fd) (S : FnScope N ps (defScope st)) (hn : ps.length = n)
    (hbody : Body P w K mg base N qual st f k [] m) : FnG P w K mg base (k + 1) f fd ps (sp0 K mg n (run0 N.length m)) :=
  fnG_fun F S (fun vs H Q ⟨B, W, ds, c, r, h, hl, _⟩ => by rw [h.length, hl, hn]) fun cdv A outer s H vs Q hr hg ⟨B, W, ds, c, r, h, hl, ef, q⟩ => by
    refine ⟨_, hbody cdv A outer s H hr hg, ?_⟩
    unfold run0 at ef
    split at ef
    · rename_i c' ρ' em
      cases ef
      exact ⟨B, W, _, _, env0_r r h, em, fun W' H' σ' v g r' _ => q W' H' v g (R.one r')⟩
    · rename_i ρ' em
      cases ef
      exact ⟨B, W, _, _, env0_r r h, em, fun W' H' σ' g r' _ => q W' H' .non g (R.one (r'.push0 rfl))⟩
    · cases ef
theorem fnG_of1 {x qual : Str} {st : Stmt} {f : Addr} {fd : FuncData} {N ps : List Str} {k n : Nat} {m : Env → Option Out} (F : Fun K x qual st f fd) (S : FnScope N ps (defScope st)) (hn : ps.length = n)
    (hbody : Body P w K mg base N qual st f k [0] m) : FnG P w K mg base (k + 1) f fd ps (sp1 K mg n (run1 N.length m)) :=
  fnG_fun F S (fun vs H Q ⟨B, W, v0, vr, c0, ds, c, c1, ev, r, h, hl, _⟩ => by rw [ev, List.length_cons, h.length, hl, hn]) fun cdv A outer s H vs Q hr hg ⟨B, W, v0, vr, c0, ds, c, c1, ev, r, h, hl, ef, q⟩ => by
    subst ev
    refine ⟨_, hbody cdv A outer s H hr hg, ?_⟩
    have first : ∀ {σ' : L2.St}, Pr [0] (L2.start N (v0 :: vr)) σ' → ∃ r, σ' = some v0 :: r := fun {σ'} hp => by
      have e := hp 0 (by simp)
      have e2 : (L2.start N (v0 :: vr))[0]? = some (some v0) := rfl
      rw [e2] at e
      cases σ' with
      | nil => cases e
      | cons a r => cases (show some a = some (some v0) from e); exact ⟨r, rfl⟩
    unfold run1 at ef
    split at ef
    · rename_i c' ρ' em
      split at ef
      · rename_i c0' e0
        cases ef
        refine ⟨B, W, _, _, env1_r r h, em, fun W' H' σ' v g r' hp => ?_⟩
        obtain ⟨rr, rfl⟩ := first hp
        cases ρ' with
        | nil => cases e0
        | cons a ρr =>
          cases (show some a = _ from e0)
          exact q W' H' v g (R.two r')
      · cases ef
    · rename_i ρ' em
      split at ef
      · rename_i c0' e0
        cases ef
        refine ⟨B, W, _, _, env1_r r h, em, fun W' H' σ' g r' hp => ?_⟩
        obtain ⟨rr, rfl⟩ := first hp
        cases ρ' with
        | nil => cases e0
        | cons a ρr =>
          cases (show some a = _ from e0)
          exact q W' H' .non g (R.two (r'.push0 rfl))
      · cases ef
    · cases ef
theorem FnG.at {x qual : Str} {st : Stmt} {f : Addr} {fd : FuncData} {ps : List Str} {k n : Nat} {sp : Sp1} (G : FnG P w K mg base k f fd ps sp) (F : Fun K x qual st f fd) (hm : mg x = some (.ref f)) (hn : ps.length = n) (hb : Binds K fd ps []) : FnAt P w K mg base k x n sp :=
  ⟨f, fd, ps, hm, F.kp, hb, hn, G⟩
theorem FnG.kw {x qual : Str} {st : Stmt} {f : Addr} {fd : FuncData} {ps ks : List Str} {p : List Nat} {k n : Nat} {sp : Sp1} (G : FnG P w K mg base k f fd ps sp) (F : Fun K x qual st f fd) (hm : mg x = some (.ref f)) (hn : ps.length = n)
    (h : ∀ (kV doc pm : Value) (an : Option Addr) (cdv ct : Value) (ws : List Value), ws.length = ks.length → bindArgs (PySem.W.fnOf x qual (defArgs st) (defBody st) (defScope st) .none kV doc pm an cdv ct) ⟨[], ks.zip ws⟩ = pure (ps.zip (permL p ws))) : FnKw P w K mg base k x n ks p sp := by
  have kp := F.kp
  obtain ⟨oc, od, kV, doc, pm, an, cdv, ct, osl, rfl, lk, hcd⟩ := F.ex
  exact ⟨f, _, ps, hm, kp, fun ws hl => h kV doc pm an cdv ct ws hl, hn, G⟩
theorem FnG.up {f : Addr} {fd : FuncData} {ps : List Str} {j k : Nat} {sp : Sp1} (G : FnG P w K mg base j f fd ps sp) (h : j ≤ k) : FnG P w K mg base k f fd ps sp := G.mono h
end
end Mn

namespace Mn
open PySem PySem.Spec PyProof.Rows L2
theorem hu64 {A : Around} {k : Nat} (r : Room k A) : A.units + 64 < cLine := r.units
theorem hu65 {A : Around} {k : Nat} (r : Room k A) : A.units + 65 < cLine := by have := r.un; omega
theorem len_nil : ∀ (ρ : Mn.Env) (ds : List D) (ρ' : Mn.Env), mNil ρ = some (ds, ρ') → ds.length = 0 := fun ρ ds ρ' h => by cases h; rfl
theorem len_cons {k n : Nat} {m : Mn.Env → Option (Cell × Mn.Env)} {ms : Mn.Env → Option (List D × Mn.Env)} (h : ∀ ρ ds ρ', ms ρ = some (ds, ρ') → ds.length = n) : ∀ ρ ds ρ', mCons k m ms ρ = some (ds, ρ') → ds.length = n + 1 := fun ρ ds ρ' e => by
  unfold mCons at e
  split at e
  · split at e
    · split at e
      · rename_i er
        cases e
        rw [List.length_cons, h _ _ _ er]
      · cases e
    · cases e
  · cases e
def ofN (o : List D → Option D) : List D → Option Cell := fun ds => match o ds with | some d => if d.sc then some (0, d) else none | none => none
theorem w_of {X : Cx} {o : List D → Option D} {r : List V → Hp → VK → Prop} (w : OpN X o r) : OpF1 X (ofN o) r := w_ofN w
section
variable {X : Cx} {tg a b e : Expr} {f g : Mn.Env → Option D} {p pos p2 : Pos}
/-- reversed(range(..)) -/
noncomputable def iRevR1 (f : Mn.Env → Option D) : Mn.Env → Option (List D × Mn.Env) := fun ρ => match f ρ with
  | some (.int j) => if okRng j then some (rng (j - 1) (-1) j.toNat, ρ) else none
  | _ => none
theorem itOk_rngC' {K : PySem.W.Frag} {mg : Str → Option Value} {W : Hp} {lo lo' c : Int} {n : Nat} (h : 0 < n → lo = lo') : ItOk K mg (Itc lo c n) W (rng lo' c n) where
  go := fun i H s hi => by show i < n; simpa [rng] using hi
  stop := fun H s => by show n ≤ (rng lo' c n).length; simp [rng]
  yld := fun B W1 H xs cs i x H' d s r e y => by
    obtain ⟨rfl, rfl⟩ := y
    obtain ⟨hi, rfl⟩ := rng_get e
    rw [h (by omega)]
    exact ⟨W1, Gr.refl B W1, r.push0 rfl⟩
theorem i_revR1 (hg : Gl X "reversed") (hm : X.mg "reversed" = none) (hg2 : Gl X "range") (hm2 : X.mg "range" = none) (ha : PE X a (pS X f)) (na : starEach [a] X.env = (false, eval a X.env) :: starEach [] X.env := by rfl)
    (hs : starEach [.Call (.Name "range" p2) [a] [] pos] X.env = (false, eval (.Call (.Name "range" p2) [a] [] pos) X.env) :: starEach [] X.env := by rfl) {pos' : Pos} : PI X tg (.Call (.Name "reversed" p) [.Call (.Name "range" p2) [a] [] pos] [] pos') (gI X (iRevR1 f)) :=
  PIi (pi_revR hg hm (prg_1 hg2 hm2 ha na) hs) fun σ H Rj ⟨B, W, ts, tc, ρ, ds, ρ', r, hl, em, q⟩ => by
    unfold iRevR1 at em
    split at em
    · rename_i j ej
      split at em
      · rename_i hz
        cases em
        refine ⟨ρ, _, ⟨B, W, ts, tc, r, hl⟩, ej, fun v hv => ⟨j, hv, by omega, by omega, (okRng_of hz).1, (okRng_of hz).2, q W H _ (Gr.refl B W) r ?_⟩⟩
        rw [show (j - 0).toNat = j.toNat by rw [Int.sub_zero]]
        exact itOk_rngC' fun h => by omega
      · cases em
    · cases em
end
end Mn

namespace Mn
open PySem PySem.Spec PyProof.Rows L2
section
variable {X : Cx} {a b e : Expr} {m n : Mn.Env → Option (Cell × Mn.Env)} {pos : Pos}
theorem g_sub (ha : PE X a (gS X m)) (hb : PE X b (gS X n)) : PE X (.BinOp a .Sub b pos) (gS X (mBin dSub m n)) := g_op op_sub w_int20 ha hb
theorem g_mod (ha : PE X a (gS X m)) (hb : PE X b (gS X n)) : PE X (.BinOp a .Mod b pos) (gS X (mBin dMod m n)) := g_op op_mod (w_int2 fun i j h => of_decide_eq_true h) ha hb
theorem g_div (ha : PE X a (gS X m)) (hb : PE X b (gS X n)) : PE X (.BinOp a .FloorDiv b pos) (gS X (mBin dDiv m n)) := g_op op_fdivNW (w_int2 fun i j h => by
  unfold okDiv at h
  rw [Bool.and_eq_true] at h
  exact ⟨of_decide_eq_true h.1, of_decide_eq_true h.2⟩) ha hb
theorem g_pow (ha : PE X a (gS X m)) (hb : PE X b (gS X n)) : PE X (.BinOp a .Pow b pos) (gS X (mBin dPow m n)) := g_op op_powW (w_int2 fun i j h => h) ha hb
theorem g_shl (ha : PE X a (gS X m)) (hb : PE X b (gS X n)) : PE X (.BinOp a .LShift b pos) (gS X (mBin dShl m n)) := g_op op_shlW (w_int2 fun i j h => okShl_of h) ha hb
theorem g_shr (ha : PE X a (gS X m)) (hb : PE X b (gS X n)) : PE X (.BinOp a .RShift b pos) (gS X (mBin dShr m n)) := g_op op_shr (w_int2 fun i j h => of_decide_eq_true h) ha hb
end
/-! ### arguments that are looked at and stay their owner's -/
inductive Arg where
  | br (i : Nat) | gv (d : D)
def ArgsOk (K : PySem.W.Frag) (mg : Str → Option Value) (W : Hp) (σ : L2.St) : List Arg → List V → Prop
  | [], vs => vs = []
  | .br i :: r, vs => ∃ v vr, vs = v :: vr ∧ σ[i]? = some (some v) ∧ ArgsOk K mg W σ r vr
  | .gv d :: r, vs => ∃ v vr, vs = v :: vr ∧ Rep K mg W d v ∧ ArgsOk K mg W σ r vr
theorem ArgsOk.mono {K : PySem.W.Frag} {mg : Str → Option Value} {W W' : Hp} {σ : L2.St} (e : Same W W') : ∀ {as : List Arg} {vs : List V}, ArgsOk K mg W σ as vs → ArgsOk K mg W' σ as vs
  | [], _, h => h
  | .br _ :: _, _, ⟨v, vr, h1, h2, h3⟩ => ⟨v, vr, h1, h2, ArgsOk.mono e h3⟩
  | .gv _ :: _, _, ⟨v, vr, h1, h2, h3⟩ => ⟨v, vr, h1, Rep.mono e _ _ h2, ArgsOk.mono e h3⟩
def gB (X : Cx) (m : Mn.Env → Option (List Arg × Mn.Env)) : TA := fun σ H Q => ∃ (B W : Hp) (ts : List (Option V)) (tc : List (Option Cell)) (ρ : Mn.Env) (as : List Arg) (ρ' : Mn.Env), R X.K X.mg B W H (ts ++ σ) (tc ++ ρ) ∧ ts.length = tc.length ∧ m ρ = some (as, ρ') ∧
  ∀ W' H' vs, Gr B W W' → R X.K X.mg B W' H' (ts ++ σ) (tc ++ ρ') → ArgsOk X.K X.mg W' σ as vs → Q vs H'
def bNil : Mn.Env → Option (List Arg × Mn.Env) := fun ρ => some ([], ρ)
def bBr (i : Nat) (ms : Mn.Env → Option (List Arg × Mn.Env)) : Mn.Env → Option (List Arg × Mn.Env) := fun ρ => match ρ[i]? with
  | some (some _) => (match ms ρ with | some (as, ρ1) => some (.br i :: as, ρ1) | none => none)
  | _ => none
def bGv (m : Mn.Env → Option (Cell × Mn.Env)) (ms : Mn.Env → Option (List Arg × Mn.Env)) : Mn.Env → Option (List Arg × Mn.Env) := fun ρ => match m ρ with
  | some (c, ρ1) => (match ms ρ1 with | some (as, ρ2) => some (.gv c.2 :: as, ρ2) | none => none)
  | none => none
def argsD (ρ : Mn.Env) : List Arg → Option (List D)
  | [] => some []
  | .br i :: r => match ρ[i]? with
    | some (some c) => (match argsD ρ r with | some ds => some (c.2 :: ds) | none => none)
    | _ => none
  | .gv d :: r => match argsD ρ r with | some ds => some (d :: ds) | none => none
section
variable {X : Cx} {a b c e : Expr} {es : List Expr} {m n : Mn.Env → Option (Cell × Mn.Env)} {ms : Mn.Env → Option (List Arg × Mn.Env)} {pos p : Pos} {k : Nat}
theorem b_nil : PA X [] (gB X bNil) := PAi pa_nil fun σ H Q ⟨B, W, ts, tc, ρ, as, ρ', r, hl, e, q⟩ => by
  cases e
  exact q W H [] (Gr.refl B W) r rfl
theorem b_br {i : Nat} (h : PE X a (tVar i)) (hr : PA X es (gB X ms)) (hs : starEach (a :: es) X.env = (false, eval a X.env) :: starEach es X.env := by rfl) : PA X (a :: es) (gB X (bBr i ms)) :=
  PAi (pa_cons h hr hs) fun σ H Q ⟨B, W, ts, tc, ρ, as, ρ', r, hl, e, q⟩ => by
    unfold bBr at e
    split at e
    · rename_i c ec
      split at e
      · rename_i as' ρ1 er
        cases e
        obtain ⟨v, ev, hv⟩ := r.rep (i := tc.length + i) (c := c) (by rw [get_app]; exact ec)
        rw [← hl, get_app] at ev
        exact ⟨v, ev, B, W, ts, tc, ρ, as', ρ', r, hl, er, fun W1 H1 vs g1 r1 hv => q W1 H1 (v :: vs) g1 r1 ⟨v, vs, rfl, ev, hv⟩⟩
      · cases e
    · cases e
theorem b_gv (h : PE X a (gS X m)) (hr : PA X es (gB X ms)) (hs : starEach (a :: es) X.env = (false, eval a X.env) :: starEach es X.env := by rfl) : PA X (a :: es) (gB X (bGv m ms)) :=
  PAi (pa_cons h hr hs) fun σ H Q ⟨B, W, ts, tc, ρ, as, ρ', r, hl, e, q⟩ => by
    unfold bGv at e
    split at e
    · rename_i c ρ1 ec
      split at e
      · rename_i as' ρ2 er
        cases e
        refine ⟨B, W, ts, tc, ρ, c, ρ1, r, hl, ec, fun W1 H1 v g1 r1 => ?_⟩
        obtain ⟨W2, g2, r2, hu⟩ := R.pop r1
        exact ⟨B, W2, ts, tc, ρ1, as', ρ', r2, hl, er, fun W3 H3 vs g3 r3 hv => q W3 H3 (v :: vs) ((g1.trans g2).trans g3) r3 ⟨v, vs, rfl, Rep.mono g3.sm _ _ hu, hv⟩⟩
      · cases e
    · cases e
theorem argsD_rep {K : PySem.W.Frag} {mg : Str → Option Value} {B W H : Hp} {ts : List (Option V)} {tc : List (Option Cell)} {σ : L2.St} {ρ : Mn.Env} (r : R K mg B W H (ts ++ σ) (tc ++ ρ)) (hl : ts.length = tc.length) : ∀ {as : List Arg} {vs : List V} {ds : List D}, ArgsOk K mg W σ as vs → argsD ρ as = some ds → RepL K mg H ds vs
  | [], _, _, h, e => by cases e; exact h
  | .br i :: as, _, _, ⟨v, vr, h1, h2, h3⟩, e => by
    simp only [argsD] at e
    split at e
    · rename_i c ec
      split at e
      · rename_i ds ed
        cases e
        obtain ⟨v', ev, hv⟩ := r.rep (i := tc.length + i) (c := c) (by rw [get_app]; exact ec)
        rw [← hl, get_app, h2] at ev
        cases ev
        exact ⟨v, vr, h1, hv, argsD_rep r hl h3 ed⟩
      · cases e
    · cases e
  | .gv d :: as, _, _, ⟨v, vr, h1, h2, h3⟩, e => by
    simp only [argsD] at e
    split at e
    · rename_i ds ed
      cases e
      exact ⟨v, vr, h1, Rep.mono r.sw _ _ h2, argsD_rep r hl h3 ed⟩
    · cases e
/-- f(..) that only looks: what it hands back is a scalar -/
def mCallB (n : Nat) (F : Fp0) (ms : Mn.Env → Option (List Arg × Mn.Env)) : Mn.Env → Option (Cell × Mn.Env) := fun ρ => match ms ρ with
  | some (as, ρ1) => (match argsD ρ1 as with
    | some ds => if ds.length = n then (match F ds with
      | some c => if c.2.sc then some ((0, c.2), ρ1) else none
      | none => none) else none
    | none => none)
  | none => none
theorem g_callB' {F : Fp0} {x : Str} {nn : Nat} (hF : FnAt X.prog X.w X.K X.mg X.base k x nn (sp0 X.K X.mg nn F)) (hr : Room k X.A) (hgd : X.A.guards = some []) (hg : Gl X x)
    (ha : PA X (e :: es) (gB X ms)) (hdb : (x == ("__debug__" : Str)) = false := by decide) (he : starEach (e :: es) X.env = (false, eval e X.env) :: starEach es X.env := by rfl) (hpl : (backTo pos (starEach es X.env)).any (·.1) = false := by rfl) :
    PE X (.Call (.Name x p) (e :: es) [] pos) (gS X (mCallB nn F ms)) := PEi (pe_callG hF hr hgd hg ha hdb he hpl) fun σ H Q ⟨B, W, ts, tc, ρ, cl, ρ', r, hl, em, q⟩ => by
  unfold mCallB at em
  split at em
  · rename_i as ρ1 ex
    split at em
    · rename_i ds ed
      split at em
      · rename_i hn
        split at em
        · rename_i c ef
          split at em
          · rename_i hs
            cases em
            refine ⟨B, W, ts, tc, ρ, as, _, r, hl, ex, fun W1 H1 vs g1 r1 ok => ?_⟩
            refine ⟨H1, H1, ds, c, ⟨Same.refl _, Same.refl _, fun _ => 0, fun _ => rfl, fun b => ⟨Nat.zero_le _, fun hb => (hb rfl).elim⟩⟩, argsD_rep r1 hl ok ed, hn, ef, fun W2 H2 v g2 r2 => ?_⟩
            have sm : Same H1 H2 := r2.sb
            obtain ⟨T, hc, hT⟩ := r1.ex
            have r3 : R X.K X.mg B W1 H2 (ts ++ σ) (tc ++ ρ') := ⟨r1.sw.trans sm, r1.sb.trans sm, T, hc.mono (Same.refl W1) (fun a ha => by
              cases z : H1 a with
              | none => exact absurd z (hc.there a ha)
              | some o => exact sm a o z), hT⟩
            obtain ⟨v', ev, hv⟩ := r2.rep (i := 0) (c := c) rfl
            have e2 : some (some v) = some (some v') := ev
            cases e2
            exact q W1 H2 v g1 (r3.pushS hs hv)
          · cases em
        · cases em
      · cases em
    · cases em
  · cases em
/-- the left side a name, looked at; the right side does things -/
def mBinL (o : D → D → Option D) (i : Nat) (n : Mn.Env → Option (Cell × Mn.Env)) : Mn.Env → Option (Cell × Mn.Env) := fun ρ => match ρ[i]?, n ρ with
  | some (some _), some (c', ρ1) => (match ρ1[i]? with
    | some (some c) => (match o c.2 c'.2 with
      | some d => if d.sc then some ((0, d), ρ1) else none
      | none => none)
    | _ => none)
  | _, _ => none
theorem mBinL_imp {o : D → D → Option D} {r : R2} {i : Nat} (w : Op2 X o r) {σ : L2.St} {H : Hp} {Q : VK} (h : gS X (mBinL o i n) σ H Q) : tOp r (tVar i) (gS X n) σ H Q := by
  obtain ⟨B, W, ts, tc, ρ, cl, ρ', r, hl, e, q⟩ := h
  unfold mBinL at e
  split at e
  · rename_i c0 c' ρ1 ec en
    split at e
    · rename_i c e1
      split at e
      · rename_i d ed
        split at e
        · rename_i hs
          cases e
          obtain ⟨v, ev, _⟩ := r.rep (i := tc.length + i) (c := c0) (by rw [get_app]; exact ec)
          rw [← hl, get_app] at ev
          refine ⟨v, ev, B, W, ts, tc, ρ, c', ρ', r, hl, en, fun W1 H1 u g1 r1 => ?_⟩
          obtain ⟨W2, g2, r2, hu⟩ := R.pop r1
          obtain ⟨v', ev', hv⟩ := r2.rep (i := tc.length + i) (c := c) (by rw [get_app]; exact e1)
          rw [← hl, get_app, ev] at ev'
          cases ev'
          exact w H1 c.2 c'.2 d v u Q ed hv (Rep.mono r2.sw _ _ hu) fun z hz => q W2 H1 z (g1.trans g2) (r2.pushS hs hz)
        · cases e
      · cases e
    · cases e
  · cases e
theorem g_cmpL {op : CmpOp} {o : D → D → Option D} {r : R2} {i : Nat} (ho : OpR X (compareOp op) r) (w : Op2 X o r) (ha : PE X a (tVar i)) (hb : PE X b (gS X n)) (hm : behindInMarks op b = false) : PE X (.Compare a [op] [b] pos) (gS X (mBinL o i n)) :=
  PEi (pe_cmpR ho ha hb hm) fun σ H Q h => mBinL_imp w h
theorem gt_cmpL {op : CmpOp} {o : D → D → Option D} {r : R2} {i : Nat} (ho : OpR X (compareOp op) r) (w : Op2 X o r) (ha : PE X a (tVar i)) (hb : PE X b (gS X n)) (hm : behindInMarks op b = false) : PT X (.Compare a [op] [b] pos) (gT X (mtV (mBinL o i n))) :=
  PTi (pt_cmpR ho ha hb hm) fun σ H Q ⟨B, W, ts, tc, ρ, cl, ρ', r, hl, em, q⟩ => by
    obtain ⟨k, e⟩ := mtV_some em
    refine mBinL_imp w ⟨B, W, ts, tc, ρ, _, ρ', r, hl, e, fun W1 H1 v g1 r1 => ?_⟩
    obtain ⟨W2, g2, r2, hu⟩ := R.pop r1
    exact ⟨cl, hu, q W2 H1 (g1.trans g2) r2⟩
end
end Mn
namespace Mn
open PySem PySem.Spec PyProof.Rows L2
/-- a promise of nothing -/
theorem FnG.zero {P : Program} {w : World} {K : PySem.W.Frag} {mg : Str → Option Value} {base : Heap} {k n : Nat} {f : Addr} {fd : FuncData} {ps : List Str} : FnG P w K mg base k f fd ps (sp0 K mg n fun _ => none) where
  len := fun vs H Q h => by
    obtain ⟨B, W, ds, c, r, h, hl, e, q⟩ := h
    cases e
  run := fun A outer s H args us vs Q hr hg e0 hb r h => by
    obtain ⟨B, W, ds, c, r, h, hl, e, q⟩ := h
    cases e
theorem cst_int {K : PySem.W.Frag} {h : Heap} {mg : Str → Option Value} {x : Str} {i : Int} {t : Tok} (X : K.In h) (G : h.Ns mainGlobals mg) (a : PySem.W.nsIn K mainGlobals x = some (some (.int i t))) : ∃ t, mg x = some (.int i t) := ⟨t, PySem.W.mg_of X G a⟩
theorem cst_str {K : PySem.W.Frag} {h : Heap} {mg : Str → Option Value} {x : Str} {i : Str} {t : Tok} (X : K.In h) (G : h.Ns mainGlobals mg) (a : PySem.W.nsIn K mainGlobals x = some (some (.str i t))) : ∃ t, mg x = some (.str i t) := ⟨t, PySem.W.mg_of X G a⟩
end Mn

namespace Mn
open PySem PySem.Spec PyProof.Rows L2
section
variable {f g h : Mn.Env → Option D} {fs : Mn.Env → Option (List D)} {p t u : Mn.Env → Option Bool} {m n o : Mn.Env → Option (Cell × Mn.Env)} {ms : Mn.Env → Option (List D × Mn.Env)} {tm tn : Mn.Env → Option (Bool × Mn.Env)} {x y : Mn.Env → Option Out} {ρ : Mn.Env} {i j k l : Nat} {o2 : D → D → Option D} {o1 : D → Option D} {oc : D → D → Option Cell} {ol : List D → Option Cell}
@[simp] theorem e_pVar : pVar i ρ = (match ρ[i]? with | some (some c) => some c.2 | _ => none) := rfl
@[simp] theorem e_pC {d : D} : pC d ρ = some d := rfl
@[simp] theorem e_pBin : pBin o2 f g ρ = (f ρ).bind fun x => (g ρ).bind fun y => o2 x y := rfl
@[simp] theorem e_pUn : pUn o1 f ρ = (f ρ).bind o1 := rfl
@[simp] theorem e_pAnd : pAnd f g ρ = (match f ρ with | some (.bl true) => g ρ | some (.bl false) => some (.bl false) | _ => none) := rfl
@[simp] theorem e_pOr : pOr f g ρ = (match f ρ with | some (.bl false) => g ρ | some (.bl true) => some (.bl true) | _ => none) := rfl
@[simp] theorem e_pIf : pIf p f g ρ = (match p ρ with | some true => f ρ | some false => g ρ | none => none) := rfl
@[simp] theorem e_pB : pB f ρ = (match f ρ with | some (.bl b) => some b | _ => none) := rfl
@[simp] theorem e_pTr : pTr f ρ = (f ρ).bind dTruth := rfl
@[simp] theorem e_ptAnd : ptAnd t u ρ = (match t ρ with | some true => u ρ | some false => some false | none => none) := rfl
@[simp] theorem e_ptOr : ptOr t u ρ = (match t ρ with | some false => u ρ | some true => some true | none => none) := rfl
@[simp] theorem e_ptNot : ptNot t ρ = (match t ρ with | some b => some (!b) | none => none) := rfl
@[simp] theorem e_pChain {o3 : D → D → Option D} : pChain o2 o3 f g h ρ = (match f ρ, g ρ with
  | some x, some y => (match o2 x y with
    | some (.bl true) => (h ρ).bind fun z => o3 y z
    | some (.bl false) => some (.bl false)
    | _ => none)
  | _, _ => none) := rfl
@[simp] theorem e_pCall {oo : List D → Option D} : pCall oo fs ρ = (fs ρ).bind oo := rfl
@[simp] theorem e_pNil : pNil ρ = some [] := rfl
@[simp] theorem e_pCons : pCons f fs ρ = (f ρ).bind fun x => (fs ρ).bind fun xs => some (x :: xs) := rfl
@[simp] theorem e_mP : mP f ρ = (match f ρ with | some d => if d.sc then some ((0, d), ρ) else none | none => none) := rfl
@[simp] theorem e_oVar : oVar i ρ = (match ρ[i]? with | some (some c) => some c | _ => none) := rfl
@[simp] theorem e_oK {d : D} : oK d ρ = some (0, d) := rfl
@[simp] theorem e_oIx {fc : Mn.Env → Option Cell} : oIx fc g ρ = (match fc ρ, g ρ with | some c, some (.int i) => itC c i | _, _ => none) := rfl
@[simp] theorem e_mO {fc : Mn.Env → Option Cell} : mO fc ρ = (match fc ρ with | some (k, d) => if k == 0 || d.sc then some ((0, d), ρ) else none | none => none) := rfl
@[simp] theorem e_mSh : mSh i ρ = (match ρ[i]? with | some (some c) => some ((0, c.2), ρ.set i (some (0, c.2))) | _ => none) := rfl
@[simp] theorem e_mMv : mMv i ρ = (match ρ[i]? with | some (some c) => some (c, ρ.set i none) | _ => none) := rfl
@[simp] theorem e_mNil : mNil ρ = some ([], ρ) := rfl
@[simp] theorem e_mCons : mCons k m ms ρ = (match m ρ with
  | some (c, ρ1) => if fit k c then (match ms ρ1 with | some (ds, ρ2) => some (c.2 :: ds, ρ2) | none => none) else none
  | none => none) := rfl
@[simp] theorem e_mLst : mLst k ms ρ = (match ms ρ with | some (ds, ρ') => if ds.length ≤ sizeLine then some ((k + 1, .lst ds), ρ') else none | none => none) := by unfold mLst; rfl
@[simp] theorem e_mTup : mTup k ms ρ = (match ms ρ with | some (ds, ρ') => if ds.length ≤ sizeLine then some ((k + 1, .tup ds), ρ') else none | none => none) := by unfold mTup; rfl
@[simp] theorem e_mBin : mBin o2 m n ρ = (match m ρ with
  | some (c, ρ1) => (match n ρ1 with
    | some (c', ρ2) => (match o2 c.2 c'.2 with | some d => if d.sc then some ((0, d), ρ2) else none | none => none)
    | none => none)
  | none => none) := rfl
@[simp] theorem e_mUn : mUn o1 m ρ = (match m ρ with | some (c, ρ1) => (match o1 c.2 with | some d => if d.sc then some ((0, d), ρ1) else none | none => none) | none => none) := rfl
@[simp] theorem e_mIx : mIx m n ρ = (match m ρ with
  | some (c, ρ1) => (match n ρ1 with
    | some (c', ρ2) => (match dIxL c.2 c'.2 with | some d => some ((0, d), ρ2) | none => none)
    | none => none)
  | none => none) := rfl
@[simp] theorem e_mIf : mIf tm m n ρ = (match tm ρ with | some (true, ρ1) => m ρ1 | some (false, ρ1) => n ρ1 | none => none) := rfl
@[simp] theorem e_mAnd : mAnd m n ρ = (match m ρ with | some ((_, .bl true), ρ1) => n ρ1 | some ((_, .bl false), ρ1) => some ((0, .bl false), ρ1) | _ => none) := rfl
@[simp] theorem e_mOr : mOr m n ρ = (match m ρ with | some ((_, .bl false), ρ1) => n ρ1 | some ((_, .bl true), ρ1) => some ((0, .bl true), ρ1) | _ => none) := rfl
@[simp] theorem e_mtP : mtP p ρ = (match p ρ with | some b => some (b, ρ) | none => none) := rfl
@[simp] theorem e_mtV : mtV m ρ = (match m ρ with | some ((_, .bl b), ρ1) => some (b, ρ1) | _ => none) := rfl
@[simp] theorem e_mtTr : mtTr m ρ = (match m ρ with | some (c, ρ1) => (match dTruth c.2 with | some b => some (b, ρ1) | none => none) | none => none) := rfl
@[simp] theorem e_mtAnd : mtAnd tm tn ρ = (match tm ρ with | some (true, ρ1) => tn ρ1 | some (false, ρ1) => some (false, ρ1) | none => none) := rfl
@[simp] theorem e_mtOr : mtOr tm tn ρ = (match tm ρ with | some (false, ρ1) => tn ρ1 | some (true, ρ1) => some (true, ρ1) | none => none) := rfl
@[simp] theorem e_mtNot : mtNot tm ρ = (match tm ρ with | some (b, ρ1) => some (!b, ρ1) | none => none) := rfl
@[simp] theorem e_tYesM : tYesM ρ = some (true, ρ) := rfl
@[simp] theorem e_mCall {F : Fp0} : mCall k F ms ρ = (match ms ρ with | some (ds, ρ1) => if ds.length = k then (match F ds with | some c => some (c, ρ1) | none => none) else none | none => none) := rfl
@[simp] theorem e_mCallI {F : Fp1} : mCallI k F i ms ρ = (match ρ[i]? with
  | some (some _) => (match ms ρ with
    | some (ds, ρ1) => if ds.length + 1 = k then (match ρ1[i]? with
      | some (some c0) => (match F c0 ds with | some (c, c1) => some (c, ρ1.set i (some c1)) | none => none)
      | _ => none) else none
    | none => none)
  | _ => none) := rfl
@[simp] theorem e_mCallT {F : Fp1} : mCallT k F m ms ρ = (match m ρ with
  | some (c0, ρ0) => (match ms ρ0 with
    | some (ds, ρ1) => if ds.length + 1 = k then (match F c0 ds with | some (c, _) => some (c, ρ1) | none => none) else none
    | none => none)
  | none => none) := rfl
@[simp] theorem e_mCallKw {F : Fp0} {q : List Nat} : mCallKw k j F q ms ρ = (match ms ρ with
  | some (ds, ρ1) => if (permL q ds).length = k then (match F (permL q ds) with | some c => some (c, ρ1) | none => none) else none
  | none => none) := rfl
@[simp] theorem e_bNil : bNil ρ = some ([], ρ) := rfl
@[simp] theorem e_bBr {bs : Mn.Env → Option (List Arg × Mn.Env)} : bBr i bs ρ = (match ρ[i]? with | some (some _) => (match bs ρ with | some (as, ρ1) => some (.br i :: as, ρ1) | none => none) | _ => none) := rfl
@[simp] theorem e_bGv {bs : Mn.Env → Option (List Arg × Mn.Env)} : bGv m bs ρ = (match m ρ with | some (c, ρ1) => (match bs ρ1 with | some (as, ρ2) => some (.gv c.2 :: as, ρ2) | none => none) | none => none) := rfl
@[simp] theorem e_mCallB {F : Fp0} {bs : Mn.Env → Option (List Arg × Mn.Env)} : mCallB k F bs ρ = (match bs ρ with
  | some (as, ρ1) => (match argsD ρ1 as with
    | some ds => if ds.length = k then (match F ds with | some c => if c.2.sc then some ((0, c.2), ρ1) else none | none => none) else none
    | none => none)
  | none => none) := rfl
@[simp] theorem e_mBinL : mBinL o2 i n ρ = (match ρ[i]?, n ρ with
  | some (some _), some (c', ρ1) => (match ρ1[i]? with
    | some (some c) => (match o2 c.2 c'.2 with | some d => if d.sc then some ((0, d), ρ1) else none | none => none)
    | _ => none)
  | _, _ => none) := rfl
@[simp] theorem e_mBinF : mBinF oc m n ρ = (match m ρ with
  | some (c, ρ1) => (match n ρ1 with
    | some (c', ρ2) => (match oc c.2 c'.2 with | some d => some (d, ρ2) | none => none)
    | none => none)
  | none => none) := rfl
@[simp] theorem e_mCallF : mCallF ol ms ρ = (match ms ρ with | some (ds, ρ1) => (match ol ds with | some d => some (d, ρ1) | none => none) | none => none) := rfl
@[simp] theorem e_mFz : mFz m ρ = (match m ρ with | some (c, ρ1) => some ((0, c.2), ρ1) | none => none) := rfl
@[simp] theorem e_mSl {lo hi : GPart} : mSl m lo hi ρ = (match m ρ with
  | some (c, ρ1) => (match gVal lo ρ1 with
    | some (i, ρ2) => (match gVal hi ρ2 with
      | some (j, ρ3) => (match dCut c.2 i j with | some d => some (d, ρ3) | none => none)
      | none => none)
    | none => none)
  | none => none) := rfl
@[simp] theorem e_gVal0 : gVal none ρ = some (none, ρ) := rfl
@[simp] theorem e_gVal1 : gVal (some m) ρ = (match m ρ with | some ((_, .int i), ρ1) => some (some i, ρ1) | _ => none) := rfl
@[simp] theorem e_sNx : sNx ρ = some (.nx ρ) := rfl
@[simp] theorem e_sSeq : sSeq x y ρ = (match x ρ with | some (.nx ρ1) => y ρ1 | o => o) := rfl
@[simp] theorem e_sIf : sIf tm x y ρ = (match tm ρ with | some (true, ρ1) => x ρ1 | some (false, ρ1) => y ρ1 | none => none) := rfl
@[simp] theorem e_sRet : sRet m ρ = (match m ρ with | some (c, ρ1) => some (.rt c ρ1) | none => none) := rfl
@[simp] theorem e_sRetN : sRetN ρ = some (.rt (0, .non) ρ) := rfl
@[simp] theorem e_sExp : sExp m ρ = (match m ρ with | some (_, ρ1) => some (.nx ρ1) | none => none) := rfl
@[simp] theorem e_sAsg : sAsg i m ρ = (match m ρ with | some (c, ρ1) => some (.nx (ρ1.set i (some c))) | none => none) := rfl
@[simp] theorem e_sPar2 : sPar2 i j m n ρ = (match m ρ with
  | some (c, ρ1) => (match n ρ1 with | some (c', ρ2) => some (.nx ((ρ2.set i (some c)).set j (some c'))) | none => none)
  | none => none) := rfl
@[simp] theorem e_sPar3 : sPar3 i j l m n o ρ = (match m ρ with
  | some (c, ρ1) => (match n ρ1 with
    | some (c', ρ2) => (match o ρ2 with | some (c'', ρ3) => some (.nx (((ρ3.set i (some c)).set j (some c')).set l (some c''))) | none => none)
    | none => none)
  | none => none) := rfl
@[simp] theorem e_sAsgT {ff : Cell → Mn.Env → Option Mn.Env} : sAsgT m ff ρ = (match m ρ with | some (c, ρ1) => (match ff c ρ1 with | some ρ2 => some (.nx ρ2) | none => none) | none => none) := rfl
@[simp] theorem e_sSet {fp : Mn.Env → Option (List Nat)} : sSet i fp g m ρ = (match m ρ with
  | some (c, ρ1) => (match plAt i fp ρ1, g ρ1 with
    | some (js, c0, .lst l), some (.int k) => (match ixN l.length k with
      | some j => if fit (c0.1 - 1 - js.length) c then some (.nx (ρ1.set i (some (c0.1, D.put c0.2 js (.lst (l.set j c.2)))))) else none
      | none => none)
    | _, _ => none)
  | none => none) := by unfold sSet; rfl
@[simp] theorem e_plNil : plNil ρ = some [] := rfl
@[simp] theorem e_sFor {it : Mn.Env → Option (List D × Mn.Env)} {tg : D → Mn.Env → Option Mn.Env} : sFor it tg x ρ = (match it ρ with | some (ds, ρ1) => mLoop tg x ds ρ1 | none => none) := rfl
@[simp] theorem e_iSeq : iSeq m ρ = (match m ρ with | some ((_, .lst l), ρ1) => some (l, ρ1) | some ((_, .tup l), ρ1) => some (l, ρ1) | _ => none) := rfl
@[simp] theorem e_iEnumM : iEnumM ms ρ = (match ms ρ with | some ([.lst l], ρ1) => some (enumD 0 l, ρ1) | _ => none) := rfl
@[simp] theorem e_iZipM : iZipM ms ρ = (match ms ρ with | some ([.lst l, .lst m], ρ1) => some (zipD l m, ρ1) | _ => none) := rfl
@[simp] theorem e_iZipSM : iZipSM ms ρ = (match ms ρ with | some ([.lst l, .lst m], ρ1) => if l.length = m.length then some (zipD l m, ρ1) else none | _ => none) := rfl
@[simp] theorem e_iRevM : iRevM ms ρ = (match ms ρ with | some ([.lst l], ρ1) => some (l.reverse, ρ1) | _ => none) := rfl
@[simp] theorem e_iRevR1 : iRevR1 f ρ = (match f ρ with | some (.int j) => if okRng j then some (rng (j - 1) (-1) j.toNat, ρ) else none | _ => none) := by unfold iRevR1; rfl
@[simp] theorem e_tName {d : D} : tName i d ρ = some (ρ.set i (some (0, d))) := rfl
@[simp] theorem e_tsNil : tsNil [] ρ = some ρ := rfl
@[simp] theorem e_tsCons {ff : D → Mn.Env → Option Mn.Env} {fss : List D → Mn.Env → Option Mn.Env} {d : D} {r : List D} : tsCons ff fss (d :: r) ρ = (match ff d ρ with | some ρ1 => fss r ρ1 | none => none) := rfl
@[simp] theorem e_tTupT {fss : List D → Mn.Env → Option Mn.Env} {r : List D} : tTupT k fss (.tup r) ρ = (if r.length = k then fss r ρ else none) := rfl
@[simp] theorem e_cName {c : Cell} : cName i c ρ = some (ρ.set i (some c)) := rfl
@[simp] theorem e_cName0 {c : Cell} : cName0 i c ρ = some (ρ.set i (some (0, c.2))) := rfl
@[simp] theorem e_csNil : csNil [] ρ = some ρ := rfl
@[simp] theorem e_csCons {ff : Cell → Mn.Env → Option Mn.Env} {fss : List Cell → Mn.Env → Option Mn.Env} {d : Cell} {r : List Cell} : csCons ff fss (d :: r) ρ = (match ff d ρ with | some ρ1 => fss r ρ1 | none => none) := rfl
@[simp] theorem e_cTup {fss : List Cell → Mn.Env → Option Mn.Env} {q : Nat} {r : List D} : cTup k fss (q, .tup r) ρ = (if r.length = k then fss (r.map fun d => (q - 1, d)) ρ else none) := rfl
@[simp] theorem e_wipe0 : wipeE ρ [] = ρ := rfl
@[simp] theorem e_wipe1 {vs : List Nat} : wipeE ρ (i :: vs) = (wipeE ρ vs).set i none := rfl
end
@[simp] theorem e_run0 {N : Nat} {m : Mn.Env → Option Out} {ds : List D} : run0 N m ds = (match m (env0 N ds) with | some (.rt c _) => some c | some (.nx _) => some (0, .non) | _ => none) := rfl
@[simp] theorem e_run1 {N : Nat} {m : Mn.Env → Option Out} {c : Cell} {ds : List D} : run1 N m c ds = (match m (env1 N c ds) with
  | some (.rt c1 ρ) => (match ρ[0]? with | some (some c0) => some (c1, c0) | _ => none)
  | some (.nx ρ) => (match ρ[0]? with | some (some c0) => some ((0, .non), c0) | _ => none)
  | _ => none) := rfl
@[simp] theorem e_env0 {N : Nat} {ds : List D} : env0 N ds = (ds.map fun d => some (0, d)) ++ List.replicate (N - ds.length) none := rfl
@[simp] theorem e_env1 {N : Nat} {c : Cell} {ds : List D} : env1 N c ds = some c :: ((ds.map fun d => some (0, d)) ++ List.replicate (N - (ds.length + 1)) none) := rfl
@[simp] theorem e_fit {k : Nat} {c : Cell} : fit k c = (decide (k ≤ c.1) || c.2.sc) := rfl
@[simp] theorem e_sc1 {i : Int} : (D.int i).sc = true := rfl
@[simp] theorem e_sc2 {i : Bool} : (D.bl i).sc = true := rfl
@[simp] theorem e_sc3 {i : Str} : (D.str i).sc = true := rfl
@[simp] theorem e_sc4 : D.non.sc = true := rfl
@[simp] theorem e_sc5 {l : List D} : (D.lst l).sc = false := rfl
@[simp] theorem e_sc6 {l : List D} : (D.tup l).sc = false := rfl
@[simp] theorem e_truB {b : Bool} : dTruth (.bl b) = some b := rfl
@[simp] theorem e_isi {T : String} {d : D} : dIsi T d = (match tyNm d with | some n => some (.bl (isTy n T)) | none => none) := rfl
@[simp] theorem e_ty1 {i : Int} : tyNm (.int i) = some "int" := rfl
@[simp] theorem e_ty2 {i : Bool} : tyNm (.bl i) = some "bool" := rfl
@[simp] theorem e_ty3 {i : Str} : tyNm (.str i) = some "str" := rfl
@[simp] theorem e_ty4 : tyNm .non = some "NoneType" := rfl
@[simp] theorem e_ty5 {l : List D} : tyNm (.lst l) = some "list" := rfl
@[simp] theorem e_ty6 {l : List D} : tyNm (.tup l) = some "tuple" := rfl
@[simp] theorem e_int2 {C : Int → Int → Bool} {g : Int → Int → Int} {i j : Int} : dInt2 C g (.int i) (.int j) = if C i j then some (.int (g i j)) else none := by unfold dInt2; rfl
@[simp] theorem e_cmp2 {g : Int → Int → Bool} {i j : Int} : dCmp2 g (.int i) (.int j) = some (.bl (g i j)) := rfl
@[simp] theorem e_int1 {g : Int → Int} {i : Int} : dInt1 g (.int i) = some (.int (g i)) := rfl
@[simp] theorem e_not {b : Bool} : dNot (.bl b) = some (.bl (!b)) := rfl
@[simp] theorem e_ofN {o : List D → Option D} {ds : List D} : ofN o ds = (match o ds with | some d => if d.sc then some (0, d) else none | none => none) := rfl
@[simp] theorem e_len1 {l : List D} : dLen [.lst l] = some (.int l.length) := rfl
@[simp] theorem e_len2 {l : List D} : dLen [.tup l] = some (.int l.length) := rfl
@[simp] theorem e_dint1 {i : Int} : dInt [.int i] = some (.int i) := rfl
@[simp] theorem e_dint2 {b : Bool} : dInt [.bl b] = some (.int (if b then 1 else 0)) := rfl
@[simp] theorem e_bits {i : Int} : dBits (.int i) = some (.int (Builtin.Int.intBits i : Nat)) := rfl
@[simp] theorem e_max2 {i j : Int} : dMaxL [.int i, .int j] = some (.int (if j > i then j else i)) := rfl
@[simp] theorem e_min2 {i j : Int} : dMinL [.int i, .int j] = some (.int (if j < i then j else i)) := rfl
@[simp] theorem e_isN1 : dIsG .non .non = some (.bl true) := rfl
@[simp] theorem e_isN2 {i : Int} : dIsG (.int i) .non = some (.bl false) := rfl
@[simp] theorem e_isN3 {l : List D} : dIsG (.lst l) .non = some (.bl false) := rfl
@[simp] theorem e_isN4 {a b : Bool} : dIsG (.bl a) (.bl b) = some (.bl (decide (a = b))) := rfl
@[simp] theorem e_isN5 {l : List D} : dIsG (.tup l) .non = some (.bl false) := rfl
@[simp] theorem e_notN1 : dNotG .non .non = some (.bl false) := rfl
@[simp] theorem e_notN2 {i : Int} : dNotG (.int i) .non = some (.bl true) := rfl
@[simp] theorem e_notN3 {l : List D} : dNotG (.lst l) .non = some (.bl true) := rfl
@[simp] theorem e_notN4 {a b : Bool} : dNotG (.bl a) (.bl b) = some (.bl (!decide (a = b))) := rfl
@[simp] theorem e_notN5 {l : List D} : dNotG (.tup l) .non = some (.bl true) := rfl
@[simp] theorem e_ixL {l : List D} {i : Int} : dIx (.lst l) (.int i) = atI l i := rfl
@[simp] theorem e_ixT {l : List D} {i : Int} : dIx (.tup l) (.int i) = atI l i := rfl
@[simp] theorem e_listOf1 {l : List D} : dListOf [.lst l] = some (1, .lst l) := rfl
@[simp] theorem e_listOf2 {l : List D} : dListOf [.tup l] = some (1, .lst l) := rfl
@[simp] theorem e_addI {i j : Int} : dAddG (.int i) (.int j) = some (0, .int (i + j)) := rfl
@[simp] theorem e_addL {l m : List D} : dAddG (.lst l) (.lst m) = if l.length + m.length ≤ sizeLine then some (1, .lst (l ++ m)) else none := by unfold dAddG; rfl
@[simp] theorem e_mulI {i j : Int} : dMulG (.int i) (.int j) = if okMul i j then some (0, .int (i * j)) else none := by unfold dMulG; rfl
@[simp] theorem e_mulL {l : List D} {k : Int} : dMulG (.lst l) (.int k) = if okIx k && decide (l.length * k.toNat ≤ sizeLine) then some (1, .lst (List.replicate k.toNat l).flatten) else none := by unfold dMulG; rfl
@[simp] theorem e_cutL {l : List D} {lo hi : Option Int} : dCut (.lst l) lo hi = some (1, .lst (cutD l lo hi)) := rfl
@[simp] theorem e_cutT {l : List D} {lo hi : Option Int} : dCut (.tup l) lo hi = some (0, .tup (cutD l lo hi)) := rfl
@[simp] theorem e_itC1 {k : Nat} {l : List D} {i : Int} : itC (k, .lst l) i = (match atI l i with | some d => some (k - 1, d) | none => none) := rfl
@[simp] theorem e_itC2 {k : Nat} {l : List D} {i : Int} : itC (k, .tup l) i = (match atI l i with | some d => some (k - 1, d) | none => none) := rfl
@[simp] theorem e_ixLL {l : List D} {i : Int} : dIxL (.lst l) (.int i) = atI l i := rfl
@[simp] theorem e_ixLT {l : List D} {i : Int} : dIxL (.tup l) (.int i) = atI l i := rfl
theorem e_rg1 {ms : Mn.Env → Option (List D × Mn.Env)} {ρ ρ1 : Mn.Env} {j : Int} (h : ms ρ = some ([.int j], ρ1)) : iRange ms ρ = if okRng j then some (rng 0 1 j.toNat, ρ1) else none := by unfold iRange; rw [h]
theorem e_rg2 {ms : Mn.Env → Option (List D × Mn.Env)} {ρ ρ1 : Mn.Env} {i j : Int} (h : ms ρ = some ([.int i, .int j], ρ1)) : iRange ms ρ = if okRng i && okRng j then some (rng i 1 (j - i).toNat, ρ1) else none := by unfold iRange; rw [h]
/-! ### one statement after the other -/
theorem seq_nx {A B : Mn.Env → Option Out} {ρ ρ1 : Mn.Env} (e : A ρ = some (.nx ρ1)) : sSeq A B ρ = B ρ1 := by unfold sSeq; rw [e]
theorem seq_rt {A B : Mn.Env → Option Out} {ρ ρ1 : Mn.Env} {c : Cell} (e : A ρ = some (.rt c ρ1)) : sSeq A B ρ = some (.rt c ρ1) := by unfold sSeq; rw [e]
theorem for_nx {it : Mn.Env → Option (List D × Mn.Env)} {tg : D → Mn.Env → Option Mn.Env} {B : Mn.Env → Option Out} {ρ ρ1 : Mn.Env} {ds : List D} {o : Option Out} (e : it ρ = some (ds, ρ1)) (h : mLoop tg B ds ρ1 = o) : sFor it tg B ρ = o := by unfold sFor; rw [e]; exact h
theorem run0_rt {N : Nat} {m : Mn.Env → Option Out} {ds : List D} {c : Cell} {ρ ρ' : Mn.Env} (h : env0 N ds = ρ) (e : m ρ = some (.rt c ρ')) : run0 N m ds = some c := by unfold run0; rw [h, e]
theorem run0_nx {N : Nat} {m : Mn.Env → Option Out} {ds : List D} {ρ ρ' : Mn.Env} (h : env0 N ds = ρ) (e : m ρ = some (.nx ρ')) : run0 N m ds = some (0, .non) := by unfold run0; rw [h, e]
theorem run1_rt {N : Nat} {m : Mn.Env → Option Out} {ds : List D} {c0 c c1 : Cell} {ρ ρ' : Mn.Env} (h : env1 N c0 ds = ρ) (e : m ρ = some (.rt c ρ')) (e2 : ρ'[0]? = some (some c1)) : run1 N m c0 ds = some (c, c1) := by unfold run1; rw [h, e]; simp only; rw [e2]
/-! ### loops -/
theorem mLoop_inv {tg : D → Mn.Env → Option Mn.Env} {body : Mn.Env → Option Out} (Inv : Nat → Mn.Env → Prop) : ∀ (ds : List D) (k : Nat) (ρ : Mn.Env), Inv k ρ →
    (∀ (i : Nat) (d : D) (ρ : Mn.Env), ds[i]? = some d → Inv (k + i) ρ → ∃ ρ1 ρ2, tg d ρ = some ρ1 ∧ body ρ1 = some (.nx ρ2) ∧ Inv (k + i + 1) ρ2) → ∃ ρ', mLoop tg body ds ρ = some (.nx ρ') ∧ Inv (k + ds.length) ρ'
  | [], k, ρ, h, _ => ⟨ρ, rfl, h⟩
  | d :: ds, k, ρ, h, st => by
    obtain ⟨ρ1, ρ2, e1, e2, h2⟩ := st 0 d ρ rfl h
    obtain ⟨ρ', e3, h3⟩ := mLoop_inv Inv ds (k + 1) ρ2 h2 fun i d' ρ hd hi => by
      have := st (i + 1) d' ρ (by simpa using hd) (by rw [show k + (i + 1) = k + 1 + i by omega]; exact hi)
      rw [show k + (i + 1) + 1 = k + 1 + i + 1 by omega] at this
      exact this
    refine ⟨ρ', ?_, by rw [List.length_cons, show k + (ds.length + 1) = k + 1 + ds.length by omega]; exact h3⟩
    simp only [mLoop, e1, e2]
    exact e3
theorem mCompL_inv {kc : Nat} {tg : D → Mn.Env → Option Mn.Env} {t : Mn.Env → Option (Bool × Mn.Env)} {x : Mn.Env → Option (Cell × Mn.Env)} {own : List Nat} (Inv : Nat → Mn.Env → List D → Prop) : ∀ (ds : List D) (k : Nat) (ρ : Mn.Env) (acc : List D), Inv k ρ acc →
    (∀ (i : Nat) (d : D) (ρ : Mn.Env) (acc : List D), ds[i]? = some d → Inv (k + i) ρ acc → ∃ ρ1 b ρ2, tg d ρ = some ρ1 ∧ t ρ1 = some (b, ρ2) ∧ (b = false → Inv (k + i + 1) (wipeE ρ2 own) acc) ∧ (b = true → ∃ c ρ3, x ρ2 = some (c, ρ3) ∧ fit kc c = true ∧ Inv (k + i + 1) (wipeE ρ3 own) (acc ++ [c.2]))) →
    ∃ rs ρ', mCompL kc tg t x own ds ρ = some (rs, ρ') ∧ Inv (k + ds.length) ρ' (acc ++ rs)
  | [], k, ρ, acc, h, _ => ⟨[], ρ, rfl, by rw [List.append_nil]; exact h⟩
  | d :: ds, k, ρ, acc, h, st => by
    have next : ∀ {ρ2 : Mn.Env} {acc2 : List D}, Inv (k + 0 + 1) ρ2 acc2 → ∃ rs ρ', mCompL kc tg t x own ds ρ2 = some (rs, ρ') ∧ Inv (k + (ds.length + 1)) ρ' (acc2 ++ rs) := fun {ρ2 acc2} h2 => by
      obtain ⟨rs, ρ', e3, h3⟩ := mCompL_inv Inv ds (k + 1) ρ2 acc2 h2 fun i d' ρ acc hd hi => by
        have := st (i + 1) d' ρ acc (by simpa using hd) (by rw [show k + (i + 1) = k + 1 + i by omega]; exact hi)
        rw [show k + (i + 1) + 1 = k + 1 + i + 1 by omega] at this
        exact this
      exact ⟨rs, ρ', e3, by rw [show k + (ds.length + 1) = k + 1 + ds.length by omega]; exact h3⟩
    obtain ⟨ρ1, b, ρ2, e1, e2, hf, ht⟩ := st 0 d ρ acc rfl h
    rw [List.length_cons]
    cases b with
    | false =>
      obtain ⟨rs, ρ', e3, h3⟩ := next (hf rfl)
      exact ⟨rs, ρ', by simp only [mCompL, e1, e2]; exact e3, h3⟩
    | true =>
      obtain ⟨c, ρ3, e4, e5, h4⟩ := ht rfl
      obtain ⟨rs, ρ', e3, h3⟩ := next h4
      refine ⟨c.2 :: rs, ρ', by simp only [mCompL, e1, e2, e4, e5, e3, if_true], ?_⟩
      rw [List.append_assoc] at h3
      exact h3
/-- a comprehension that leaves the frame as it is -/
theorem mComp_pure {kc : Nat} {it : Mn.Env → Option (List D × Mn.Env)} {tg : D → Mn.Env → Option Mn.Env} {t : Mn.Env → Option (Bool × Mn.Env)} {x : Mn.Env → Option (Cell × Mn.Env)} {own : List Nat} {ρ ρ1 ρ0 : Mn.Env} {ds : List D} (q : D → Bool) (v : D → D)
    (hit : it ρ = some (ds, ρ1)) (hz : ds.length < sizeLine) (hw : wipeE ρ1 own = ρ0)
    (h : ∀ d ∈ ds, ∃ ρ2, tg d ρ0 = some ρ2 ∧ t ρ2 = some (q d, ρ2) ∧ wipeE ρ2 own = ρ0 ∧ (q d = true → ∃ k, x ρ2 = some ((k, v d), ρ2) ∧ fit kc (k, v d) = true)) : mComp kc it tg t x own ρ = some ((kc + 1, .lst ((ds.filter q).map v)), ρ0) := by
  have key : ∀ ds : List D, (∀ d ∈ ds, ∃ ρ2, tg d ρ0 = some ρ2 ∧ t ρ2 = some (q d, ρ2) ∧ wipeE ρ2 own = ρ0 ∧ (q d = true → ∃ k, x ρ2 = some ((k, v d), ρ2) ∧ fit kc (k, v d) = true)) → mCompL kc tg t x own ds ρ0 = some ((ds.filter q).map v, ρ0) := by
    intro ds
    induction ds with
    | nil => intro _; rfl
    | cons d ds ih =>
      intro h
      obtain ⟨ρ2, e1, e2, e3, e4⟩ := h d List.mem_cons_self
      have ih' := ih fun d' hd => h d' (List.mem_cons_of_mem _ hd)
      cases hq : q d with
      | false =>
        rw [hq] at e2
        simp only [mCompL, e1, e2, e3]
        rw [ih', List.filter_cons_of_neg (by simp [hq])]
      | true =>
        obtain ⟨k, e5, e6⟩ := e4 hq
        rw [hq] at e2
        simp only [mCompL, e1, e2, e5, e6, e3, ih', if_true]
        rw [List.filter_cons_of_pos hq, List.map_cons]
  unfold mComp
  rw [hit]
  simp only [hz, if_true, hw, key ds h]
/-! ### ranges, numbers -/
theorem rng0 (n : Nat) : rng 0 1 n = (List.range n).map fun i : Nat => D.int i := by
  unfold rng
  refine List.map_congr_left fun i _ => ?_
  rw [Int.mul_one, Int.zero_add]
theorem okRng_nat {n : Nat} (h : n < 2 ^ 62) : okRng (n : Int) = true := okRng_mk (by omega)
theorem log2_lt {n k : Nat} (h : n < 2 ^ k) (hk : 0 < k) : n.log2 < k := by
  by_cases h0 : n = 0
  · subst h0; simpa using hk
  · exact (Nat.log2_lt h0).mpr h
theorem okMul_of {i j : Int} {a b : Nat} (h1 : i.natAbs < 2 ^ a) (h2 : j.natAbs < 2 ^ b) (ha : 0 < a) (hb : 0 < b) (hab : a + b ≤ 1000000) : okMul i j = true := by
  unfold okMul
  have := log2_lt h1 ha
  have := log2_lt h2 hb
  exact decide_eq_true (by omega)
theorem atI_nat' {l : List D} {i : Nat} : atI l (i : Int) = l[i]? := by
  by_cases h : i < l.length
  · obtain ⟨x, e⟩ : ∃ x, l[i]? = some x := ⟨l[i], by simp [h]⟩
    rw [e]; exact atI_nat e
  · have e : l[i]? = none := by simp; omega
    rw [e]
    unfold atI
    cases q : ixN l.length (i : Int) with
    | none => rfl
    | some j =>
      have := ixN_seq q
      exfalso
      omega
@[simp] theorem intsOf_map (l : List Int) : intsOf (l.map D.int) = some l := by
  induction l with
  | nil => rfl
  | cons a r ih => simp [intsOf, ih]
@[simp] theorem e_sum (l : List Int) : dSum [.lst (l.map D.int)] = some (.int l.sum) := by
  simp only [dSum, intsOf_map]
theorem okPow_of' {i j : Int} (h : okPow i j = true) : dPow (.int i) (.int j) = some (.int (i ^ j.toNat)) := by
  show (if okPow i j = true then _ else _) = _
  rw [if_pos h]
@[simp] theorem le_size {n : Nat} : (n ≤ sizeLine) = (n ≤ 16777216) := by rw [sizeLine_eq]
@[simp] theorem lt_size {n : Nat} : (n < sizeLine) = (n < 16777216) := by rw [sizeLine_eq]
/-- a comprehension over encoded items -/
theorem comp_map {α : Type} {kc : Nat} {it : Mn.Env → Option (List D × Mn.Env)} {tg : D → Mn.Env → Option Mn.Env} {t : Mn.Env → Option (Bool × Mn.Env)} {x : Mn.Env → Option (Cell × Mn.Env)} {own : List Nat} {ρ ρ1 ρ0 : Mn.Env} (l : List α) (enc : α → D) (q : α → Bool) (v : α → D)
    (hit : it ρ = some (l.map enc, ρ1)) (hz : l.length < 16777216) (hw : wipeE ρ1 own = ρ0)
    (h : ∀ a ∈ l, ∃ ρ2, tg (enc a) ρ0 = some ρ2 ∧ t ρ2 = some (q a, ρ2) ∧ wipeE ρ2 own = ρ0 ∧ (q a = true → ∃ k, x ρ2 = some ((k, v a), ρ2) ∧ fit kc (k, v a) = true)) : mComp kc it tg t x own ρ = some ((kc + 1, .lst ((l.filter q).map v)), ρ0) := by
  have key : ∀ l : List α, (∀ a ∈ l, ∃ ρ2, tg (enc a) ρ0 = some ρ2 ∧ t ρ2 = some (q a, ρ2) ∧ wipeE ρ2 own = ρ0 ∧ (q a = true → ∃ k, x ρ2 = some ((k, v a), ρ2) ∧ fit kc (k, v a) = true)) → mCompL kc tg t x own (l.map enc) ρ0 = some ((l.filter q).map v, ρ0) := by
    intro l
    induction l with
    | nil => intro _; rfl
    | cons d ds ih =>
      intro h
      obtain ⟨ρ2, e1, e2, e3, e4⟩ := h d List.mem_cons_self
      have ih' := ih fun d' hd => h d' (List.mem_cons_of_mem _ hd)
      rw [List.map_cons]
      cases hq : q d with
      | false =>
        rw [hq] at e2
        simp only [mCompL, e1, e2, e3]
        rw [ih', List.filter_cons_of_neg (by simp [hq])]
      | true =>
        obtain ⟨k, e5, e6⟩ := e4 hq
        rw [hq] at e2
        simp only [mCompL, e1, e2, e5, e6, e3, ih', if_true]
        rw [List.filter_cons_of_pos hq, List.map_cons]
  unfold mComp
  rw [hit]
  simp only [List.length_map, lt_size, hz, if_true, hw, key l h]
theorem comp_map1 {α : Type} {kc : Nat} {it : Mn.Env → Option (List D × Mn.Env)} {tg : D → Mn.Env → Option Mn.Env} {x : Mn.Env → Option (Cell × Mn.Env)} {own : List Nat} {ρ ρ1 ρ0 : Mn.Env} (l : List α) (enc : α → D) (v : α → D)
    (hit : it ρ = some (l.map enc, ρ1)) (hz : l.length < 16777216) (hw : wipeE ρ1 own = ρ0)
    (h : ∀ a ∈ l, ∃ ρ2, tg (enc a) ρ0 = some ρ2 ∧ wipeE ρ2 own = ρ0 ∧ (∃ k, x ρ2 = some ((k, v a), ρ2) ∧ fit kc (k, v a) = true)) : mComp kc it tg tYesM x own ρ = some ((kc + 1, .lst (l.map v)), ρ0) := by
  have := comp_map (t := tYesM) (kc := kc) (tg := tg) (x := x) (own := own) l enc (fun _ => true) v hit hz hw fun a ha => by
    obtain ⟨ρ2, e1, e2, e3⟩ := h a ha
    exact ⟨ρ2, e1, rfl, e2, fun _ => e3⟩
  rw [this, List.filter_eq_self.mpr fun _ _ => rfl]
/-- .. of which none is taken -/
theorem comp_none {α : Type} {kc : Nat} {it : Mn.Env → Option (List D × Mn.Env)} {tg : D → Mn.Env → Option Mn.Env} {t : Mn.Env → Option (Bool × Mn.Env)} {x : Mn.Env → Option (Cell × Mn.Env)} {own : List Nat} {ρ ρ1 ρ0 : Mn.Env} (l : List α) (enc : α → D)
    (hit : it ρ = some (l.map enc, ρ1)) (hz : l.length < 16777216) (hw : wipeE ρ1 own = ρ0)
    (h : ∀ a ∈ l, ∃ ρ2, tg (enc a) ρ0 = some ρ2 ∧ t ρ2 = some (false, ρ2) ∧ wipeE ρ2 own = ρ0) : mComp kc it tg t x own ρ = some ((kc + 1, .lst []), ρ0) := by
  have := comp_map (kc := kc) (x := x) (t := t) l enc (fun _ => false) enc hit hz hw fun a ha => by
    obtain ⟨ρ2, e1, e2, e3⟩ := h a ha
    exact ⟨ρ2, e1, e2, e3, fun h => nomatch h⟩
  rw [this]
  have e : l.filter (fun _ => false) = [] := by
    rw [List.filter_eq_nil_iff]
    simp
  rw [e]
  rfl
theorem enumD_map {α : Type} (enc : α → D) : ∀ (l : List α) (k : Nat), enumD k (l.map enc) = (l.zipIdx k).map fun p => .tup [.int (p.2 : Nat), enc p.1]
  | [], _ => rfl
  | a :: l, k => by rw [List.map_cons, enumD, enumD_map enc l, List.zipIdx_cons, List.map_cons]
theorem zipD_map {α β : Type} (e : α → D) (f : β → D) : ∀ (l : List α) (m : List β), zipD (l.map e) (m.map f) = (l.zip m).map fun p => .tup [e p.1, f p.2]
  | [], _ => by simp [zipD]
  | _ :: _, [] => by simp [zipD]
  | a :: l, b :: m => by rw [List.map_cons, List.map_cons, zipD, zipD_map e f l m, List.zip_cons_cons, List.map_cons]
/-! ### numbers, lists of numbers, lists of these -/
theorem toPL_mapI : ∀ l : List Int, toPL (l.map D.int) = some (l.map PyData.int)
  | [] => rfl
  | a :: l => by simp [toPL, toP, toPL_mapI l]
theorem toPL_mapL {α : Type} (e : α → D) (f : α → PyData) : ∀ l : List α, (∀ a ∈ l, toP (e a) = some (f a)) → toPL (l.map e) = some (l.map f)
  | [], _ => rfl
  | a :: l, h => by simp [toPL, h a List.mem_cons_self, toPL_mapL e f l fun b hb => h b (List.mem_cons_of_mem _ hb)]
theorem toP_IL (l : List Int) : toP (.lst (l.map D.int)) = some (.list (l.map PyData.int)) := by simp [toP, toPL_mapI]
theorem toP_IM (l : List (List Int)) : toP (.lst (l.map fun r => .lst (r.map D.int))) = some (.list (l.map fun r => .list (r.map PyData.int))) := by
  simp [toP, toPL_mapL (fun r : List Int => D.lst (r.map D.int)) (fun r => PyData.list (r.map PyData.int)) l fun r _ => toP_IL r]
theorem eqv_IL : ∀ a b : List Int, PyData.eqvAll (a.map PyData.int) (b.map PyData.int) = decide (a = b)
  | [], [] => by simp [PyData.eqvAll]
  | [], _ :: _ => by simp [PyData.eqvAll]
  | _ :: _, [] => by simp [PyData.eqvAll]
  | x :: a, y :: b => by
    rw [List.map_cons, List.map_cons]
    simp only [PyData.eqvAll, PyData.eqv, eqv_IL a b, List.cons.injEq]
    by_cases h : x = y <;> simp [h]
theorem eqv_IM : ∀ a b : List (List Int), PyData.eqvAll (a.map fun r => .list (r.map PyData.int)) (b.map fun r => .list (r.map PyData.int)) = decide (a = b)
  | [], [] => by simp [PyData.eqvAll]
  | [], _ :: _ => by simp [PyData.eqvAll]
  | _ :: _, [] => by simp [PyData.eqvAll]
  | x :: a, y :: b => by
    rw [List.map_cons, List.map_cons]
    simp only [PyData.eqvAll, PyData.eqv, eqv_IM a b, eqv_IL x y, List.cons.injEq]
    by_cases h : x = y <;> simp [h]
theorem shaped_I (i : Int) : SeqAt.shaped (.int i) = true := by simp [SeqAt.shaped, PyData.canLay0, PyData.depth]
theorem canLay_IL : ∀ l : List Int, PyData.canLayAll0 (l.map PyData.int) = true
  | [] => by simp [PyData.canLayAll0]
  | a :: l => by simp [PyData.canLayAll0, PyData.canLay0, canLay_IL l]
theorem depth_IL : ∀ l : List Int, PyData.depthAll (l.map PyData.int) = 0
  | [] => by simp [PyData.depthAll]
  | a :: l => by simp [PyData.depthAll, PyData.depth, depth_IL l]
theorem shaped_IL (l : List Int) : SeqAt.shaped (.list (l.map PyData.int)) = true := by simp [SeqAt.shaped, PyData.canLay0, PyData.depth, canLay_IL, depth_IL]
theorem canLay_IM : ∀ l : List (List Int), PyData.canLayAll0 (l.map fun r => .list (r.map PyData.int)) = true
  | [] => by simp [PyData.canLayAll0]
  | a :: l => by simp [PyData.canLayAll0, PyData.canLay0, canLay_IM l, canLay_IL]
theorem depth_IM : ∀ l : List (List Int), PyData.depthAll (l.map fun r => .list (r.map PyData.int)) ≤ 1
  | [] => by simp [PyData.depthAll]
  | a :: l => by
    have := depth_IM l
    simp [PyData.depthAll, PyData.depth, depth_IL]
    omega
theorem shaped_IM (l : List (List Int)) : SeqAt.shaped (.list (l.map fun r => .list (r.map PyData.int))) = true := by
  have := depth_IM l
  simp [SeqAt.shaped, PyData.canLay0, PyData.depth, canLay_IM]
  omega
@[simp] theorem eq_I (a b : Int) : dEq (.int a) (.int b) = some (.bl (decide (a = b))) := by
  simp [dEq, toP, shaped_I, PyData.eqv]
  by_cases h : a = b <;> simp [h]
@[simp] theorem ne_I (a b : Int) : dNe (.int a) (.int b) = some (.bl (!decide (a = b))) := by
  simp [dNe, toP, shaped_I, PyData.eqv]
  by_cases h : a = b <;> simp [h]
theorem eq_IL (a b : List Int) : dEq (.lst (a.map D.int)) (.lst (b.map D.int)) = some (.bl (decide (a = b))) := by
  simp [dEq, toP_IL, shaped_IL, PyData.eqv, eqv_IL]
theorem ne_IL (a b : List Int) : dNe (.lst (a.map D.int)) (.lst (b.map D.int)) = some (.bl (!decide (a = b))) := by
  simp [dNe, toP_IL, shaped_IL, PyData.eqv, eqv_IL]
theorem eq_IM (a b : List (List Int)) : dEq (.lst (a.map fun r => .lst (r.map D.int))) (.lst (b.map fun r => .lst (r.map D.int))) = some (.bl (decide (a = b))) := by
  simp [dEq, toP_IM, shaped_IM, PyData.eqv, eqv_IM]
theorem ne_IM (a b : List (List Int)) : dNe (.lst (a.map fun r => .lst (r.map D.int))) (.lst (b.map fun r => .lst (r.map D.int))) = some (.bl (!decide (a = b))) := by
  simp [dNe, toP_IM, shaped_IM, PyData.eqv, eqv_IM]
/-- .. == [] -/
theorem eq_IL0 (a : List Int) : dEq (.lst (a.map D.int)) (.lst []) = some (.bl (decide (a = []))) := eq_IL a []
theorem ne_IL0 (a : List Int) : dNe (.lst (a.map D.int)) (.lst []) = some (.bl (!decide (a = []))) := ne_IL a []
theorem eq_IM0 (a : List (List Int)) : dEq (.lst (a.map fun r => .lst (r.map D.int))) (.lst []) = some (.bl (decide (a = []))) := eq_IM a []
theorem ne_IM0 (a : List (List Int)) : dNe (.lst (a.map fun r => .lst (r.map D.int))) (.lst []) = some (.bl (!decide (a = []))) := ne_IM a []
/-! ### square matrices by their items -/
def mat (n : Nat) (f : Nat → Nat → Int) : List (List Int) := (List.range n).map fun i => (List.range n).map fun j => f i j
@[simp] theorem mat_length (n : Nat) (f : Nat → Nat → Int) : (mat n f).length = n := by simp [mat]
theorem mat_get {n : Nat} {f : Nat → Nat → Int} {i : Nat} (h : i < n) : (mat n f)[i]? = some ((List.range n).map fun j => f i j) := by simp [mat, h]
theorem mat_row {n : Nat} {f : Nat → Nat → Int} {r : List Int} (h : r ∈ mat n f) : r.length = n := by
  simp [mat] at h
  obtain ⟨i, _, rfl⟩ := h
  simp
theorem mat_inj {n : Nat} {f g : Nat → Nat → Int} : mat n f = mat n g ↔ ∀ i, i < n → ∀ j, j < n → f i j = g i j := by
  constructor
  · intro h i hi j hj
    have h1 := mat_get (f := f) hi
    rw [h, mat_get hi] at h1
    have h2 : ((List.range n).map fun j => g i j)[j]? = ((List.range n).map fun j => f i j)[j]? := by rw [Option.some.inj h1]
    simpa [hj] using h2.symm
  · intro h
    unfold mat
    refine List.map_congr_left fun i hi => List.map_congr_left fun j hj => h i (List.mem_range.mp hi) j (List.mem_range.mp hj)
theorem enumD_get' : ∀ (l : List D) (k i : Nat), (enumD k l)[i]? = l[i]?.map fun x => .tup [.int ((k + i : Nat) : Int), x]
  | [], _, _ => by simp [enumD]
  | a :: l, k, 0 => by simp [enumD]
  | a :: l, k, i + 1 => by
    rw [enumD, List.getElem?_cons_succ, enumD_get' l (k + 1) i, List.getElem?_cons_succ, show k + 1 + i = k + (i + 1) by omega]
theorem enum_range (n : Nat) (e : Nat → D) : enumD 0 ((List.range n).map e) = (List.range n).map fun i => .tup [.int (i : Nat), e i] := by
  refine List.ext_getElem? fun i => ?_
  rw [enumD_get']
  by_cases h : i < n <;> simp [h]
theorem zip_range (n : Nat) (e f : Nat → D) : zipD ((List.range n).map e) ((List.range n).map f) = (List.range n).map fun i => .tup [e i, f i] := by
  rw [zipD_map]
  refine List.ext_getElem? fun i => ?_
  by_cases h : i < n
  · simp [h, List.getElem?_zip_eq_some.mpr]
  · simp [h]
/-- small numbers -/
theorem sm_mul {x y : Int} {a b : Nat} (h1 : x.natAbs < 2 ^ a) (h2 : y.natAbs < 2 ^ b) : (x * y).natAbs < 2 ^ (a + b) := by
  rw [Int.natAbs_mul, Nat.pow_add]
  exact Nat.mul_lt_mul'' h1 h2
theorem sm_up {x : Int} {a b : Nat} (h : x.natAbs < 2 ^ a) (hab : a ≤ b) : x.natAbs < 2 ^ b := Nat.lt_of_lt_of_le h (Nat.pow_le_pow_right (by decide) hab)
theorem sm_add {x y : Int} {a : Nat} (h1 : x.natAbs < 2 ^ a) (h2 : y.natAbs < 2 ^ a) : (x + y).natAbs < 2 ^ (a + 1) := by
  rw [Nat.pow_succ]
  generalize 2 ^ a = A at *
  omega
theorem sm_sum {g : Nat → Int} {a : Nat} : ∀ n : Nat, (∀ i, i < n → (g i).natAbs < 2 ^ a) → n ≤ 8 → (((List.range n).map g).sum).natAbs < 2 ^ (a + 4) := by
  have key : ∀ n : Nat, (∀ i, i < n → (g i).natAbs < 2 ^ a) → (((List.range n).map g).sum).natAbs ≤ n * 2 ^ a := by
    intro n
    induction n with
    | zero => intro _; simp
    | succ n ih =>
      intro h
      have h1 := ih fun i hi => h i (by omega)
      have h2 := h n (by omega)
      rw [List.range_succ, List.map_append, List.sum_append, List.map_singleton, List.sum_singleton, Nat.succ_mul]
      generalize n * 2 ^ a = B at h1
      omega
  intro n h hn
  have := key n h
  rw [Nat.pow_add]
  have h2 : n * 2 ^ a ≤ 8 * 2 ^ a := Nat.mul_le_mul_right _ hn
  have h3 : 0 < 2 ^ a := Nat.pow_pos (by decide)
  omega
theorem any_I (a : Int) : ∀ l : List Int, ((l.map PyData.int).any fun z => PyData.eqv z (.int a)) = decide (a ∈ l)
  | [] => by simp
  | b :: l => by
    rw [List.map_cons, List.any_cons, any_I a l]
    simp only [PyData.eqv, List.mem_cons]
    by_cases h : b = a
    · simp [h]
    · have h' : ¬ a = b := fun e => h e.symm
      simp [h, h']
@[simp] theorem in_IL (a : Int) (l : List Int) : dInG (.int a) (.lst (l.map D.int)) = some (.bl (decide (a ∈ l))) := by
  simp only [dInG, seqP, toP, toPL_mapI, shaped_I, shaped_IL, any_I, Bool.and_self, if_true]
@[simp] theorem notIn_IL (a : Int) (l : List Int) : dNotInG (.int a) (.lst (l.map D.int)) = some (.bl (!decide (a ∈ l))) := by
  simp only [dNotInG, seqP, toP, toPL_mapI, shaped_I, shaped_IL, any_I, Bool.and_self, if_true]
theorem rng_up (p m : Nat) : rng (p : Int) 1 m = ((List.range m).map fun i => p + i).map fun j : Nat => D.int (j : Int) := by
  unfold rng
  rw [List.map_map]
  refine List.map_congr_left fun i _ => ?_
  simp
theorem rng_down (n : Nat) : rng ((n : Int) - 1) (-1) n = (List.range n).reverse.map fun j : Nat => D.int (j : Int) := by
  refine List.ext_getElem? fun i => ?_
  unfold rng
  by_cases h : i < n
  · rw [List.getElem?_map, List.getElem?_map, List.getElem?_range h, List.getElem?_reverse (by simpa using h)]
    have : n - 1 - i < n := by omega
    simp [this]
    omega
  · rw [List.getElem?_eq_none (by simpa using h), List.getElem?_eq_none (by simpa using h)]
theorem rep_flat (m : Nat) (d : D) : (List.replicate m [d]).flatten = List.replicate m d := by
  induction m with
  | zero => rfl
  | succ m ih => rw [List.replicate_succ, List.flatten_cons, ih, List.replicate_succ]; rfl
theorem okIx_nat {n : Nat} (h : n < 2 ^ 62) : okIx (n : Int) = true := okIx_mk (by omega)
end Mn

namespace Mn
open PySem PySem.Spec PyProof.Rows L2
/-! ### loops over what is known item by item -/
theorem loopL {α : Type} {tg : D → Mn.Env → Option Mn.Env} {body : Mn.Env → Option Out} (l : List α) (enc : α → D) (Inv : Nat → Mn.Env → Prop) {ρ : Mn.Env} (h0 : Inv 0 ρ)
    (st : ∀ (i : Nat) (a : α) (ρ : Mn.Env), l[i]? = some a → Inv i ρ → ∃ ρ1 ρ2, tg (enc a) ρ = some ρ1 ∧ body ρ1 = some (.nx ρ2) ∧ Inv (i + 1) ρ2) : ∃ ρ', mLoop tg body (l.map enc) ρ = some (.nx ρ') ∧ Inv l.length ρ' := by
  obtain ⟨ρ', e, h⟩ := mLoop_inv (tg := tg) (body := body) Inv (l.map enc) 0 ρ h0 fun i d ρ hd hi => by
    rw [List.getElem?_map] at hd
    rw [Nat.zero_add] at hi ⊢
    cases q : l[i]? with
    | none => rw [q] at hd; cases hd
    | some a => rw [q] at hd; cases hd; exact st i a ρ q hi
  exact ⟨ρ', e, by simpa using h⟩
theorem loopR {tg : D → Mn.Env → Option Mn.Env} {body : Mn.Env → Option Out} (n : Nat) (Inv : Nat → Mn.Env → Prop) {ρ : Mn.Env} (h0 : Inv 0 ρ)
    (st : ∀ (i : Nat) (ρ : Mn.Env), i < n → Inv i ρ → ∃ ρ1 ρ2, tg (.int (i : Int)) ρ = some ρ1 ∧ body ρ1 = some (.nx ρ2) ∧ Inv (i + 1) ρ2) : ∃ ρ', mLoop tg body (rng 0 1 n) ρ = some (.nx ρ') ∧ Inv n ρ' := by
  rw [rng0]
  obtain ⟨ρ', e, h⟩ := loopL (tg := tg) (body := body) (List.range n) (fun i : Nat => .int (i : Int)) Inv h0 fun i a ρ ha hi => by
    by_cases q : i < n
    · rw [List.getElem?_range q] at ha
      cases ha
      exact st i ρ q hi
    · rw [List.getElem?_eq_none (by simpa using q)] at ha; cases ha
  exact ⟨ρ', e, by simpa using h⟩
theorem loopR2 {tg : D → Mn.Env → Option Mn.Env} {body : Mn.Env → Option Out} (p n : Nat) (Inv : Nat → Mn.Env → Prop) {ρ : Mn.Env} (h0 : Inv p ρ) (hp : p ≤ n)
    (st : ∀ (i : Nat) (ρ : Mn.Env), p ≤ i → i < n → Inv i ρ → ∃ ρ1 ρ2, tg (.int (i : Int)) ρ = some ρ1 ∧ body ρ1 = some (.nx ρ2) ∧ Inv (i + 1) ρ2) : ∃ ρ', mLoop tg body (rng (p : Int) 1 (n - p)) ρ = some (.nx ρ') ∧ Inv n ρ' := by
  rw [rng_up]
  obtain ⟨ρ', e, h⟩ := loopL (tg := tg) (body := body) ((List.range (n - p)).map fun i => p + i) (fun i : Nat => .int (i : Int)) (fun i => Inv (p + i)) h0 fun i a ρ ha hi => by
    rw [List.getElem?_map] at ha
    by_cases q : i < n - p
    · rw [List.getElem?_range q] at ha
      cases ha
      exact st (p + i) ρ (by omega) (by omega) hi
    · rw [List.getElem?_eq_none (by simpa using q)] at ha; cases ha
  refine ⟨ρ', e, ?_⟩
  simp only [List.length_map, List.length_range] at h
  rwa [show p + (n - p) = n by omega] at h
/-- a comprehension over a range, with a changing frame -/
theorem compS {α : Type} {kc : Nat} {it : Mn.Env → Option (List D × Mn.Env)} {tg : D → Mn.Env → Option Mn.Env} {x : Mn.Env → Option (Cell × Mn.Env)} {own : List Nat} (n : Nat) (enc : α → D) (Inv : Nat → Mn.Env → List α → Prop) {ρ ρ1 : Mn.Env}
    (hit : it ρ = some (rng 0 1 n, ρ1)) (hn : n < 16777216) (h0 : Inv 0 (wipeE ρ1 own) [])
    (st : ∀ (i : Nat) (ρ : Mn.Env) (acc : List α), i < n → Inv i ρ acc → ∃ ρ1 a k ρ2, tg (.int (i : Int)) ρ = some ρ1 ∧ x ρ1 = some ((k, enc a), ρ2) ∧ fit kc (k, enc a) = true ∧ Inv (i + 1) (wipeE ρ2 own) (acc ++ [a])) :
    ∃ l ρ', mComp kc it tg tYesM x own ρ = some ((kc + 1, .lst (l.map enc)), ρ') ∧ l.length = n ∧ Inv n ρ' l := by
  obtain ⟨rs, ρ', e, l, h1, h2, h3⟩ := mCompL_inv (kc := kc) (tg := tg) (t := tYesM) (x := x) (own := own) (fun i ρ acc => ∃ l : List α, acc = l.map enc ∧ l.length = i ∧ Inv i ρ l) (rng 0 1 n) 0 (wipeE ρ1 own) [] ⟨[], rfl, rfl, h0⟩ (by
    rintro i d ρ acc hd ⟨l, rfl, hl, hi⟩
    have ⟨hin, hdi⟩ := rng_get hd
    rw [Int.zero_add, Int.mul_one] at hdi
    subst hdi
    rw [Nat.zero_add] at hi hl ⊢
    obtain ⟨ρ1, a, k, ρ2, e1, e2, e3, e4⟩ := st i ρ l hin hi
    exact ⟨ρ1, true, ρ1, e1, rfl, (nomatch ·), fun _ => ⟨_, ρ2, e2, e3, l ++ [a], by simp, by simp [hl], e4⟩⟩)
  rw [List.nil_append] at h1
  have hl : (rng 0 1 n).length = n := by simp [rng]
  rw [hl, Nat.zero_add] at h2 h3
  refine ⟨l, ρ', ?_, h2, h3⟩
  unfold mComp
  rw [hit]
  simp only [hl, lt_size, hn, if_true, e, h1]
/-! ### storing into a square -/
def upd (f : Nat → Nat → Int) (p a : Nat) (r : Int) : Nat → Nat → Int := fun i j => if i = p ∧ j = a then r else f i j
theorem mat_upd {n : Nat} {f : Nat → Nat → Int} {p a : Nat} {r : Int} (hp : p < n) : (mat n f).set p (((List.range n).map fun j => f p j).set a r) = mat n (upd f p a r) := by
  refine List.ext_getElem? fun i => ?_
  rw [List.getElem?_set]
  by_cases h : i < n
  · rw [mat_get h]
    by_cases h2 : p = i
    · subst h2
      simp only [if_true, mat_length, h]
      rw [mat_get h]
      congr 1
      refine List.ext_getElem? fun j => ?_
      rw [List.getElem?_set]
      by_cases h3 : j < n
      · by_cases h4 : a = j
        · subst h4; simp [h3, upd]
        · have h5 : ¬ j = a := fun e => h4 e.symm
          simp [h3, h4, h5, upd]
      · rw [List.getElem?_eq_none (l := (List.range n).map _) (by simpa using h3), List.getElem?_eq_none (l := (List.range n).map _) (by simpa using h3)]
        by_cases h4 : a = j
        · simp [h4, h3]
        · simp [h4]
    · have h5 : ¬ i = p := fun e => h2 e.symm
      simp [h2, mat_get h, upd, h5]
  · have h2 : ¬ p = i := by omega
    rw [if_neg h2, List.getElem?_eq_none (by simpa using h), List.getElem?_eq_none (by simpa using h)]
theorem ixN_nat {n i : Nat} (h : i < n) : ixN n (i : Int) = some i := by
  unfold ixN
  rw [if_pos (by omega), if_pos (by omega)]
  rfl
theorem set_mat {v n : Nat} {f : Nat → Nat → Int} {k p a kc : Nat} {gp ga : Mn.Env → Option D} {m : Mn.Env → Option (Cell × Mn.Env)} {ρ ρ1 : Mn.Env} {r : Int} (e1 : m ρ = some ((kc, .int r), ρ1)) (e2 : ρ1[v]? = some (some (k + 2, .lst ((mat n f).map fun r => .lst (r.map D.int))))) (e3 : gp ρ1 = some (.int (p : Int))) (e4 : ga ρ1 = some (.int (a : Int))) (hp : p < n) (ha : a < n) :
    sSet v (plIx v plNil gp) ga m ρ = some (.nx (ρ1.set v (some (k + 2, .lst ((mat n (upd f p a r)).map fun r => .lst (r.map D.int)))))) := by
  have g1 : (List.map (fun r => D.lst (r.map D.int)) (mat n f))[p]? = some (.lst (((List.range n).map fun j => f p j).map D.int)) := by rw [List.getElem?_map, mat_get hp]; rfl
  have a0 : plAt v plNil ρ1 = some ([], (k + 2, .lst ((mat n f).map fun r => .lst (r.map D.int))), .lst ((mat n f).map fun r => .lst (r.map D.int))) := by
    unfold plAt
    rw [e2]
    rfl
  have a1 : plIx v plNil gp ρ1 = some [p] := by
    unfold plIx
    rw [a0, e3]
    simp only [List.length_map, mat_length, ixN_nat hp]
    rfl
  have a2 : plAt v (plIx v plNil gp) ρ1 = some ([p], (k + 2, .lst ((mat n f).map fun r => .lst (r.map D.int))), .lst (((List.range n).map fun j => f p j).map D.int)) := by
    unfold plAt
    rw [e2, a1]
    simp only [D.at, g1]
    rw [if_pos (by simp)]
  have lenr : (((List.range n).map fun j => f p j).map D.int).length = n := by simp
  rw [e_sSet, e1]
  simp only [a2, e4]
  rw [lenr, ixN_nat ha]
  have hq : D.put (.lst ((mat n f).map fun r => .lst (r.map D.int))) [p] (.lst ((((List.range n).map fun j => f p j).map D.int).set a (.int r))) = .lst ((mat n (upd f p a r)).map fun r => .lst (r.map D.int)) := by
    unfold D.put
    rw [g1]
    simp only [D.put]
    rw [← mat_upd hp, ← List.map_set, ← List.map_set]
  simp only [hq]
  simp
end Mn

namespace Mn
open PySem PySem.Spec PyProof.Rows L2
/-! ### repr of numbers and lists: how long it is -/
theorem strOk_append {a b : Str} (h1 : PyData.strOk a = true) (h2 : PyData.strOk b = true) : PyData.strOk (a ++ b) = true := by
  unfold PyData.strOk at *
  show (a.cps ++ b.cps).all _ = true
  rw [Array.all_append, h1, h2]
  rfl
theorem strOk_ofString (s : String) : PyData.strOk (Str.ofString s) = true := by
  rw [Str.ofString_eq_toList]
  unfold PyData.strOk
  rw [List.all_toArray, List.all_eq_true]
  intro x hx
  rw [List.mem_map] at hx
  obtain ⟨c, _, rfl⟩ := hx
  have := c.valid
  unfold UInt32.isValidChar Nat.isValidChar at this
  have e : c.toNat = c.val.toNat := rfl
  exact decide_eq_true (by omega)
def ShB (p : PyData) (N : Nat) : Prop := p.showable = true ∧ p.hasDict = false ∧ p.shown.length ≤ N ∧ PyData.strOk p.shown = true
theorem ShB.up {p : PyData} {N M : Nat} (h : ShB p N) (hm : N ≤ M) : ShB p M := ⟨h.1, h.2.1, Nat.le_trans h.2.2.1 hm, h.2.2.2⟩
theorem ShB.int {i : Int} {k : Nat} (h : i.natAbs < 2 ^ k) (hk : 0 < k) (hk2 : k ≤ 1920) : ShB (.int i) (k + 1) := by
  have hl : i.natAbs.log2 < k := log2_lt h hk
  refine ⟨?_, by simp [PyData.hasDict], ?_, by simp only [PyData.shown]; exact strOk_ofString _⟩
  · simp only [PyData.showable, decide_eq_true_eq]
    omega
  · simp only [PyData.shown]
    show (Str.ofString (toString i)).length ≤ _
    rw [PySem.ofString_length]
    exact int_text_length_le hk hl
theorem textFrom_up : ∀ (ts : List Str) (k : Nat) (acc : Str) (N : Nat), (∀ t ∈ ts, t.length ≤ N) → (textFrom k acc ts).length ≤ acc.length + ts.length * (N + 2)
  | [], k, acc, N, _ => by show acc.length ≤ _; simp
  | t :: ts, k, acc, N, h => by
    have ih := textFrom_up ts (k + 1) (acc ++ (if k > 0 then ", " else "" : String) ++ t) N fun u hu => h u (List.mem_cons_of_mem _ hu)
    have e : (acc ++ (if k > 0 then ", " else "" : String) ++ t).length = acc.length + (if k > 0 then 2 else 0) + t.length := by
      rw [strLen_append, strLen_append]
      split <;> rfl
    have ht := h t List.mem_cons_self
    have d1 : (if k > 0 then 2 else 0 : Nat) ≤ 2 := by split <;> omega
    rw [e] at ih
    show (textFrom (k + 1) _ ts).length ≤ _
    rw [List.length_cons, Nat.succ_mul]
    generalize ts.length * (N + 2) = z at *
    omega
theorem textFrom_ok : ∀ (ts : List Str) (k : Nat) (acc : Str), PyData.strOk acc = true → (∀ t ∈ ts, PyData.strOk t = true) → PyData.strOk (textFrom k acc ts) = true
  | [], k, acc, h, _ => h
  | t :: ts, k, acc, h, ht => textFrom_ok ts (k + 1) _ (strOk_append (strOk_append h (strOk_ofString _)) (ht t (by simp))) fun u hu => ht u (List.mem_cons_of_mem _ hu)
theorem shownAll_mem : ∀ {ps : List PyData} {t : Str}, t ∈ PyData.shownAll ps → ∃ p ∈ ps, t = p.shown
  | [], _, h => by simp [PyData.shownAll] at h
  | p :: ps, t, h => by
    simp only [PyData.shownAll, List.mem_cons] at h
    rcases h with rfl | h
    · exact ⟨p, by simp, rfl⟩
    · obtain ⟨q, hq, e⟩ := shownAll_mem h
      exact ⟨q, by simp [hq], e⟩
theorem shownAll_length : ∀ ps : List PyData, (PyData.shownAll ps).length = ps.length
  | [] => by simp [PyData.shownAll]
  | p :: ps => by simp [PyData.shownAll, shownAll_length ps]
theorem showableAll_of : ∀ {ps : List PyData}, (∀ p ∈ ps, p.showable = true) → PyData.showableAll ps = true
  | [], _ => by simp [PyData.showableAll]
  | p :: ps, h => by simp [PyData.showableAll, h p (by simp), showableAll_of fun q hq => h q (List.mem_cons_of_mem _ hq)]
theorem hasDictAll_of : ∀ {ps : List PyData}, (∀ p ∈ ps, p.hasDict = false) → PyData.hasDictAll ps = false
  | [], _ => by simp [PyData.hasDictAll]
  | p :: ps, h => by simp [PyData.hasDictAll, h p (by simp), hasDictAll_of fun q hq => h q (List.mem_cons_of_mem _ hq)]
theorem ShB.list {ps : List PyData} {N : Nat} (h : ∀ p ∈ ps, ShB p N) : ShB (.list ps) (2 + ps.length * (N + 2)) := by
  refine ⟨by simp only [PyData.showable]; exact showableAll_of fun p hp => (h p hp).1, by simp only [PyData.hasDict]; exact hasDictAll_of fun p hp => (h p hp).2.1, ?_, by
    simp only [PyData.shown]
    unfold listText
    refine strOk_append (textFrom_ok _ _ _ (strOk_ofString _) fun t ht => ?_) (strOk_ofString _)
    obtain ⟨p, hp, rfl⟩ := shownAll_mem ht
    exact (h p hp).2.2.2⟩
  simp only [PyData.shown]
  unfold listText
  have := textFrom_up (PyData.shownAll ps) 0 "[" N fun t ht => by
    obtain ⟨p, hp, rfl⟩ := shownAll_mem ht
    exact (h p hp).2.2.1
  rw [shownAll_length] at this
  rw [strLen_append]
  have e1 : ((("[" : String) : Str)).length = 1 := rfl
  have e2 : ((("]" : String) : Str)).length = 1 := rfl
  rw [e1] at this
  rw [e2]
  generalize ps.length * (N + 2) = z at *
  omega
theorem okRepr_of {p : PyData} {N : Nat} (h : ShB p N) (hN : N ≤ 16777216) (hd : p.depth < 64) : okRepr p = true := by
  unfold okRepr
  rw [h.1, h.2.1]
  have h3 := h.2.2.1
  simp only [sizeLine_eq]
  simp
  exact ⟨hd, by omega⟩
/-- repr of a list of small numbers -/
theorem ShB.il {l : List Int} {k m : Nat} (h : ∀ x ∈ l, x.natAbs < 2 ^ k) (hk : 0 < k) (hk2 : k ≤ 1920) (hm : l.length ≤ m) : ShB (.list (l.map PyData.int)) (2 + m * (k + 3)) := by
  refine (ShB.list (N := k + 1) fun p hp => ?_).up ?_
  · rw [List.mem_map] at hp
    obtain ⟨x, hx, rfl⟩ := hp
    exact ShB.int (h x hx) hk hk2
  · rw [List.length_map]
    have : l.length * (k + 3) ≤ m * (k + 3) := Nat.mul_le_mul_right _ hm
    exact Nat.add_le_add_left this 2
theorem ShB.im {l : List (List Int)} {k m : Nat} (h : ∀ r ∈ l, r.length ≤ m ∧ ∀ x ∈ r, x.natAbs < 2 ^ k) (hk : 0 < k) (hk2 : k ≤ 1920) (hm : l.length ≤ m) : ShB (.list (l.map fun r => .list (r.map PyData.int))) (2 + m * (m * (k + 3) + 4)) := by
  refine (ShB.list (N := 2 + m * (k + 3)) fun p hp => ?_).up ?_
  · rw [List.mem_map] at hp
    obtain ⟨r, hr, rfl⟩ := hp
    exact ShB.il (h r hr).2 hk hk2 (h r hr).1
  · rw [List.length_map]
    have : l.length * (m * (k + 3) + 4) ≤ m * (m * (k + 3) + 4) := Nat.mul_le_mul_right _ hm
    have e : 2 + m * (k + 3) + 2 = m * (k + 3) + 4 := by omega
    rw [e]
    exact Nat.add_le_add_left this 2
/-- what repr gives, for a list of numbers -/
noncomputable def rpIL (l : List Int) : Str := (PyData.list (l.map PyData.int)).shown
theorem repr_IL {l : List Int} {k : Nat} (h : ∀ x ∈ l, x.natAbs < 2 ^ k) (hk : 0 < k) (hk2 : k ≤ 1920) (hm : l.length ≤ 1000) : dRepr [.lst (l.map D.int)] = some (.str (rpIL l)) ∧ PyData.strOk (rpIL l) = true := by
  have := okRepr_of (ShB.il (m := 1000) h hk hk2 hm) (by omega) (by simp [PyData.depth, depth_IL])
  refine ⟨?_, (ShB.il (m := 1000) h hk hk2 hm).2.2.2⟩
  simp only [dRepr, toP_IL, this, if_true]
  rfl
theorem ne_S {a : Str} (h : PyData.strOk a = true) : dNe (.str a) (.str a) = some (.bl false) := by
  simp [dNe, toP, SeqAt.shaped, PyData.canLay0, PyData.depth, PyData.eqv, h]
theorem eq_S {a : Str} (h : PyData.strOk a = true) : dEq (.str a) (.str a) = some (.bl true) := by
  simp [dEq, toP, SeqAt.shaped, PyData.canLay0, PyData.depth, PyData.eqv, h]
end Mn

namespace Mn
open PySem PySem.Spec PyProof.Rows L2
/-! ### x.remove(e) -/
section
variable {K : PySem.W.Frag} {mg : Str → Option Value} {W W' H H' B : Hp} {vs : List (Option V)} {cs : List (Option Cell)} {v : V} {k : Nat} {d : D} {c : Cell}
theorem OwnL.erase {P : D → V → Fp → Prop} : ∀ {l : List D} {vs : List V} {G : Fp} (j : Nat), OwnL P l vs G → ∃ G', OwnL P (l.eraseIdx j) (vs.eraseIdx j) G' ∧ ∀ b, G' b ≤ G b
  | [], _, G, j, h => by obtain ⟨rfl, h0⟩ := h; exact ⟨G, by simp; exact ⟨rfl, h0⟩, fun _ => Nat.le_refl _⟩
  | _ :: _, _, G, 0, h => by
    obtain ⟨v, r, F, G1, rfl, h1, h2, h3⟩ := h
    exact ⟨G1, h2, fun b => by have := h3 b; omega⟩
  | _ :: _, _, G, j + 1, h => by
    obtain ⟨v, r, F, G1, rfl, h1, h2, h3⟩ := h
    obtain ⟨G2, p, q⟩ := OwnL.erase j h2
    exact ⟨_, ⟨v, _, F, G2, rfl, h1, p, fun _ => rfl⟩, fun b => by have := h3 b; have := q b; show F b + G2 b ≤ G b; omega⟩
theorem R.del (r : R K mg B W H (some v :: vs) (some c :: cs)) {i j : Nat} {l : List D} (e : cs[i]? = some (some (k + 1, .lst l))) :
    ∃ (p : Addr) (xs : List V), vs[i]? = some (some (.ref p)) ∧ H p = some (.lst xs) ∧ RepL K mg H l xs ∧ Rep K mg H c.2 v ∧ R K mg B W (L2.upd H p (.lst (xs.eraseIdx j))) vs (cs.set i (some (k + 1, .lst (l.eraseIdx j)))) := by
  obtain ⟨T, ⟨Fh, Gt, ⟨hv, ehv, hown⟩, hcells, hsum⟩, hT⟩ := r.ex
  cases ehv
  obtain ⟨ov, F1, G, ev, ⟨u, eu, ho⟩, hs, put⟩ := hcells.focus e
  obtain ⟨p, xs, G1, rfl, h1, h2, h3⟩ := ho
  obtain ⟨G2, e2, le2⟩ := OwnL.erase j h2
  have tot : ∀ b, T b = Fh b + ((if b = p then 1 else 0) + G1 b + G b) := fun b => by have := hsum b; have := hs b; have := h3 b; omega
  have hp : G p = 0 ∧ G1 p = 0 ∧ Fh p = 0 := by have := tot p; have := (hT p).1; rw [if_pos rfl] at *; omega
  have up : ∀ {a : Addr} {o : HO}, a ≠ p → L2.upd H p o a = H a := fun h => upd_ne h
  have c' := put W (L2.upd H p (.lst (xs.eraseIdx j))) (some (.ref p)) (some (k + 1, .lst (l.eraseIdx j))) (fun b => (if b = p then 1 else 0) + G2 b) (Same.refl W) (fun a ha => up fun z => by subst z; omega)
    ⟨.ref p, rfl, p, xs.eraseIdx j, _, rfl, upd_same, e2.imp fun d _ v F hF hO => Own.mono (Same.refl W) k d v F hO fun a ha => up fun z => by subst z; have := hF a; have := le2 a; omega, fun b => rfl⟩
  subst eu
  rw [set_self ev] at c'
  have nW : ∀ {b : Addr} {o : HO}, W b = some o → b ≠ p := fun {b o} q z => by
    subst z
    have := ((hT b).2 (by have := tot b; rw [if_pos rfl] at this; omega)).1
    rw [q] at this; cases this
  have nB : ∀ {b : Addr} {o : HO}, B b = some o → b ≠ p := fun {b o} q z => by
    subst z
    have := ((hT b).2 (by have := tot b; rw [if_pos rfl] at this; omega)).2
    rw [q] at this; cases this
  refine ⟨p, xs, ev, h1, h2.toRep fun d _ v F _ hO => Own.rep r.sw k d v F hO fun _ _ => rfl, Own.rep r.sw _ _ _ _ hown fun _ _ => rfl,
    fun b o q => by rw [up (nW q)]; exact r.sw b o q, fun b o q => by rw [up (nB q)]; exact r.sb b o q, _, c', fun b => ?_⟩
  have := tot b
  have := (hT b).1
  have := le2 b
  exact ⟨by show (if b = p then 1 else 0) + G2 b + G b ≤ 1; omega, fun hb => (hT b).2 (by have : (if b = p then 1 else 0) + G2 b + G b ≠ 0 := hb; omega)⟩
end
section
variable {X : Cx}
def rRemD (K : PySem.W.Frag) : V → List V → Hp → VK → Prop := fun x vs H Q => ∃ (l : Addr) (xs : List V) (y : V) (ps : List PyData) (p : PyData) (j : Nat), x = .ref l ∧ vs = [y] ∧ H l = some (.lst xs) ∧ DpAll K H xs ps ∧ Dp K H y p ∧
  SeqAt.shaped (.list ps) = true ∧ SeqAt.shaped p = true ∧ SeqAt.dataPlace ps p = some j ∧ Q .non (L2.upd H l (.lst (xs.eraseIdx j)))
theorem mt_removeD (hu : X.A.units + 65 < cLine) : MtM X "list.remove" (rRemD X.K) := by
  intro pins s σ H x vs v us Q I rx rv h
  obtain ⟨l, xs, y, ps, p, j, rfl, rfl, hH, hx, hy, sl, sp, hj, q⟩ := h
  cases rx
  obtain ⟨u, rfl, ru⟩ := rv.one
  obtain ⟨z, its, n, r, hl, e⟩ := I.lstM hH
  obtain ⟨bs, r1⟩ := Dp.reads I p y u hy ru
  obtain ⟨as, r2⟩ := Dp.readsAll I ps _ its hx r
  have hxs : PyData.canLayAll0 ps = true := SeqAt.canLay_of_shaped sl
  refine SeqAt.remove_list_data (vs := its.toArray) (x := u) (j := j) ⟨_, e, rfl, n, rfl⟩ r2 r1 (PyData.plainAll_of_canLay0 _ hxs) (PyData.plain_of_canLay0 _ (SeqAt.canLay_of_shaped sp)) (room_in_shaped sp hu) hj (by rw [List.size_toArray]; omega) ?_
  refine ⟨.non, _, I.lset (its' := its.eraseIdx j) (t' := s.toks) hH e (by simp) (r.eraseIdx j) (Nat.le_trans (len_erase _ _) z), rfl, q⟩
end
/-- the first equal one is taken out -/
def dRemAt (l : List D) (d : D) : Option Nat := match toPL l, toP d with
  | some ps, some p => if SeqAt.shaped p && SeqAt.shaped (.list ps) then SeqAt.dataPlace ps p else none
  | _, _ => none
def sRem0 (i : Nat) (x : Env → Option (Cell × Env)) : Env → Option Out := fun ρ => match pVar i ρ, x ρ with
  | some (.lst _), some (c, ρ1) => (match ρ1[i]? with
    | some (some (k + 1, .lst l)) => (match dRemAt l c.2 with
      | some j => some (.nx (ρ1.set i (some (k + 1, .lst (l.eraseIdx j)))))
      | none => none)
    | _ => none)
  | _, _ => none
section
variable {X : Cx} {a e : Expr} {pos : Pos} {i : Nat} {x : Env → Option (Cell × Env)} {pr : List Nat}
theorem s_rem0 {apos cpos : Pos} (hu : X.A.units + 65 < cLine) (ho : PE X a (tVar i)) (he : PE X e (gS X x))
    (hbase : attributeBase a "remove" X.env (eval a X.env) = eval a X.env := by rfl)
    (hfew : ((backTo cpos (starEach [e] X.env)).all (fun x => !x.1) && (backToKw cpos (keywordEach [] X.env)).all (fun x => x.1.isSome)
      && decide ([e].length + ([] : List Keyword).length + (if ([] : List Keyword).isEmpty then 0 else 1) < 30)) = true := by rfl)
    (hline : (apos.endLine == cpos.line) = true := by rfl) (hs : starEach [e] X.env = (false, eval e X.env) :: starEach [] X.env := by rfl) (hplain : (backTo cpos (starEach [] X.env)).any (·.1) = false := by rfl)
    (hsw : swapsWith (.Call (.Attribute a "remove" apos) [e] [] cpos) none pos.line X.env = pure false := by rfl) :
    PS X (.Expr (.Call (.Attribute a "remove" apos) [e] [] cpos) pos) (sS X pr (sRem0 i x)) :=
  PSi (ps_expr (pe_bm PySem.F.plainAttrs_list PySem.F.slot_list_remove PySem.F.type_list_remove (mt_removeD hu) ho (pa_cons he pa_nil hs) hbase hfew hline hs hplain) hsw) fun Dn σ H ⟨B, W, ρ, o, r, em, q⟩ => by
    unfold sRem0 at em
    split at em
    · rename_i l0 c ρ1 ev0 ex
      split at em
      · rename_i k l ec
        split at em
        · rename_i j hj
          cases em
          have s0 : Sta X σ H ρ := ⟨B, W, [], [], r, rfl⟩
          obtain ⟨v0, ev, a0, xs0, e0, h0, _⟩ := s0.var ev0
          refine ⟨v0, ev, ?_, B, W, [], [], ρ, c, ρ1, r, rfl, ex, fun W1 H1 v g1 r1 => ?_⟩
          · rw [e0]; exact .inl ⟨rfl, xs0, h0.sq⟩
          · obtain ⟨p, xs, ev1, hp, hl, hc, r2⟩ := R.del (j := j) r1 (i := i) ec
            have ev2 : σ[i]? = some (some (.ref p)) := ev1
            rw [ev] at ev2; cases ev2
            unfold dRemAt at hj
            split at hj
            · rename_i ps pp eps ep
              split at hj
              · rename_i hsh
                rw [Bool.and_eq_true] at hsh
                exact ⟨p, xs, v, ps, pp, j, rfl, rfl, hp, RepL.dp _ _ _ hl eps, Rep.dp _ _ _ hc ep, hsh.2, hsh.1, hj, q W1 _ σ g1 r2 Pr.refl⟩
              · cases hj
            · cases hj
        · cases em
      · cases em
    · cases em
end
end Mn

namespace Mn
open PySem PySem.Spec PyProof.Rows L2
/-! ### what is owned is looked at, and stays owned: all frozen for a while -/
/-- nothing below is shared -/
def D.full : Nat → D → Bool
  | 0, d => d.sc
  | k + 1, .lst l => l.all (D.full k)
  | k + 1, .tup l => l.all (D.full k)
  | _ + 1, .dct _ => false
  | _ + 1, _ => true
section
variable {K : PySem.W.Frag} {mg : Str → Option Value} {W W' H H' B : Hp} {vs : List (Option V)} {cs : List (Option Cell)} {v : V} {k : Nat} {d : D} {c : Cell}
theorem Own.full : ∀ (k : Nat) (d : D) (v : V) (F : Fp), D.full k d = true → Own K mg W' H k d v F → Own K mg W H k d v F
  | 0, d, v, F, hf, h => ⟨Rep.scalar hf h.1, h.2⟩
  | k + 1, .lst l, v, F, hf, h => by
    obtain ⟨a, vs, G, e1, h1, h2, h3⟩ := h
    simp only [D.full, List.all_eq_true] at hf
    exact ⟨a, vs, G, e1, h1, h2.imp fun d hd v F' _ hO => Own.full k d v F' (hf d hd) hO, h3⟩
  | k + 1, .tup l, v, F, hf, h => by
    obtain ⟨a, vs, G, e1, h1, h2, h3⟩ := h
    simp only [D.full, List.all_eq_true] at hf
    exact ⟨a, vs, G, e1, h1, h2.imp fun d hd v F' _ hO => Own.full k d v F' (hf d hd) hO, h3⟩
  | _ + 1, .dct _, _, _, hf, _ => by simp [D.full] at hf
  | _ + 1, .non, _, _, _, h => h
  | _ + 1, .bl _, _, _, _, h => h
  | _ + 1, .int _, _, _, _, h => h
  | _ + 1, .str _, _, _, _, h => h
  | _ + 1, .gl _, _, _, _, h => h
theorem R.drops : ∀ {ts : List (Option V)} {tc : List (Option Cell)}, ts.length = tc.length → R K mg B W H (ts ++ vs) (tc ++ cs) → R K mg B W H vs cs
  | [], [], _, r => r
  | _ :: _, _ :: _, h, r => R.drops (by simpa using h) (R.drop r)
  | [], _ :: _, h, _ => by simp at h
  | _ :: _, [], h, _ => by simp at h
def low (ρ : Env) : Env := ρ.map fun oc => oc.map fun c => (0, c.2)
theorem Cells.low (sw : Same W H) : ∀ {vs : List (Option V)} {cs : List (Option Cell)} {T : Fp}, Cells K mg W H vs cs T → Cells K mg H H vs (Mn.low cs) (fun _ => 0)
  | [], [], _, _ => fun _ => rfl
  | v :: vs, c :: cs, T, h => by
    obtain ⟨F, G, h1, h2, h3⟩ := h
    refine ⟨fun _ => 0, fun _ => 0, ?_, Cells.low sw h2, fun _ => rfl⟩
    cases c with
    | none => exact fun _ => rfl
    | some c =>
      obtain ⟨u, eu, ho⟩ := h1
      exact ⟨u, eu, Own.rep sw _ _ _ _ ho fun _ _ => rfl, fun _ => rfl⟩
  | [], _ :: _, _, h => h.elim
  | _ :: _, [], _, h => h.elim
theorem R.low (r : R K mg B W H vs cs) : R K mg H H H vs (Mn.low cs) := by
  obtain ⟨T, h, hT⟩ := r.ex
  exact ⟨Same.refl H, Same.refl H, _, Cells.low r.sw h, fun b => ⟨Nat.zero_le _, fun hb => (hb rfl).elim⟩⟩
/-- .. and back -/
theorem R.unlow {ρ1 : Env} {σ : List (Option V)} (r : R K mg B W H vs cs) (r' : R K mg H W' H' (some v :: σ) (some c :: ρ1)) (hf : D.full c.1 c.2 = true) : R K mg B W H' (some v :: vs) (some c :: cs) := by
  have sm : Same H H' := r'.sb
  obtain ⟨T, hc, hT⟩ := r.ex
  obtain ⟨T', ⟨F, G, ⟨u, eu, ho⟩, h2, h3⟩, hT'⟩ := r'.ex
  cases eu
  have hF : ∀ b, F b ≠ 0 → H b = none := fun b hb => ((hT' b).2 (by have := h3 b; omega)).2
  refine ⟨r.sw.trans sm, r.sb.trans sm, fun b => F b + T b, ⟨F, T, ⟨v, rfl, Own.full _ _ _ _ hf ho⟩, hc.mono (Same.refl W) (fun a ha => ?_), fun _ => rfl⟩, fun b => ?_⟩
  · cases z : H a with
    | none => exact absurd z (hc.there a ha)
    | some o => exact sm a o z
  · by_cases z : F b = 0
    · exact ⟨by have := (hT b).1; show F b + T b ≤ 1; omega, fun hb => (hT b).2 (by have : F b + T b ≠ 0 := hb; omega)⟩
    · have hn := hF b z
      have t0 : T b = 0 := by
        by_cases q : T b = 0
        · exact q
        · exact absurd hn (hc.there b q)
      refine ⟨by have := (hT' b).1; have := h3 b; show F b + T b ≤ 1; omega, fun _ => ⟨?_, ?_⟩⟩
      · cases q : W b with
        | none => rfl
        | some o => have := r.sw b o q; rw [hn] at this; cases this
      · cases q : B b with
        | none => rfl
        | some o => have := r.sb b o q; rw [hn] at this; cases this
theorem R.unlow0 {ρ1 : Env} {σ : List (Option V)} (r : R K mg B W H vs cs) (r' : R K mg H W' H' σ ρ1) : R K mg B W H' vs cs := by
  have sm : Same H H' := r'.sb
  obtain ⟨T, hc, hT⟩ := r.ex
  refine ⟨r.sw.trans sm, r.sb.trans sm, T, hc.mono (Same.refl W) (fun a ha => ?_), hT⟩
  cases z : H a with
  | none => exact absurd z (hc.there a ha)
  | some o => exact sm a o z
/-- a slot's value joins those that are held, in front -/
theorem RL.late {ds : List D} {xs : List V} (r : RL K mg B W H k ds xs vs cs) {i : Nat} (e : cs[i]? = some (some c)) (hf : fit k c = true) :
    ∃ (v : V) (W' : Hp), vs[i]? = some (some v) ∧ Gr B W W' ∧ RL K mg B W' H k (c.2 :: ds) (v :: xs) vs (cs.set i none) := by
  obtain ⟨T, G, hc, ho, hT⟩ := r.ex
  obtain ⟨ov, F, G0, ev, ⟨u, eu, hown⟩, h3, put⟩ := hc.focus e
  unfold fit at hf
  rw [Bool.or_eq_true] at hf
  obtain ⟨F', le, W', s1, gr, hW, hO⟩ : ∃ (F' : Fp), (∀ b, F' b ≤ F b) ∧ ∃ W' : Hp, Same W W' ∧ Gr B W W' ∧ (∀ b, F b = F' b → W' b = W b) ∧ Own K mg W' H k c.2 u F' ∧ Same W' H := by
    rcases hf with hf | hf
    · obtain ⟨F', g1, g2⟩ := Own.down k c.1 c.2 u F (of_decide_eq_true hf) (fun b => by have := (hT b).1; have := h3 b; omega) hown
      let M : Fp := fun b => if F' b = 0 then F b else 0
      have hM : ∀ b, M b ≠ 0 → F b ≠ 0 ∧ F' b = 0 := fun b hb => by
        by_cases z : F' b = 0
        · exact ⟨by have : M b = F b := if_pos z; omega, z⟩
        · exact (hb (if_neg z)).elim
      have s1 : Same W (fz W H M) := fz_same fun b hb => ((hT b).2 (by have := hM b hb; have := h3 b; omega)).1
      refine ⟨F', g1, fz W H M, s1, ⟨s1, fun a e1 n1 => ?_⟩, fun b hb => ?_, g2 _ s1 fun a ha hz => fz_of (by show (if F' a = 0 then F a else 0) ≠ 0; rw [if_pos hz]; exact ha), fz_in r.sw⟩
      · by_cases z : M a = 0
        · rw [fz_no z] at n1; exact (n1 e1).elim
        · exact ((hT a).2 (by have := hM a z; have := h3 a; omega)).2
      · refine fz_no ?_
        by_cases z : M b = 0
        · exact z
        · have := hM b z; omega
    · exact ⟨F, fun _ => Nat.le_refl _, W, Same.refl W, Gr.refl B W, fun _ _ => rfl, Own.scal hf hown, r.sw⟩
  have p := put W' H ov none (fun _ => 0) s1 (fun _ _ => rfl) fun _ => rfl
  rw [set_self ev] at p
  refine ⟨u, W', by rw [ev, eu], gr, hO.2, r.sb, _, fun b => F' b + G b, p, ⟨u, xs, F', G, rfl, hO.1, ho.imp fun d _ v F _ h => Own.mono s1 k d v F h fun _ _ => rfl, fun _ => rfl⟩, fun b => ⟨?_, fun hb => ?_⟩⟩
  · have := (hT b).1; have := h3 b; have := le b; show 0 + G0 b + (F' b + G b) ≤ 1; omega
  · have hb' : 0 + G0 b + (F' b + G b) ≠ 0 := hb
    have q := (hT b).2 (by have := h3 b; have := le b; omega)
    rw [hW b (by have := (hT b).1; have := h3 b; have := le b; omega)]
    exact q
end
def mThaw (m : Env → Option (Cell × Env)) : Env → Option (Cell × Env) := fun ρ => match m (low ρ) with
  | some (c, _) => if D.full c.1 c.2 then some (c, ρ) else none
  | none => none
def mtThaw (m : Env → Option (Bool × Env)) : Env → Option (Bool × Env) := fun ρ => match m (low ρ) with
  | some (b, _) => some (b, ρ)
  | none => none
def mConsL (k : Nat) (i : Nat) (ms : Env → Option (List D × Env)) : Env → Option (List D × Env) := fun ρ => match ρ[i]? with
  | some (some _) => (match ms ρ with
    | some (ds, ρ1) => (match ρ1[i]? with
      | some (some c) => if fit k c then some (c.2 :: ds, ρ1.set i none) else none
      | _ => none)
    | none => none)
  | _ => none
section
variable {X : Cx} {a e : Expr} {es : List Expr} {m : Env → Option (Cell × Env)} {t : Env → Option (Bool × Env)} {ms : Env → Option (List D × Env)} {pos : Pos} {k i : Nat}
theorem thaw_imp {σ : L2.St} {H : Hp} {Q : VK} (h : gS X (mThaw m) σ H Q) : gS X m σ H Q := by
  obtain ⟨B, W, ts, tc, ρ, cl, ρ', r, hl, em, q⟩ := h
  unfold mThaw at em
  split at em
  · rename_i c ρ1 e1
    split at em
    · rename_i hf
      cases em
      exact ⟨H, H, [], [], low ρ, _, ρ1, R.low (R.drops hl r), rfl, e1, fun W' H' v g' r' => q W H' v (Gr.refl B W) (R.unlow r r' hf)⟩
    · cases em
  · cases em
theorem g_thaw (h : PE X e (gS X m)) : PE X e (gS X (mThaw m)) := PEi h fun σ H Q h => thaw_imp h
theorem gt_thaw (h : PT X e (gT X t)) : PT X e (gT X (mtThaw t)) := PTi h fun σ H Q ⟨B, W, ts, tc, ρ, cl, ρ', r, hl, em, q⟩ => by
  unfold mtThaw at em
  split at em
  · rename_i c ρ1 e1
    cases em
    exact ⟨H, H, [], [], low ρ, _, ρ1, R.low (R.drops hl r), rfl, e1, fun W' H' g' r' => q W H' (Gr.refl B W) (R.unlow0 r r')⟩
  · cases em
theorem g_aconsL (ha : PE X a (tVar i)) (hr : PA X es (gA X k ms)) (hs : starEach (a :: es) X.env = (false, eval a X.env) :: starEach es X.env := by rfl) : PA X (a :: es) (gA X k (mConsL k i ms)) :=
  PAi (pa_cons ha hr hs) fun σ H Q ⟨B, W, ts, tc, ρ, ds, ρ', r, hl, e, q⟩ => by
    unfold mConsL at e
    split at e
    · rename_i c0 ec0
      split at e
      · rename_i ds' ρ1 ems
        split at e
        · rename_i c ec
          split at e
          · rename_i hf
            cases e
            obtain ⟨v, ev, _⟩ := r.rep (i := tc.length + i) (c := c0) (by rw [get_app]; exact ec0)
            rw [← hl, get_app] at ev
            refine ⟨v, ev, B, W, ts, tc, ρ, ds', ρ1, r, hl, ems, fun W1 H1 vs g1 r1 => ?_⟩
            obtain ⟨v', W2, ev', g2, r2⟩ := RL.late r1 (i := tc.length + i) (c := c) (by rw [get_app]; exact ec) hf
            rw [← hl, get_app, ev] at ev'
            cases ev'
            have e3 : (tc ++ ρ1).set (tc.length + i) none = tc ++ ρ1.set i none := by
              rw [List.set_append_right _ _ (Nat.le_add_right _ _)]
              simp
            rw [e3] at r2
            exact q W2 H1 (v :: vs) (g1.trans g2) r2
          · cases e
        · cases e
      · cases e
    · cases e
end
section
variable {X : Cx} {pr js : List Nat} {tgt iter e a b : Expr} {sts : List Stmt} {it : Env → Option (List D × Env)} {tg : D → Env → Option Env} {pos : Pos}
/-- y = [..] on one line, of what is owned and stays so -/
theorem s_setComp0T {kc i : Nat} {y : Str} {py spos : Pos} {elt tgt iter : Expr} {scope : Scope} {own : List (Str × Nat)} {x : Env → Option (Cell × Env)} (hc : X.calm = true) (hN : X.N.Nodup) (hy : X.N[i]? = some y) (hyl : X.env.scope.names.lookup y = some .local) (hp : i ∉ pr)
    (hsw : swapsWith (.ListComp elt [⟨tgt, iter, [], 0⟩] scope pos) (some (.Name y py)) spos.line X.env = pure true) (hi : PI X tgt iter (gI X it)) (ok : BlkOk X.N X.env.scope scope own)
    (hg : ∀ (s : Shared) (H : Hp) (C : Addr) (cl : List (Str × Addr)) (fp : List Addr), PG (X.blk s H scope (compEnvC scope cl C X.env) fp) tgt (tgS X js tg))
    (he : ∀ (s : Shared) (H : Hp) (C : Addr) (cl : List (Str × Addr)) (fp : List Addr), PE (X.blk s H scope (compEnvC scope cl C X.env) fp) elt (gS X x)) (hjs : ∀ j ∈ js, j ∈ own.map (·.2)) (hs : ∀ x, foldedSetIterable iter X.env x = pure x := by intro _; rfl) :
    PS X (.Assign [.Name y py] (.ListComp elt [⟨tgt, iter, [], 0⟩] scope pos) spos) (sS X pr (sAsg i (mFz (mThaw (mComp kc it tg tYesM x (own.map (·.2))))))) :=
  PSi (ps_setLc hc hN hy hyl hsw hi ok hg (fun _ _ _ _ _ => pts_nil) he hs) fun Dn σ H h => comp_imp (fun _ _ _ h => h) (fun _ _ _ _ h => h) (fun _ _ _ h => yes_imp h) (fun _ _ _ h => h) hjs (thaw_imp (fz_imp (asg_imp hp h)))
theorem s_setCompIf0T {kc i : Nat} {y : Str} {py spos : Pos} {elt tgt iter cond : Expr} {scope : Scope} {own : List (Str × Nat)} {x : Env → Option (Cell × Env)} {t : Env → Option (Bool × Env)} (hc : X.calm = true) (hN : X.N.Nodup) (hy : X.N[i]? = some y) (hyl : X.env.scope.names.lookup y = some .local) (hp : i ∉ pr)
    (hsw : swapsWith (.ListComp elt [⟨tgt, iter, [cond], 0⟩] scope pos) (some (.Name y py)) spos.line X.env = pure true) (hi : PI X tgt iter (gI X it)) (ok : BlkOk X.N X.env.scope scope own)
    (hg : ∀ (s : Shared) (H : Hp) (C : Addr) (cl : List (Str × Addr)) (fp : List Addr), PG (X.blk s H scope (compEnvC scope cl C X.env) fp) tgt (tgS X js tg))
    (ht : ∀ (s : Shared) (H : Hp) (C : Addr) (cl : List (Str × Addr)) (fp : List Addr), PT (X.blk s H scope (compEnvC scope cl C X.env) fp) cond (gT X t))
    (he : ∀ (s : Shared) (H : Hp) (C : Addr) (cl : List (Str × Addr)) (fp : List Addr), PE (X.blk s H scope (compEnvC scope cl C X.env) fp) elt (gS X x)) (hjs : ∀ j ∈ js, j ∈ own.map (·.2)) (hs : ∀ x, foldedSetIterable iter X.env x = pure x := by intro _; rfl) :
    PS X (.Assign [.Name y py] (.ListComp elt [⟨tgt, iter, [cond], 0⟩] scope pos) spos) (sS X pr (sAsg i (mFz (mThaw (mComp kc it tg t x (own.map (·.2))))))) :=
  PSi (ps_setLc hc hN hy hyl hsw hi ok hg (fun s H C cl fp => pts_one (ht s H C cl fp)) he hs) fun Dn σ H h => comp_imp (fun _ _ _ h => h) (fun _ _ _ _ h => h) (fun _ _ _ h => h) (fun _ _ _ h => h) hjs (thaw_imp (fz_imp (asg_imp hp h)))
end
section
variable {ρ : Mn.Env} {m : Mn.Env → Option (Cell × Mn.Env)} {t : Mn.Env → Option (Bool × Mn.Env)} {ms : Mn.Env → Option (List D × Mn.Env)} {i k : Nat}
@[simp] theorem e_mThaw : mThaw m ρ = (match m (low ρ) with | some (c, _) => if D.full c.1 c.2 then some (c, ρ) else none | none => none) := rfl
@[simp] theorem e_mtThaw : mtThaw t ρ = (match t (low ρ) with | some (b, _) => some (b, ρ) | none => none) := rfl
@[simp] theorem e_low0 : low [] = [] := rfl
@[simp] theorem e_low1 {c : Cell} {r : Mn.Env} : low (some c :: r) = some (0, c.2) :: low r := rfl
@[simp] theorem e_low2 {r : Mn.Env} : low (none :: r) = none :: low r := rfl
@[simp] theorem e_mConsL : mConsL k i ms ρ = (match ρ[i]? with
  | some (some _) => (match ms ρ with
    | some (ds, ρ1) => (match ρ1[i]? with
      | some (some c) => if fit k c then some (c.2 :: ds, ρ1.set i none) else none
      | _ => none)
    | none => none)
  | _ => none) := rfl
@[simp] theorem e_full0 {d : D} : D.full 0 d = d.sc := rfl
@[simp] theorem e_fullI {i : Int} : D.full k (.int i) = true := by cases k <;> rfl
@[simp] theorem e_fullB {b : Bool} : D.full k (.bl b) = true := by cases k <;> rfl
@[simp] theorem e_fullN : D.full k .non = true := by cases k <;> rfl
@[simp] theorem e_fullS {x : Str} : D.full k (.str x) = true := by cases k <;> rfl
@[simp] theorem e_fullL {l : List D} : D.full (k + 1) (.lst l) = l.all (D.full k) := rfl
@[simp] theorem e_fullT {l : List D} : D.full (k + 1) (.tup l) = l.all (D.full k) := rfl
end
end Mn

namespace Mn
open PySem PySem.Spec PyProof.Rows L2
/-! ### repr of trees of numbers, lists and tuples -/
theorem join_up : ∀ (ts : List Str) (N : Nat), (∀ t ∈ ts, t.length ≤ N) → (Str.join ", " ts).length ≤ ts.length * (N + 2)
  | [], N, _ => by show (Str.join ", " ([] : List Str)).length ≤ _; exact Nat.zero_le _
  | [x], N, h => by
    have := h x (by simp)
    show x.length ≤ _
    simp
    omega
  | x :: y :: r, N, h => by
    have ih := join_up (y :: r) N fun t ht => h t (List.mem_cons_of_mem _ ht)
    have hx := h x (by simp)
    show (x ++ ", " ++ Str.join ", " (y :: r)).length ≤ _
    have e2 : ((", " : String) : Str).length = 2 := rfl
    rw [strLen_append, strLen_append, e2, List.length_cons, Nat.succ_mul]
    generalize (y :: r).length * (N + 2) = z at *
    omega
theorem join_ok : ∀ ts : List Str, (∀ t ∈ ts, PyData.strOk t = true) → PyData.strOk (Str.join ", " ts) = true
  | [], _ => strOk_ofString ""
  | [x], h => h x (by simp)
  | x :: y :: r, h => by
    show PyData.strOk (x ++ ", " ++ Str.join ", " (y :: r)) = true
    exact strOk_append (strOk_append (h x (by simp)) (strOk_ofString _)) (join_ok (y :: r) fun t ht => h t (List.mem_cons_of_mem _ ht))
theorem ShB.tuple {ps : List PyData} {N : Nat} (h : ∀ p ∈ ps, ShB p N) : ShB (.tuple ps) (3 + ps.length * (N + 2)) := by
  refine ⟨by simp only [PyData.showable]; exact showableAll_of fun p hp => (h p hp).1, by simp only [PyData.hasDict]; exact hasDictAll_of fun p hp => (h p hp).2.1, ?_, by
    simp only [PyData.shown]
    unfold tupleText
    refine strOk_append (strOk_append (strOk_ofString "(") (join_ok _ fun t ht => ?_)) (by split <;> exact strOk_ofString _)
    obtain ⟨p, hp, rfl⟩ := shownAll_mem ht
    exact (h p hp).2.2.2⟩
  simp only [PyData.shown]
  unfold tupleText
  have := join_up (PyData.shownAll ps) N fun t ht => by
    obtain ⟨p, hp, rfl⟩ := shownAll_mem ht
    exact (h p hp).2.2.1
  rw [shownAll_length] at this
  rw [strLen_append, strLen_append]
  have e1 : ((("(" : String) : Str)).length = 1 := rfl
  have e2 : (if (PyData.shownAll ps).length == 1 then (",)" : String) else ")" : String).length ≤ 2 := by split <;> decide
  have e3 : ((if (PyData.shownAll ps).length == 1 then ",)" else ")" : String) : Str).length ≤ 2 := by split <;> exact (by decide)
  rw [e1]
  generalize ps.length * (N + 2) = z at *
  omega
/-- numbers below 2^k, at most 8 of them in a list, at most n deep -/
def Rok (k : Nat) : Nat → D → Prop
  | _, .int i => i.natAbs < 2 ^ k
  | n + 1, .lst l => l.length ≤ 8 ∧ ∀ d ∈ l, Rok k n d
  | n + 1, .tup l => l.length ≤ 8 ∧ ∀ d ∈ l, Rok k n d
  | _, _ => False
def rsz (k : Nat) : Nat → Nat
  | 0 => k + 1
  | n + 1 => 3 + 8 * (rsz k n + 2)
theorem rsz_le (k n : Nat) : k + 1 ≤ rsz k n := by
  induction n with
  | zero => exact Nat.le_refl _
  | succ n ih => unfold rsz; omega
theorem Rok.ok {k : Nat} (hk : 0 < k) (hk2 : k ≤ 1920) : ∀ (n : Nat) (d : D), Rok k n d → ∃ p, toP d = some p ∧ ShB p (rsz k n) ∧ p.depth ≤ n ∧ p.canLay0 = true := by
  intro n
  induction n with
  | zero =>
    intro d h
    cases d with
    | int i => exact ⟨.int i, rfl, ShB.int h hk hk2, by simp [PyData.depth], by simp [PyData.canLay0]⟩
    | _ => exact h.elim
  | succ n ih =>
    have key : ∀ l : List D, (∀ d ∈ l, Rok k n d) → ∃ ps, toPL l = some ps ∧ ps.length = l.length ∧ (∀ p ∈ ps, ShB p (rsz k n)) ∧ PyData.depthAll ps ≤ n ∧ PyData.canLayAll0 ps = true := by
      intro l
      induction l with
      | nil => exact fun _ => ⟨[], rfl, rfl, by simp, by simp [PyData.depthAll], by simp [PyData.canLayAll0]⟩
      | cons d ds ihl =>
        intro h
        obtain ⟨p, e, h1, h2, h3⟩ := ih d (h d (by simp))
        obtain ⟨ps, es, g0, g1, g2, g3⟩ := ihl fun x hx => h x (by simp [hx])
        refine ⟨p :: ps, by simp [toPL, e, es], by simp [g0], ?_, ?_, by simp [PyData.canLayAll0, h3, g3]⟩
        · intro q hq
          rcases List.mem_cons.mp hq with rfl | hq
          · exact h1
          · exact g1 q hq
        · simp only [PyData.depthAll]
          omega
    intro d h
    cases d with
    | int i =>
      refine ⟨.int i, rfl, (ShB.int (i := i) (k := k) h hk hk2).up (rsz_le k (n + 1)), by simp [PyData.depth], by simp [PyData.canLay0]⟩
    | lst l =>
      obtain ⟨ps, e, g0, g1, g2, g3⟩ := key l h.2
      have h8 := h.1
      refine ⟨.list ps, by simp [toP, e], (ShB.list g1).up ?_, by simp only [PyData.depth]; omega, by simp [PyData.canLay0, g3]⟩
      have : ps.length * (rsz k n + 2) ≤ 8 * (rsz k n + 2) := Nat.mul_le_mul_right _ (by omega)
      show 2 + ps.length * (rsz k n + 2) ≤ 3 + 8 * (rsz k n + 2)
      omega
    | tup l =>
      obtain ⟨ps, e, g0, g1, g2, g3⟩ := key l h.2
      have h8 := h.1
      refine ⟨.tuple ps, by simp [toP, e], (ShB.tuple g1).up ?_, by simp only [PyData.depth]; omega, by simp [PyData.canLay0, g3]⟩
      have : ps.length * (rsz k n + 2) ≤ 8 * (rsz k n + 2) := Nat.mul_le_mul_right _ (by omega)
      show 3 + ps.length * (rsz k n + 2) ≤ 3 + 8 * (rsz k n + 2)
      omega
    | _ => exact h.elim
noncomputable def rpD (d : D) : Str := match toP d with
  | some p => p.shown
  | none => ""
theorem repr_Rok {k n : Nat} {d : D} (hk : 0 < k) (hk2 : k ≤ 1920) (hn : n ≤ 4) (h : Rok k n d) : dRepr [d] = some (.str (rpD d)) ∧ PyData.strOk (rpD d) = true := by
  obtain ⟨p, e, h1, h2, h3⟩ := Rok.ok hk hk2 n d h
  have hs : rsz k n ≤ 16777216 := by
    have : rsz k n ≤ rsz k 4 := by
      rcases (show n = 0 ∨ n = 1 ∨ n = 2 ∨ n = 3 ∨ n = 4 by omega) with rfl | rfl | rfl | rfl | rfl <;> simp [rsz] <;> omega
    refine Nat.le_trans this ?_
    simp only [rsz]
    omega
  have ho := okRepr_of h1 hs (by omega)
  have er : rpD d = p.shown := by unfold rpD; rw [e]
  rw [er]
  refine ⟨?_, h1.2.2.2⟩
  simp only [dRepr, e, ho, if_true]
theorem eqv_self_of : ∀ p : PyData, p.canLay0 = true → PyData.eqv p p = true := fun p h =>
  SeqAt.eqv_refl_plain p (PyData.plain_of_canLay0 p h)
/-- equal trees are == -/
theorem eq_Rok {k n : Nat} {d : D} (hk : 0 < k) (hk2 : k ≤ 1920) (hn : n ≤ 4) (h : Rok k n d) : dEq d d = some (.bl true) ∧ dNe d d = some (.bl false) := by
  obtain ⟨p, e, h1, h2, h3⟩ := Rok.ok hk hk2 n d h
  have hs : SeqAt.shaped p = true := by
    unfold SeqAt.shaped
    rw [h3, Bool.true_and]
    exact decide_eq_true (by omega)
  have hq := eqv_self_of p h3
  simp [dEq, dNe, e, hs, hq]
end Mn

namespace Mn
open PySem PySem.Spec PyProof.Rows L2
/-! ### comprehensions over squares -/
theorem over_any (kc n : Nat) (f : Nat → Nat → Int) (hkc : kc ≤ 1) (h1 : 1 ≤ n) (h2 : n ≤ 1000) :
    mComp kc (iRange (mCons 0 (mP (pCall dLen (pCons (pBin dIx (pVar 0) (pC (.int 0))) pNil))) mNil)) (tName 1) tYesM (mComp 0 (iSeq (mO (oVar 0))) (tName 2) tYesM (mO (oIx (oVar 2) (pVar 1))) [2]) [1]
      [some (0, .lst ((mat n f).map fun r => .lst (r.map D.int))), none, none] = some ((kc + 1, .lst ((mat n fun i j => f j i).map fun r => .lst (r.map D.int))), [some (0, .lst ((mat n f).map fun r => .lst (r.map D.int))), none, none]) := by
  generalize hM : (D.lst ((mat n f).map fun r => .lst (r.map D.int))) = M
  have hin : ∀ j : Nat, j < n → mComp 0 (iSeq (mO (oVar 0))) (tName 2) tYesM (mO (oIx (oVar 2) (pVar 1))) [2] [some (0, M), some (0, .int j), none] = some ((1, .lst (((List.range n).map fun i => f i j).map D.int)), [some (0, M), some (0, .int j), none]) := fun j hj => by
    have hc := comp_map1 (kc := 0) (it := iSeq (mO (oVar 0))) (tg := tName 2) (x := mO (oIx (oVar 2) (pVar 1))) (own := [2])
      (ρ := [some (0, M), some (0, .int j), none]) (ρ1 := [some (0, M), some (0, .int j), none]) (ρ0 := [some (0, M), some (0, .int j), none])
      (List.range n) (fun i => .lst (((List.range n).map fun j => f i j).map D.int)) (fun i => .int (f i j)) (by simp [← hM, mat]) (by simp; omega) rfl fun i hi => ⟨[some (0, M), some (0, .int j), some (0, .lst (((List.range n).map fun j => f i j).map D.int))], rfl, rfl, 0, by
        simp [atI_nat', hj], by simp⟩
    rw [hc]
    simp
  have hout := comp_map1 (kc := kc) (it := iRange (mCons 0 (mP (pCall dLen (pCons (pBin dIx (pVar 0) (pC (.int 0))) pNil))) mNil)) (tg := tName 1) (x := mComp 0 (iSeq (mO (oVar 0))) (tName 2) tYesM (mO (oIx (oVar 2) (pVar 1))) [2]) (own := [1])
      (ρ := [some (0, M), none, none]) (ρ1 := [some (0, M), none, none]) (ρ0 := [some (0, M), none, none])
      (List.range n) (fun i => .int i) (fun j => .lst (((List.range n).map fun i => f i j).map D.int)) (by
        rw [e_rg1 (j := n) (ρ1 := [some (0, M), none, none]) (by
          have : atI (List.map (fun r => D.lst (r.map D.int)) (mat n f)) 0 = some (.lst (((List.range n).map fun j => f 0 j).map D.int)) := by
            rw [show (0 : Int) = ((0 : Nat) : Int) from rfl, atI_nat', List.getElem?_map, mat_get (by omega)]
            rfl
          simp [← hM, this]), okRng_nat (by omega), rng0]
        simp) (by simp; omega) rfl fun j hj => ⟨[some (0, M), some (0, .int j), none], rfl, rfl, 1, hin j (List.mem_range.mp hj), by simp [hkc]⟩
  rw [hout]
  simp [mat]
/-- the sum over the places below n -/
def sm (n : Nat) (g : Nat → Int) : Int := ((List.range n).map g).sum
/-- the product -/
def pr (n : Nat) (f g : Nat → Nat → Int) (i j : Nat) : Int := sm n fun k => f i k * g k j
def smallM (n k : Nat) (f : Nat → Nat → Int) : Prop := ∀ i, i < n → ∀ j, j < n → (f i j).natAbs < 2 ^ k
theorem smallM.pr {n a b : Nat} {f g : Nat → Nat → Int} (h1 : smallM n a f) (h2 : smallM n b g) (hn : n ≤ 8) : smallM n (a + b + 4) (pr n f g) := fun i hi j hj => sm_sum n (fun k hk => sm_mul (h1 i hi k hk) (h2 k hk j hj)) hn
theorem smallM.tr {n a : Nat} {f : Nat → Nat → Int} (h : smallM n a f) : smallM n a fun i j => f j i := fun i hi j hj => h j hj i hi
theorem smallM.up {n a b : Nat} {f : Nat → Nat → Int} (h : smallM n a f) (hab : a ≤ b) : smallM n b f := fun i hi j hj => sm_up (h i hi j hj) hab
/-- rows times columns, by zip(strict=True) -/
theorem prod_zs (n a b : Nat) (f g : Nat → Nat → Int) (x y : Option Cell) (hn : n ≤ 8) (hf : smallM n a f) (hg : smallM n b g) (ha : a + b ≤ 900000) :
    mComp 1 (iSeq (mO (oVar 0))) (tName 3) tYesM (mComp 0 (iSeq (mO (oVar 2))) (tName 4) tYesM (mCallF (ofN dSum) (mCons 0 (mComp 0 (iZipSM (mCons 0 (mO (oVar 3)) (mCons 0 (mO (oVar 4)) mNil))) (tTupT 2 (tsCons (tName 5) (tsCons (tName 6) tsNil))) tYesM (mP (pBin dMul (pVar 5) (pVar 6))) [5, 6]) mNil)) [4]) [3]
      [some (0, .lst ((mat n f).map fun r => .lst (r.map D.int))), x, some (0, .lst ((mat n fun i j => g j i).map fun r => .lst (r.map D.int))), none, none, none, none]
    = some ((2, .lst ((mat n (pr n f g)).map fun r => .lst (r.map D.int))), [some (0, .lst ((mat n f).map fun r => .lst (r.map D.int))), x, some (0, .lst ((mat n fun i j => g j i).map fun r => .lst (r.map D.int))), none, none, none, none]) := by
  generalize hM : (D.lst ((mat n f).map fun r => .lst (r.map D.int))) = M
  generalize hN : (D.lst ((mat n fun i j => g j i).map fun r => .lst (r.map D.int))) = N
  have h1 : ∀ i, i < n → ∀ j, j < n → mComp 0 (iZipSM (mCons 0 (mO (oVar 3)) (mCons 0 (mO (oVar 4)) mNil))) (tTupT 2 (tsCons (tName 5) (tsCons (tName 6) tsNil))) tYesM (mP (pBin dMul (pVar 5) (pVar 6))) [5, 6]
      [some (0, M), x, some (0, N), some (0, .lst (((List.range n).map fun k => f i k).map D.int)), some (0, .lst (((List.range n).map fun k => g k j).map D.int)), none, none]
      = some ((1, .lst (((List.range n).map fun k => f i k * g k j).map D.int)), [some (0, M), x, some (0, N), some (0, .lst (((List.range n).map fun k => f i k).map D.int)), some (0, .lst (((List.range n).map fun k => g k j).map D.int)), none, none]) := fun i hi j hj => by
    have hc := comp_map1 (kc := 0) (it := iZipSM (mCons 0 (mO (oVar 3)) (mCons 0 (mO (oVar 4)) mNil))) (tg := tTupT 2 (tsCons (tName 5) (tsCons (tName 6) tsNil))) (x := mP (pBin dMul (pVar 5) (pVar 6))) (own := [5, 6])
      (ρ := [some (0, M), x, some (0, N), some (0, .lst (((List.range n).map fun k => f i k).map D.int)), some (0, .lst (((List.range n).map fun k => g k j).map D.int)), none, none])
      (ρ1 := [some (0, M), x, some (0, N), some (0, .lst (((List.range n).map fun k => f i k).map D.int)), some (0, .lst (((List.range n).map fun k => g k j).map D.int)), none, none])
      (ρ0 := [some (0, M), x, some (0, N), some (0, .lst (((List.range n).map fun k => f i k).map D.int)), some (0, .lst (((List.range n).map fun k => g k j).map D.int)), none, none])
      (List.range n) (fun k => .tup [.int (f i k), .int (g k j)]) (fun k => .int (f i k * g k j)) (by
        rw [e_iZipSM]
        simp [zip_range]) (by simp; omega) rfl fun k hk => ⟨[some (0, M), x, some (0, N), some (0, .lst (((List.range n).map fun k => f i k).map D.int)), some (0, .lst (((List.range n).map fun k => g k j).map D.int)), some (0, .int (f i k)), some (0, .int (g k j))], rfl, rfl, 0, by
        have hk' := List.mem_range.mp hk
        have am : okMul (f i k) (g k j) = true := okMul_of (a := a + 1) (b := b + 1) (sm_up (hf i hi k hk') (by omega)) (sm_up (hg k hk' j hj) (by omega)) (by omega) (by omega) (by omega)
        simp [am], by simp⟩
    rw [hc]
    simp
  have h2 : ∀ i, i < n → mComp 0 (iSeq (mO (oVar 2))) (tName 4) tYesM (mCallF (ofN dSum) (mCons 0 (mComp 0 (iZipSM (mCons 0 (mO (oVar 3)) (mCons 0 (mO (oVar 4)) mNil))) (tTupT 2 (tsCons (tName 5) (tsCons (tName 6) tsNil))) tYesM (mP (pBin dMul (pVar 5) (pVar 6))) [5, 6]) mNil)) [4]
      [some (0, M), x, some (0, N), some (0, .lst (((List.range n).map fun k => f i k).map D.int)), none, none, none]
      = some ((1, .lst (((List.range n).map fun j => pr n f g i j).map D.int)), [some (0, M), x, some (0, N), some (0, .lst (((List.range n).map fun k => f i k).map D.int)), none, none, none]) := fun i hi => by
    have hc := comp_map1 (kc := 0) (it := iSeq (mO (oVar 2))) (tg := tName 4) (x := mCallF (ofN dSum) (mCons 0 (mComp 0 (iZipSM (mCons 0 (mO (oVar 3)) (mCons 0 (mO (oVar 4)) mNil))) (tTupT 2 (tsCons (tName 5) (tsCons (tName 6) tsNil))) tYesM (mP (pBin dMul (pVar 5) (pVar 6))) [5, 6]) mNil)) (own := [4])
      (ρ := [some (0, M), x, some (0, N), some (0, .lst (((List.range n).map fun k => f i k).map D.int)), none, none, none])
      (ρ1 := [some (0, M), x, some (0, N), some (0, .lst (((List.range n).map fun k => f i k).map D.int)), none, none, none])
      (ρ0 := [some (0, M), x, some (0, N), some (0, .lst (((List.range n).map fun k => f i k).map D.int)), none, none, none])
      (List.range n) (fun j => .lst (((List.range n).map fun k => g k j).map D.int)) (fun j => .int (pr n f g i j)) (by simp [← hN, mat, Function.comp_def]) (by simp; omega) rfl fun j hj => ⟨_, rfl, rfl, 0, by
        have e := h1 i hi j (List.mem_range.mp hj)
        show mCallF (ofN dSum) (mCons 0 _ mNil) [some (0, M), x, some (0, N), some (0, .lst (((List.range n).map fun k => f i k).map D.int)), some (0, .lst (((List.range n).map fun k => g k j).map D.int)), none, none] = _
        simp only [e_mCallF, e_mCons, e]
        simp [pr, sm, -List.map_map], by simp⟩
    rw [hc]
    simp
  have hc := comp_map1 (kc := 1) (it := iSeq (mO (oVar 0))) (tg := tName 3) (x := mComp 0 (iSeq (mO (oVar 2))) (tName 4) tYesM (mCallF (ofN dSum) (mCons 0 (mComp 0 (iZipSM (mCons 0 (mO (oVar 3)) (mCons 0 (mO (oVar 4)) mNil))) (tTupT 2 (tsCons (tName 5) (tsCons (tName 6) tsNil))) tYesM (mP (pBin dMul (pVar 5) (pVar 6))) [5, 6]) mNil)) [4]) (own := [3])
      (ρ := [some (0, M), x, some (0, N), none, none, none, none]) (ρ1 := [some (0, M), x, some (0, N), none, none, none, none]) (ρ0 := [some (0, M), x, some (0, N), none, none, none, none])
      (List.range n) (fun i => .lst (((List.range n).map fun k => f i k).map D.int)) (fun i => .lst (((List.range n).map fun j => pr n f g i j).map D.int)) (by simp [← hM, mat, Function.comp_def]) (by simp; omega) rfl fun i hi => ⟨_, rfl, rfl, 1, h2 i (List.mem_range.mp hi), by simp⟩
  rw [hc]
  simp [mat]
end Mn

namespace Mn
open PySem PySem.Spec PyProof.Rows L2
def mCompH (kc i0 : Nat) (tg : D → Env → Option Env) (t : Env → Option (Bool × Env)) (x : Env → Option (Cell × Env)) (own : List Nat) : Env → Option (Cell × Env) := fun ρ => match ρ[i0]? with
  | some (some (1, .lst ds)) => if ds.length < sizeLine then (match mCompL kc tg t x own ds (wipeE (ρ.set i0 none) own) with
    | some (rs, ρ2) => some ((kc + 1, .lst rs), ρ2.set i0 (some (1, .lst ds)))
    | none => none) else none
  | _ => none
section
variable {X : Cx} {js : List Nat} {tg : D → Env → Option Env} {pos : Pos} {pr : List Nat}
/-- a list comprehension over an owned list of a slot: the list is held meanwhile -/
theorem compH_imp {kc i0 : Nat} {own : List Nat} {tt : TT} {te : TE} {tgr : TG} {t : Env → Option (Bool × Env)} {x : Env → Option (Cell × Env)} {σ : L2.St} {H : Hp} {Q : VK}
    (htg : ∀ v σ H Q, tgS X js tg v σ H Q → tgr v σ H Q) (htt : ∀ σ H Q, gT X t σ H Q → tt σ H Q) (hte : ∀ σ H Q, gS X x σ H Q → te σ H Q) (hjs : ∀ j ∈ js, j ∈ own)
    (h : gS X (mCompH kc i0 tg t x own) σ H Q) : tLc (iList X.K (tVar i0)) tgr tt te own σ H Q := by
  obtain ⟨B0, W, ts, tc, ρ0, cl, ρz, r0, hl, em, q0⟩ := h
  unfold mCompH at em
  split at em
  · rename_i ds ecell
    split at em
    · rename_i hz
      split at em
      · rename_i rs ρ' ec
        cases em
        obtain ⟨vh, F, B, ev, hown, hF1, r1, back⟩ := r0.hold (i := tc.length + i0) (c := (1, .lst ds)) (by rw [get_app]; exact ecell)
        rw [set_app] at r1
        obtain ⟨a, vs, G, rfl, hHa, hOw, hsum⟩ := hown
        have hrep : RepL X.K X.mg W ds vs := hOw.toRep fun d _ v F _ h => h.1
        have hFa : F a ≠ 0 := by rw [hsum, if_pos rfl]; omega
        rw [← hl, get_app] at ev
        have at_ : ∀ {Wi Hi : Hp} {vv : List (Option V)} {cc : List (Option Cell)}, Gr B W Wi → R X.K X.mg B Wi Hi vv cc → SqL X.K Hi a vs := fun g r => (SqX.of (by rw [(back _ _ _ _ g r).2.2 a hFa]; exact hHa)).sq
        have hti : iList X.K (tVar i0) σ H fun J H' => J = Itl X.K a ∧ H' = H := ⟨.ref a, ev, a, rfl, ⟨vs, at_ (Gr.refl B W) r1⟩, rfl, rfl⟩
        refine ⟨.ref a, ev, a, rfl, ⟨vs, at_ (Gr.refl B W) r1⟩, fun D0 nD => ?_⟩
        let W1 := W
        let H1 := H
        let ρ1 := ρ0.set i0 none
        have g1 : Gr B W W := Gr.refl B W
        have rD : R X.K X.mg B W1 (L2.upd H1 D0 (.lst [])) (some (.ref D0) :: (ts ++ σ)) (some (kc + 1, .lst []) :: (tc ++ ρ1)) := RL.lst (k := kc) (RL.nil r1) nD
        have rW := R.wipe (ts := some (.ref D0) :: ts) (tc := some (kc + 1, .lst []) :: tc) (by simp [hl]) rD own
        refine ⟨fun i m Hi => m = ds.length - i ∧ i ≤ ds.length ∧ ∃ Wi ρi acc rs', Gr B W1 Wi ∧ R X.K X.mg B Wi Hi (some (.ref D0) :: (ts ++ wipe σ own)) (some (kc + 1, .lst acc) :: (tc ++ wipeE ρi own)) ∧ mCompL kc tg t x own (ds.drop i) (wipeE ρi own) = some (rs', ρ') ∧ acc ++ rs' = rs ∧ acc.length ≤ i,
          ⟨ds.length, rfl, Nat.zero_le _, W1, ρ1, [], rs, Gr.refl B W1, rW, ec, rfl, Nat.le_refl _⟩, ?_⟩
        rintro i m Hi ⟨rfl, hile, Wi, ρi, acc, rs', gi, ri, ei, ea, hacc⟩
        have sW : Same W1 Hi := gi.sm.trans ri.sw
        by_cases hlt : i < ds.length
        · have hvl := hrep.length
          have sqi := at_ gi ri
          refine .inr ⟨⟨vs, vs[i]'(by omega), sqi, by simp [show i < vs.length by omega]⟩, fun H' => ∃ Wi' ρi' acc' rs', Gr B W1 Wi' ∧ R X.K X.mg B Wi' H' (some (.ref D0) :: (ts ++ wipe σ own)) (some (kc + 1, .lst acc') :: (tc ++ wipeE ρi' own)) ∧ mCompL kc tg t x own (ds.drop (i + 1)) (wipeE ρi' own) = some (rs', ρ') ∧ acc' ++ rs' = rs ∧ acc'.length ≤ i + 1,
            fun H' ⟨Wi', ρi', acc', rs'', g', r', e', a', l'⟩ => ⟨ds.length - (i + 1), by omega, rfl, hlt, Wi', ρi', acc', rs'', g', r', e', a', l'⟩, fun v H' y => ?_⟩
          obtain ⟨W2, g2, r2⟩ : ∃ W2, Gr B Wi W2 ∧ R X.K X.mg B W2 H' (some v :: (some (.ref D0) :: (ts ++ wipe σ own))) (some (0, ds[i]) :: (some (kc + 1, .lst acc) :: (tc ++ wipeE ρi own))) := by
            obtain ⟨rfl, f⟩ := y
            exact ⟨Wi, Gr.refl B Wi, ri.push0 (Rep.mono gi.sm _ _ (hrep.uniq (by simp [hlt]) (f vs sqi)))⟩
          rw [List.drop_eq_getElem_cons hlt] at ei
          simp only [mCompL] at ei
          split at ei
          · cases ei
          · rename_i ρ3 et
            refine htg _ _ _ _ ⟨B, W2, some (.ref D0) :: ts, some (kc + 1, .lst acc) :: tc, wipeE ρi own, ds[i], ρ3, R.drop r2, by simp [hl], R.head0 r2, et, fun σ2 r3 k3 l3 => ?_⟩
            have hw : wipe σ2 own = wipe σ own := by
              have h1 : wipe σ2 own = wipe (wipe σ own) own := wipe_eq (js := js) (by rw [l3]) fun i hi => k3 i fun z => hi (hjs i z)
              rw [h1]
              exact wipe_eq (js := js) (by rw [wipe_length]) fun i hi => wipe_off hi
            refine ⟨hw, ?_⟩
            have g3 := gi.trans g2
            -- a turn's end
            have fin : ∀ {W4 H4 : Hp} {ρ4 : Env} {acc4 : List D}, Gr B W2 W4 → R X.K X.mg B W4 H4 (some (.ref D0) :: (ts ++ σ2)) (some (kc + 1, .lst acc4) :: (tc ++ ρ4)) → R X.K X.mg B W4 H4 (some (.ref D0) :: (ts ++ wipe σ own)) (some (kc + 1, .lst acc4) :: (tc ++ wipeE ρ4 own)) := fun {W4 H4 ρ4 acc4} g4 r4 => by
              have r5 := R.wipe (ts := some (.ref D0) :: ts) (tc := some (kc + 1, .lst acc4) :: tc) (by simp [hl]) r4 own
              rw [hw] at r5
              exact r5
            split at ei
            · cases ei
            · rename_i ρ4 eb
              refine htt _ _ _ ⟨B, W2, some (.ref D0) :: ts, some (kc + 1, .lst acc) :: tc, ρ3, false, ρ4, r3, by simp [hl], eb, fun W4 H4 g4 r4 => ?_⟩
              show if false = true then _ else _
              exact iteF ⟨W4, ρ4, acc, rs', g3.trans g4, fin g4 r4, ei, ea, by omega⟩
            · rename_i ρ4 eb
              split at ei
              · cases ei
              · rename_i c ρ5 exx
                split at ei
                · rename_i hf
                  split at ei
                  · rename_i rs2 ρ6 er
                    cases ei
                    refine htt _ _ _ ⟨B, W2, some (.ref D0) :: ts, some (kc + 1, .lst acc) :: tc, ρ3, true, ρ4, r3, by simp [hl], eb, fun W4 H4 g4 r4 => ?_⟩
                    show if true = true then _ else _
                    refine iteT (hte _ _ _ ⟨B, W4, some (.ref D0) :: ts, some (kc + 1, .lst acc) :: tc, ρ4, c, ρ5, r4, by simp [hl], exx, fun W5 H5 y g5 r5 => ?_⟩)
                    obtain ⟨W6, v0, p, xs, ev, pv, hp, hx, g6, r6⟩ := R.pathApp (k := kc) (js := []) (l := acc) (d := .lst acc) r5 (i := 0) rfl rfl hf
                    have ev2 : some (some (V.ref D0)) = some (some v0) := ev
                    cases ev2
                    cases pv
                    refine ⟨xs, hp, by rw [hx]; omega, W6, ρ5, acc ++ [c.2], rs2, ((g3.trans g4).trans g5).trans g6, fin ((g4.trans g5).trans g6) r6, er, by rw [List.append_assoc]; exact ea, by rw [List.length_append]; simp; omega⟩
                  · cases ei
                · cases ei
        · have e : i = ds.length := by omega
          subst e
          rw [List.drop_length] at ei
          cases ei
          rw [List.append_nil] at ea
          subst ea
          refine .inl ⟨⟨vs, at_ gi ri, by rw [hrep.length]; exact Nat.le_refl _⟩, ?_⟩
          have rz := R.unwipe (ts := some (.ref D0) :: ts) (tc := some (kc + 1, .lst acc) :: tc) (by simp [hl]) ri (by rw [wipe_length]) fun i hi => (wipe_off hi).symm
          obtain ⟨g9, r9, _⟩ := back Wi Hi _ _ gi rz
          have rm := R.move r9 (tc.length + i0 + 1)
          have e1 : (some (V.ref D0) :: ts ++ σ).set (tc.length + i0 + 1) (some (.ref a)) = some (V.ref D0) :: (ts ++ σ) := by
            rw [List.cons_append, List.set_cons_succ, ← hl, set_app, set_self ev]
          have e2 : (some (kc + 1, D.lst acc) :: tc ++ wipeE ρi own).set (tc.length + i0 + 1) (some (1, .lst ds)) = some (kc + 1, D.lst acc) :: (tc ++ (wipeE ρi own).set i0 (some (1, .lst ds))) := by
            rw [List.cons_append, List.set_cons_succ, set_app]
          rw [e1, e2] at rm
          exact q0 Wi Hi (.ref D0) g9 rm
      · cases em
    · cases em
  · cases em
theorem g_compH {kc i0 : Nat} {elt tgt iter : Expr} {scope : Scope} {own : List (Str × Nat)} {x : Env → Option (Cell × Env)} (hc : X.calm = true) (hN : X.N.Nodup) (hi : PE X iter (tVar i0)) (ok : BlkOk X.N X.env.scope scope own)
    (hg : ∀ (s : Shared) (H : Hp) (C : Addr) (cl : List (Str × Addr)) (fp : List Addr), PG (X.blk s H scope (compEnvC scope cl C X.env) fp) tgt (tgS X js tg))
    (he : ∀ (s : Shared) (H : Hp) (C : Addr) (cl : List (Str × Addr)) (fp : List Addr), PE (X.blk s H scope (compEnvC scope cl C X.env) fp) elt (gS X x)) (hjs : ∀ j ∈ js, j ∈ own.map (·.2)) (hs : ∀ x, foldedSetIterable iter X.env x = pure x := by intro _; rfl) :
    PE X (.ListComp elt [⟨tgt, iter, [], 0⟩] scope pos) (gS X (mCompH kc i0 tg tYesM x (own.map (·.2)))) :=
  PEi (pe_lc hc hN (pi_list hi) ok hg (fun _ _ _ _ _ => pts_nil) he hs) fun σ H Q h => compH_imp (fun _ _ _ _ h => h) (fun _ _ _ h => yes_imp h) (fun _ _ _ h => h) hjs h
theorem g_compHIf {kc i0 : Nat} {elt tgt iter cond : Expr} {scope : Scope} {own : List (Str × Nat)} {x : Env → Option (Cell × Env)} {t : Env → Option (Bool × Env)} (hc : X.calm = true) (hN : X.N.Nodup) (hi : PE X iter (tVar i0)) (ok : BlkOk X.N X.env.scope scope own)
    (hg : ∀ (s : Shared) (H : Hp) (C : Addr) (cl : List (Str × Addr)) (fp : List Addr), PG (X.blk s H scope (compEnvC scope cl C X.env) fp) tgt (tgS X js tg))
    (ht : ∀ (s : Shared) (H : Hp) (C : Addr) (cl : List (Str × Addr)) (fp : List Addr), PT (X.blk s H scope (compEnvC scope cl C X.env) fp) cond (gT X t))
    (he : ∀ (s : Shared) (H : Hp) (C : Addr) (cl : List (Str × Addr)) (fp : List Addr), PE (X.blk s H scope (compEnvC scope cl C X.env) fp) elt (gS X x)) (hjs : ∀ j ∈ js, j ∈ own.map (·.2)) (hs : ∀ x, foldedSetIterable iter X.env x = pure x := by intro _; rfl) :
    PE X (.ListComp elt [⟨tgt, iter, [cond], 0⟩] scope pos) (gS X (mCompH kc i0 tg t x (own.map (·.2)))) :=
  PEi (pe_lc hc hN (pi_list hi) ok hg (fun s H C cl fp => pts_one (ht s H C cl fp)) he hs) fun σ H Q h => compH_imp (fun _ _ _ _ h => h) (fun _ _ _ h => h) (fun _ _ _ h => h) hjs h
/-- y = [..] on one line -/
theorem s_setCompH {kc i0 i : Nat} {y : Str} {py spos : Pos} {elt tgt iter : Expr} {scope : Scope} {own : List (Str × Nat)} {x : Env → Option (Cell × Env)} (hc : X.calm = true) (hN : X.N.Nodup) (hy : X.N[i]? = some y) (hyl : X.env.scope.names.lookup y = some .local) (hp : i ∉ pr)
    (hsw : swapsWith (.ListComp elt [⟨tgt, iter, [], 0⟩] scope pos) (some (.Name y py)) spos.line X.env = pure true) (hi : PE X iter (tVar i0)) (ok : BlkOk X.N X.env.scope scope own)
    (hg : ∀ (s : Shared) (H : Hp) (C : Addr) (cl : List (Str × Addr)) (fp : List Addr), PG (X.blk s H scope (compEnvC scope cl C X.env) fp) tgt (tgS X js tg))
    (he : ∀ (s : Shared) (H : Hp) (C : Addr) (cl : List (Str × Addr)) (fp : List Addr), PE (X.blk s H scope (compEnvC scope cl C X.env) fp) elt (gS X x)) (hjs : ∀ j ∈ js, j ∈ own.map (·.2)) (hs : ∀ x, foldedSetIterable iter X.env x = pure x := by intro _; rfl) :
    PS X (.Assign [.Name y py] (.ListComp elt [⟨tgt, iter, [], 0⟩] scope pos) spos) (sS X pr (sAsg i (mCompH kc i0 tg tYesM x (own.map (·.2))))) :=
  PSi (ps_setLc hc hN hy hyl hsw (pi_list hi) ok hg (fun _ _ _ _ _ => pts_nil) he hs) fun Dn σ H h => compH_imp (fun _ _ _ _ h => h) (fun _ _ _ h => yes_imp h) (fun _ _ _ h => h) hjs (asg_imp hp h)
theorem s_setCompHIf {kc i0 i : Nat} {y : Str} {py spos : Pos} {elt tgt iter cond : Expr} {scope : Scope} {own : List (Str × Nat)} {x : Env → Option (Cell × Env)} {t : Env → Option (Bool × Env)} (hc : X.calm = true) (hN : X.N.Nodup) (hy : X.N[i]? = some y) (hyl : X.env.scope.names.lookup y = some .local) (hp : i ∉ pr)
    (hsw : swapsWith (.ListComp elt [⟨tgt, iter, [cond], 0⟩] scope pos) (some (.Name y py)) spos.line X.env = pure true) (hi : PE X iter (tVar i0)) (ok : BlkOk X.N X.env.scope scope own)
    (hg : ∀ (s : Shared) (H : Hp) (C : Addr) (cl : List (Str × Addr)) (fp : List Addr), PG (X.blk s H scope (compEnvC scope cl C X.env) fp) tgt (tgS X js tg))
    (ht : ∀ (s : Shared) (H : Hp) (C : Addr) (cl : List (Str × Addr)) (fp : List Addr), PT (X.blk s H scope (compEnvC scope cl C X.env) fp) cond (gT X t))
    (he : ∀ (s : Shared) (H : Hp) (C : Addr) (cl : List (Str × Addr)) (fp : List Addr), PE (X.blk s H scope (compEnvC scope cl C X.env) fp) elt (gS X x)) (hjs : ∀ j ∈ js, j ∈ own.map (·.2)) (hs : ∀ x, foldedSetIterable iter X.env x = pure x := by intro _; rfl) :
    PS X (.Assign [.Name y py] (.ListComp elt [⟨tgt, iter, [cond], 0⟩] scope pos) spos) (sS X pr (sAsg i (mCompH kc i0 tg t x (own.map (·.2))))) :=
  PSi (ps_setLc hc hN hy hyl hsw (pi_list hi) ok hg (fun s H C cl fp => pts_one (ht s H C cl fp)) he hs) fun Dn σ H h => compH_imp (fun _ _ _ _ h => h) (fun _ _ _ h => h) (fun _ _ _ h => h) hjs (asg_imp hp h)
/-- y = [..] on one line -/
theorem s_setCompH0 {kc i0 i : Nat} {y : Str} {py spos : Pos} {elt tgt iter : Expr} {scope : Scope} {own : List (Str × Nat)} {x : Env → Option (Cell × Env)} (hc : X.calm = true) (hN : X.N.Nodup) (hy : X.N[i]? = some y) (hyl : X.env.scope.names.lookup y = some .local) (hp : i ∉ pr)
    (hsw : swapsWith (.ListComp elt [⟨tgt, iter, [], 0⟩] scope pos) (some (.Name y py)) spos.line X.env = pure true) (hi : PE X iter (tVar i0)) (ok : BlkOk X.N X.env.scope scope own)
    (hg : ∀ (s : Shared) (H : Hp) (C : Addr) (cl : List (Str × Addr)) (fp : List Addr), PG (X.blk s H scope (compEnvC scope cl C X.env) fp) tgt (tgS X js tg))
    (he : ∀ (s : Shared) (H : Hp) (C : Addr) (cl : List (Str × Addr)) (fp : List Addr), PE (X.blk s H scope (compEnvC scope cl C X.env) fp) elt (gS X x)) (hjs : ∀ j ∈ js, j ∈ own.map (·.2)) (hs : ∀ x, foldedSetIterable iter X.env x = pure x := by intro _; rfl) :
    PS X (.Assign [.Name y py] (.ListComp elt [⟨tgt, iter, [], 0⟩] scope pos) spos) (sS X pr (sAsg i (mFz (mCompH kc i0 tg tYesM x (own.map (·.2)))))) :=
  PSi (ps_setLc hc hN hy hyl hsw (pi_list hi) ok hg (fun _ _ _ _ _ => pts_nil) he hs) fun Dn σ H h => compH_imp (fun _ _ _ _ h => h) (fun _ _ _ h => yes_imp h) (fun _ _ _ h => h) hjs (fz_imp (asg_imp hp h))
theorem s_setCompHIf0 {kc i0 i : Nat} {y : Str} {py spos : Pos} {elt tgt iter cond : Expr} {scope : Scope} {own : List (Str × Nat)} {x : Env → Option (Cell × Env)} {t : Env → Option (Bool × Env)} (hc : X.calm = true) (hN : X.N.Nodup) (hy : X.N[i]? = some y) (hyl : X.env.scope.names.lookup y = some .local) (hp : i ∉ pr)
    (hsw : swapsWith (.ListComp elt [⟨tgt, iter, [cond], 0⟩] scope pos) (some (.Name y py)) spos.line X.env = pure true) (hi : PE X iter (tVar i0)) (ok : BlkOk X.N X.env.scope scope own)
    (hg : ∀ (s : Shared) (H : Hp) (C : Addr) (cl : List (Str × Addr)) (fp : List Addr), PG (X.blk s H scope (compEnvC scope cl C X.env) fp) tgt (tgS X js tg))
    (ht : ∀ (s : Shared) (H : Hp) (C : Addr) (cl : List (Str × Addr)) (fp : List Addr), PT (X.blk s H scope (compEnvC scope cl C X.env) fp) cond (gT X t))
    (he : ∀ (s : Shared) (H : Hp) (C : Addr) (cl : List (Str × Addr)) (fp : List Addr), PE (X.blk s H scope (compEnvC scope cl C X.env) fp) elt (gS X x)) (hjs : ∀ j ∈ js, j ∈ own.map (·.2)) (hs : ∀ x, foldedSetIterable iter X.env x = pure x := by intro _; rfl) :
    PS X (.Assign [.Name y py] (.ListComp elt [⟨tgt, iter, [cond], 0⟩] scope pos) spos) (sS X pr (sAsg i (mFz (mCompH kc i0 tg t x (own.map (·.2)))))) :=
  PSi (ps_setLc hc hN hy hyl hsw (pi_list hi) ok hg (fun s H C cl fp => pts_one (ht s H C cl fp)) he hs) fun Dn σ H h => compH_imp (fun _ _ _ _ h => h) (fun _ _ _ h => h) (fun _ _ _ h => h) hjs (fz_imp (asg_imp hp h))
theorem compH_of {kc i0 : Nat} {tg : D → Env → Option Env} {t : Env → Option (Bool × Env)} {x : Env → Option (Cell × Env)} {own : List Nat} {ρ ρ2 ρ' : Env} {ds : List D} {c : Cell} (e : ρ[i0]? = some (some (1, .lst ds)))
    (h : mComp kc (fun ρ => some (ds, ρ.set i0 none)) tg t x own ρ = some (c, ρ2)) (hz : ρ2.set i0 (some (1, .lst ds)) = ρ') : mCompH kc i0 tg t x own ρ = some (c, ρ') := by
  unfold mComp at h
  unfold mCompH
  rw [e]
  simp only at h ⊢
  split at h
  · rename_i hq
    rw [if_pos hq]
    split at h
    · rename_i rs ρz em
      cases h
      (try rw [em])
      simp only [hz]
    · cases h
  · cases h
end
end Mn

namespace Mn
/-! ### sums -/
theorem sm_zero (g : Nat → Int) : sm 0 g = 0 := rfl
theorem sm_succ (n : Nat) (g : Nat → Int) : sm (n + 1) g = sm n g + g n := by
  unfold sm
  rw [List.range_succ, List.map_append, List.sum_append, List.map_singleton, List.sum_singleton]
theorem sm_cong {n : Nat} {g h : Nat → Int} (e : ∀ i, i < n → g i = h i) : sm n g = sm n h := by
  induction n with
  | zero => rfl
  | succ n ih => rw [sm_succ, sm_succ, ih fun i hi => e i (by omega), e n (by omega)]
theorem sm_nul {n : Nat} {g : Nat → Int} (e : ∀ i, i < n → g i = 0) : sm n g = 0 := by
  induction n with
  | zero => rfl
  | succ n ih => rw [sm_succ, ih fun i hi => e i (by omega), e n (by omega)]; rfl
theorem sm_plus (n : Nat) (g h : Nat → Int) : sm n (fun i => g i + h i) = sm n g + sm n h := by
  induction n with
  | zero => rfl
  | succ n ih => rw [sm_succ, sm_succ, sm_succ, ih]; omega
theorem sm_scale (n : Nat) (a : Int) (g : Nat → Int) : sm n (fun i => a * g i) = a * sm n g := by
  induction n with
  | zero => simp [sm_zero]
  | succ n ih => rw [sm_succ, sm_succ, ih, Int.mul_add]
theorem sm_scaleR (n : Nat) (a : Int) (g : Nat → Int) : sm n (fun i => g i * a) = sm n g * a := by
  rw [Int.mul_comm, ← sm_scale]
  exact sm_cong fun i _ => Int.mul_comm _ _
theorem sm_swap (n m : Nat) (g : Nat → Nat → Int) : sm n (fun i => sm m fun j => g i j) = sm m fun j => sm n fun i => g i j := by
  induction n with
  | zero => rw [sm_zero]; exact (sm_nul fun _ _ => rfl).symm
  | succ n ih =>
    rw [sm_succ, ih, ← sm_plus]
    exact sm_cong fun j _ => (sm_succ _ _).symm
theorem sm_one {n p : Nat} {g : Nat → Int} (hp : p < n) (e : ∀ i, i < n → i ≠ p → g i = 0) : sm n g = g p := by
  induction n with
  | zero => omega
  | succ n ih =>
    rw [sm_succ]
    by_cases h : p = n
    · subst h
      rw [sm_nul fun i hi => e i (by omega) (by omega)]; omega
    · rw [ih (by omega) fun i hi hq => e i (by omega) hq, e n (by omega) (fun z => h z.symm)]; omega
theorem sm_pair {n p q : Nat} {g : Nat → Int} (hp : p < q) (hq : q < n) (e : ∀ i, i < n → i ≠ p → i ≠ q → g i = 0) : sm n g = g p + g q := by
  induction n with
  | zero => omega
  | succ n ih =>
    rw [sm_succ]
    by_cases h : q = n
    · subst h
      rw [sm_one (p := p) hp fun i hi hh => e i (by omega) hh (by omega)]
    · rw [ih (by omega) fun i hi h1 h2 => e i (by omega) h1 h2, e n (by omega) (by omega) (by omega)]; omega
theorem sm_mod {n : Nat} {N : Int} {g h : Nat → Int} (e : ∀ i, i < n → g i % N = h i % N) : sm n g % N = sm n h % N := by
  induction n with
  | zero => rfl
  | succ n ih => rw [sm_succ, sm_succ, Int.add_emod, ih fun i hi => e i (by omega), e n (by omega), ← Int.add_emod]
/-! ### determinants by the first row -/
def sg (j : Nat) : Int := if j % 2 = 0 then 1 else -1
def sk (j b : Nat) : Nat := if b < j then b else b + 1
def mnr (f : Nat → Nat → Int) (i j : Nat) : Nat → Nat → Int := fun a b => f (sk i a) (sk j b)
def det : Nat → (Nat → Nat → Int) → Int
  | 0, _ => 1
  | n + 1, f => sm (n + 1) fun j => sg j * f 0 j * det n (mnr f 0 j)
theorem det_succ (n : Nat) (f : Nat → Nat → Int) : det (n + 1) f = sm (n + 1) fun j => sg j * f 0 j * det n (mnr f 0 j) := rfl
theorem sk0 (a : Nat) : sk 0 a = a + 1 := by unfold sk; rw [if_neg (by omega)]
theorem sk_lt {i a n : Nat} (h : a < n) : sk i a < n + 1 := by unfold sk; split <;> omega
theorem sk_ne (i a : Nat) : sk i a ≠ i := by unfold sk; split <;> omega
theorem det_cong : ∀ {n : Nat} {f g : Nat → Nat → Int}, (∀ i, i < n → ∀ j, j < n → f i j = g i j) → det n f = det n g
  | 0, _, _, _ => rfl
  | n + 1, f, g, h => by
    rw [det_succ, det_succ]
    refine sm_cong fun j hj => ?_
    rw [h 0 (by omega) j hj, det_cong (f := mnr f 0 j) (g := mnr g 0 j) fun a ha b hb => h _ (sk_lt ha) _ (sk_lt hb)]
theorem det_mod {N : Int} : ∀ {n : Nat} {f g : Nat → Nat → Int}, (∀ i, i < n → ∀ j, j < n → f i j % N = g i j % N) → det n f % N = det n g % N
  | 0, _, _, _ => rfl
  | n + 1, f, g, h => by
    rw [det_succ, det_succ]
    refine sm_mod fun j hj => ?_
    have ih := det_mod (N := N) (f := mnr f 0 j) (g := mnr g 0 j) fun a ha b hb => h _ (sk_lt ha) _ (sk_lt hb)
    have h0 := h 0 (by omega) j hj
    rw [Int.mul_emod, Int.mul_emod (sg j), h0, ih, ← Int.mul_emod (sg j), ← Int.mul_emod]
/-- a column put in -/
def cs (f : Nat → Nat → Int) (q : Nat) (u : Nat → Int) : Nat → Nat → Int := fun i j => if j = q then u i else f i j
/-- where a column stands when another one is taken out -/
def rm (j q : Nat) : Nat := if q < j then q else q - 1
theorem sk_rm {j q b : Nat} (h : q ≠ j) : sk j b = q ↔ b = rm j q := by unfold sk rm; split <;> split <;> omega
theorem mnr_cs_same (f : Nat → Nat → Int) (i q : Nat) (u : Nat → Int) : mnr (cs f q u) i q = mnr f i q := by
  funext a b
  unfold mnr cs
  rw [if_neg (sk_ne q b)]
theorem mnr_cs {f : Nat → Nat → Int} {i j q : Nat} (u : Nat → Int) (h : q ≠ j) : mnr (cs f q u) i j = cs (mnr f i j) (rm j q) (fun a => u (sk i a)) := by
  funext a b
  unfold mnr cs
  by_cases e : sk j b = q
  · rw [if_pos e, if_pos ((sk_rm h).mp e)]
  · rw [if_neg e, if_neg fun z => e ((sk_rm h).mpr z)]
theorem rm_lt {j q n : Nat} (hj : j < n + 1) (hq : q < n + 1) (h : q ≠ j) : rm j q < n := by unfold rm; split <;> omega
theorem det_lin : ∀ {n q : Nat} (f : Nat → Nat → Int) (a b : Int) (u v : Nat → Int), q < n → det n (cs f q fun i => a * u i + b * v i) = a * det n (cs f q u) + b * det n (cs f q v)
  | 0, _, _, _, _, _, _, h => by omega
  | n + 1, q, f, a, b, u, v, h => by
    rw [det_succ, det_succ, det_succ, ← sm_scale, ← sm_scale, ← sm_plus]
    refine sm_cong fun j hj => ?_
    by_cases e : q = j
    · subst e
      rw [mnr_cs_same, mnr_cs_same, mnr_cs_same]
      simp only [cs, if_pos]
      grind
    · rw [mnr_cs _ e, mnr_cs _ e, mnr_cs _ e, det_lin (mnr f 0 j) a b _ _ (rm_lt hj h e)]
      have e' : ¬ j = q := fun z => e z.symm
      simp only [cs, if_neg e']
      grind
theorem cs_self (f : Nat → Nat → Int) (q : Nat) : cs f q (fun i => f i q) = f := by
  funext i j
  unfold cs
  split
  · rename_i h; rw [h]
  · rfl
theorem cs_cs (f : Nat → Nat → Int) (q : Nat) (u v : Nat → Int) : cs (cs f q u) q v = cs f q v := by
  funext i j
  unfold cs
  split <;> rfl
theorem det_scale {n q : Nat} (f : Nat → Nat → Int) (a : Int) (u : Nat → Int) (h : q < n) : det n (cs f q fun i => a * u i) = a * det n (cs f q u) := by
  have := det_lin f a 0 u u h
  simpa using this
theorem det_addc {n q : Nat} (f : Nat → Nat → Int) (u v : Nat → Int) (h : q < n) : det n (cs f q fun i => u i + v i) = det n (cs f q u) + det n (cs f q v) := by
  have := det_lin f 1 1 u v h
  simpa using this
theorem det_nul {n q : Nat} {f : Nat → Nat → Int} (h : q < n) (e : ∀ i, i < n → f i q = 0) : det n f = 0 := by
  have h1 := det_scale f 0 (fun i => f i q) h
  rw [cs_self, Int.zero_mul] at h1
  rw [← h1]
  refine det_cong fun i hi j hj => ?_
  unfold cs
  split
  · rename_i z; rw [z, e i hi]; simp
  · rfl
theorem det_adj : ∀ {n q : Nat} {f : Nat → Nat → Int}, q + 1 < n → (∀ i, i < n → f i q = f i (q + 1)) → det n f = 0
  | 0, _, _, h, _ => by omega
  | n + 1, q, f, h, e => by
    rw [det_succ, sm_pair (p := q) (q := q + 1) (by omega) h]
    · have hm : det n (mnr f 0 q) = det n (mnr f 0 (q + 1)) := by
        refine det_cong fun a ha b hb => ?_
        show f (sk 0 a) (sk q b) = f (sk 0 a) (sk (q + 1) b)
        by_cases h1 : b = q
        · rw [show sk q b = q + 1 by unfold sk; rw [if_neg (by omega)]; omega, show sk (q + 1) b = q by unfold sk; rw [if_pos (by omega)]; omega]
          exact (e _ (sk_lt ha)).symm
        · rw [show sk q b = sk (q + 1) b by unfold sk; split <;> split <;> omega]
      rw [← hm, e 0 (by omega)]
      have hs : sg (q + 1) = - sg q := by unfold sg; split <;> split <;> omega
      rw [hs]
      grind
    · intro j hj h1 h2
      rw [det_adj (q := rm j q) (f := mnr f 0 j)]
      · simp
      · unfold rm; split <;> omega
      · intro i hi
        unfold mnr
        have e1 : sk j (rm j q) = q := (sk_rm (fun z => h1 z.symm)).mpr rfl
        have e2 : sk j (rm j q + 1) = q + 1 := by
          refine (sk_rm (fun z => h2 z.symm)).mpr ?_
          unfold rm
          split <;> split <;> omega
        rw [e1, e2]
        exact e _ (sk_lt hi)
/-- two columns next to one another are exchanged -/
theorem det_swap {n q : Nat} (f : Nat → Nat → Int) (h : q + 1 < n) : det n (cs (cs f q fun i => f i (q + 1)) (q + 1) fun i => f i q) = - det n f := by
  let A : (Nat → Int) → (Nat → Int) → Int := fun u v => det n (cs (cs f q u) (q + 1) v)
  have comm : ∀ u v, cs (cs f q u) (q + 1) v = cs (cs f (q + 1) v) q u := fun u v => by
    funext i j
    unfold cs
    split <;> split <;> first | rfl | omega
  have a1 : ∀ u v w, A u (fun i => v i + w i) = A u v + A u w := fun u v w => det_addc _ _ _ h
  have a2 : ∀ u v w, A (fun i => v i + w i) u = A v u + A w u := fun u v w => by
    show det n (cs (cs f q _) (q + 1) u) = det n (cs (cs f q _) (q + 1) u) + det n (cs (cs f q _) (q + 1) u)
    rw [comm, comm, comm]
    exact det_addc _ _ _ (by omega)
  have a0 : ∀ u, A u u = 0 := fun u => det_adj h fun i hi => by
    show (if q = q + 1 then u i else if q = q then u i else f i q) = (if q + 1 = q + 1 then u i else _)
    rw [if_neg (by omega), if_pos rfl, if_pos rfl]
  have s := a0 fun i => f i q + f i (q + 1)
  rw [a1, a2, a2, a0, a0] at s
  have e : A (fun i => f i q) (fun i => f i (q + 1)) = det n f := by
    show det n (cs (cs f q fun i => f i q) (q + 1) fun i => f i (q + 1)) = _
    rw [cs_self, cs_self]
  rw [e] at s
  show A (fun i => f i (q + 1)) (fun i => f i q) = _
  omega
theorem det_same : ∀ (d : Nat) {n p : Nat} {f : Nat → Nat → Int}, p + 1 + d < n → (∀ i, i < n → f i p = f i (p + 1 + d)) → det n f = 0
  | 0, n, p, f, h, e => det_adj h e
  | d + 1, n, p, f, h, e => by
    have hs := det_swap (q := p + 1 + d) f (by omega)
    have h0 := det_same d (n := n) (p := p) (f := cs (cs f (p + 1 + d) fun i => f i (p + 1 + d + 1)) (p + 1 + d + 1) fun i => f i (p + 1 + d)) (by omega) fun i hi => by
      unfold cs
      rw [if_neg (by omega), if_neg (by omega), if_neg (by omega), if_pos rfl]
      exact e i hi
    omega
theorem det_eqc {n p q : Nat} {f : Nat → Nat → Int} (hp : p < n) (hq : q < n) (h : p ≠ q) (e : ∀ i, i < n → f i p = f i q) : det n f = 0 := by
  rcases (show p < q ∨ q < p by omega) with z | z
  · obtain ⟨d, rfl⟩ : ∃ d, q = p + 1 + d := ⟨q - p - 1, by omega⟩
    exact det_same d hq e
  · obtain ⟨d, rfl⟩ : ∃ d, p = q + 1 + d := ⟨p - q - 1, by omega⟩
    exact det_same d hp fun i hi => (e i hi).symm
/-- a column of sums -/
theorem det_sum {n q : Nat} (f : Nat → Nat → Int) (c : Nat → Int) (u : Nat → Nat → Int) (h : q < n) : ∀ m : Nat, det n (cs f q fun a => sm m fun k => c k * u k a) = sm m fun k => c k * det n (cs f q (u k))
  | 0 => by
    rw [sm_zero]
    refine det_nul h fun i hi => ?_
    unfold cs
    rw [if_pos rfl]
    rfl
  | m + 1 => by
    have e : (fun a => sm (m + 1) fun k => c k * u k a) = fun a => (sm m fun k => c k * u k a) + c m * u m a := by
      funext a
      rw [sm_succ]
    rw [e, det_addc _ _ _ h, det_sum f c u h m, det_scale _ _ _ h, sm_succ]
/-- a column of this very matrix's columns -/
theorem det_comb {n q : Nat} (f : Nat → Nat → Int) (c : Nat → Int) (h : q < n) : det n (cs f q fun a => sm n fun k => c k * f a k) = c q * det n f := by
  rw [det_sum f c (fun k a => f a k) h n, sm_one (p := q) h]
  · rw [cs_self]
  · intro k hk hne
    rw [det_eqc (p := q) (q := k) h hk (fun z => hne z.symm)]
    · simp
    · intro i hi
      unfold cs
      rw [if_pos rfl, if_neg hne]
/-! ### cofactors -/
theorem sm_skip : ∀ {n i : Nat} (g : Nat → Int), i < n + 1 → sm (n + 1) g = g i + sm n fun k => g (sk i k)
  | 0, i, g, h => by
    have : i = 0 := by omega
    subst this
    rw [sm_succ, sm_zero, sm_zero]; omega
  | n + 1, i, g, h => by
    rw [sm_succ]
    by_cases e : i = n + 1
    · subst e
      have : sm (n + 1) (fun k => g (sk (n + 1) k)) = sm (n + 1) g := sm_cong fun k hk => by unfold sk; rw [if_pos hk]
      rw [this]; omega
    · rw [sm_skip g (show i < n + 1 by omega), sm_succ (n := n) (g := fun k => g (sk i k))]
      have : sk i n = n + 1 := by unfold sk; rw [if_neg (by omega)]
      rw [this]; omega
theorem sg_mul (a b : Nat) : sg (a + b) = sg a * sg b := by
  unfold sg
  split <;> split <;> split <;> first | rfl | omega
theorem sg_sq (a : Nat) : sg a * sg a = 1 := by
  unfold sg
  split <;> rfl
theorem det_cof : ∀ (n : Nat) {i j : Nat} {f : Nat → Nat → Int}, i < n + 1 → j < n + 1 → (∀ a, a < n + 1 → f a i = if a = j then 1 else 0) → det (n + 1) f = sg (i + j) * det n (mnr f j i)
  | n, i, 0, f, hi, hj, e => by
    rw [det_succ, sm_one (p := i) hi]
    · rw [e 0 (by omega), if_pos rfl, Int.mul_one]; rfl
    · intro k hk hne
      have hn : det n (mnr f 0 k) = 0 := by
        refine det_nul (q := rm k i) (rm_lt hk hi fun z => hne z.symm) fun a ha => ?_
        unfold mnr
        rw [(sk_rm (fun z => hne z.symm)).mpr rfl, e _ (sk_lt ha), sk0, if_neg (by omega)]
      rw [hn]; simp
  | 0, i, j + 1, f, hi, hj, e => by omega
  | n + 1, i, j + 1, f, hi, hj, e => by
    rw [det_succ (n + 1) f, sm_skip _ hi, e 0 (by omega), if_neg (by omega), Int.mul_zero, Int.zero_mul, Int.zero_add, det_succ n (mnr f (j + 1) i), ← sm_scale]
    refine sm_cong fun k hk => ?_
    have hki : i ≠ sk i k := fun z => sk_ne i k z.symm
    have ih := det_cof n (i := rm (sk i k) i) (j := j) (f := mnr f 0 (sk i k)) (rm_lt (sk_lt hk) hi hki) (by omega) fun a ha => by
      unfold mnr
      rw [(sk_rm hki).mpr rfl, e _ (sk_lt ha), sk0]
      by_cases z : a = j
      · rw [if_pos z, if_pos (by omega)]
      · rw [if_neg z, if_neg (by omega)]
    rw [ih]
    have hm : mnr (mnr f 0 (sk i k)) j (rm (sk i k) i) = mnr (mnr f (j + 1) i) 0 k := by
      funext a b
      unfold mnr
      have r1 : sk 0 (sk j a) = sk (j + 1) (sk 0 a) := by rw [sk0, sk0]; unfold sk; split <;> split <;> omega
      have r2 : sk (sk i k) (sk (rm (sk i k) i) b) = sk i (sk k b) := by
        unfold sk rm
        by_cases h1 : k < i
        · simp only [if_pos h1]
          rw [if_neg (show ¬ i < k by omega)]
          (repeat' split) <;> omega
        · simp only [if_neg h1]
          rw [if_pos (show i < k + 1 by omega)]
          (repeat' split) <;> omega
      rw [r1, r2]
    rw [hm]
    have h0 : mnr f (j + 1) i 0 k = f 0 (sk i k) := by
      unfold mnr
      rw [show sk (j + 1) 0 = 0 by unfold sk; rw [if_pos (by omega)]]
    rw [h0]
    have hsg : sg (sk i k) * sg (rm (sk i k) i + j) = sg (i + (j + 1)) * sg k := by
      unfold sk rm sg
      by_cases h1 : k < i
      · simp only [if_pos h1]
        rw [if_neg (show ¬ i < k by omega)]
        (repeat' split) <;> first | rfl | omega
      · simp only [if_neg h1]
        rw [if_pos (show i < k + 1 by omega)]
        (repeat' split) <;> first | rfl | omega
    generalize det n (mnr (mnr f (j + 1) i) 0 k) = d
    generalize f 0 (sk i k) = y
    calc sg (sk i k) * y * (sg (rm (sk i k) i + j) * d) = (sg (sk i k) * sg (rm (sk i k) i + j)) * (y * d) := by grind
      _ = sg (i + (j + 1)) * sg k * (y * d) := by rw [hsg]
      _ = _ := by grind
end Mn

namespace Mn
/-! ### products -/
theorem pr_assoc (n : Nat) (f g h : Nat → Nat → Int) (i j : Nat) : pr n (pr n f g) h i j = pr n f (pr n g h) i j := by
  unfold pr
  have e1 : (fun k => (sm n fun l => f i l * g l k) * h k j) = fun k => sm n fun l => f i l * (g l k * h k j) := by
    funext k
    rw [← sm_scaleR]
    exact sm_cong fun l _ => Int.mul_assoc _ _ _
  rw [e1, sm_swap]
  exact sm_cong fun l _ => sm_scale _ _ _
def un (i j : Nat) : Int := if i = j then 1 else 0
theorem pr_unL {n : Nat} (f : Nat → Nat → Int) {i : Nat} (hi : i < n) (j : Nat) : pr n un f i j = f i j := by
  unfold pr
  rw [sm_one (p := i) hi]
  · simp [un]
  · intro k _ hk
    have : ¬ i = k := fun z => hk z.symm
    simp [un, this]
theorem pr_unR {n : Nat} (f : Nat → Nat → Int) (i : Nat) {j : Nat} (hj : j < n) : pr n f un i j = f i j := by
  unfold pr
  rw [sm_one (p := j) hj]
  · simp [un]
  · intro k _ hk
    simp [un, hk]
theorem pr_cong {n : Nat} {f f' g g' : Nat → Nat → Int} {i j : Nat} (h1 : ∀ k, k < n → f i k = f' i k) (h2 : ∀ k, k < n → g k j = g' k j) : pr n f g i j = pr n f' g' i j := sm_cong fun k hk => by rw [h1 k hk, h2 k hk]
/-- the same by N -/
def eqM (N : Int) (n : Nat) (f g : Nat → Nat → Int) : Prop := ∀ i, i < n → ∀ j, j < n → f i j % N = g i j % N
theorem eqM.refl {N : Int} {n : Nat} (f : Nat → Nat → Int) : eqM N n f f := fun _ _ _ _ => rfl
theorem eqM.symm {N : Int} {n : Nat} {f g : Nat → Nat → Int} (h : eqM N n f g) : eqM N n g f := fun i hi j hj => (h i hi j hj).symm
theorem eqM.trans {N : Int} {n : Nat} {f g h : Nat → Nat → Int} (a : eqM N n f g) (b : eqM N n g h) : eqM N n f h := fun i hi j hj => (a i hi j hj).trans (b i hi j hj)
theorem eqM.of {N : Int} {n : Nat} {f g : Nat → Nat → Int} (h : ∀ i, i < n → ∀ j, j < n → f i j = g i j) : eqM N n f g := fun i hi j hj => by rw [h i hi j hj]
theorem mul_mod' {a b c d N : Int} (h1 : a % N = c % N) (h2 : b % N = d % N) : (a * b) % N = (c * d) % N := by rw [Int.mul_emod, h1, h2, ← Int.mul_emod]
theorem eqM.pr {N : Int} {n : Nat} {f f' g g' : Nat → Nat → Int} (a : eqM N n f f') (b : eqM N n g g') : eqM N n (pr n f g) (pr n f' g') := fun i hi j hj => sm_mod fun k hk => mul_mod' (a i hi k hk) (b k hk j hj)
theorem eqM.assoc {N : Int} {n : Nat} (f g h : Nat → Nat → Int) : eqM N n (Mn.pr n (Mn.pr n f g) h) (Mn.pr n f (Mn.pr n g h)) := .of fun i _ j _ => pr_assoc n f g h i j
theorem eqM.unL {N : Int} {n : Nat} (f : Nat → Nat → Int) : eqM N n (Mn.pr n un f) f := .of fun i hi j _ => pr_unL f hi j
theorem eqM.unR {N : Int} {n : Nat} (f : Nat → Nat → Int) : eqM N n (Mn.pr n f un) f := .of fun i _ j hj => pr_unR f i hj
theorem eqM.tr {N : Int} {n : Nat} {f g : Nat → Nat → Int} (h : eqM N n f g) : eqM N n (fun i j => f j i) (fun i j => g j i) := fun i hi j hj => h j hj i hi
theorem pr_tr (n : Nat) (f g : Nat → Nat → Int) (i j : Nat) : pr n f g j i = pr n (fun a b => g b a) (fun a b => f b a) i j := sm_cong fun k _ => Int.mul_comm _ _
theorem det_un : ∀ n : Nat, det n un = 1
  | 0 => rfl
  | n + 1 => by
    rw [det_succ, sm_one (p := 0) (by omega)]
    · have : det n (mnr un 0 0) = det n un := det_cong fun a _ b _ => by
        unfold mnr un
        rw [sk0, sk0]
        by_cases h : a = b
        · rw [if_pos h, if_pos (by omega)]
        · rw [if_neg h, if_neg (by omega)]
      rw [this, det_un n]
      rfl
    · intro i _ hi
      have : un 0 i = 0 := by unfold un; rw [if_neg fun z => hi z.symm]
      rw [this]; simp
/-! ### one item of the unit put in -/
def el (p q : Nat) (c : Int) : Nat → Nat → Int := upd un p q c
theorem pr_el {n p q : Nat} (M : Nat → Nat → Int) (c : Int) (hp : p < n) (hq : q < n) {i j : Nat} (hj : j < n) : pr n M (el p q c) i j = cs M q (fun i => if p = q then c * M i q else M i q + c * M i p) i j := by
  unfold cs
  by_cases e : j = q
  · subst e
    rw [if_pos rfl]
    unfold pr el upd
    by_cases h : p = j
    · subst h
      dsimp only
      rw [if_pos rfl, sm_one (p := p) hp]
      · rw [if_pos ⟨rfl, rfl⟩, Int.mul_comm]
      · intro k _ hk
        rw [if_neg fun z => hk z.1]
        simp [un, hk]
    · dsimp only
      rw [if_neg h]
      have key : ∀ k, (M i k * if k = p ∧ j = j then c else un k j) = (M i k * if k = p then c else 0) + M i k * un k j := fun k => by
        by_cases z : k = p
        · subst z
          simp [un, h]
        · simp [z]
      rw [sm_cong fun k _ => key k, sm_plus, sm_one (p := p) hp, sm_one (p := j) hq]
      · simp [un]
        rw [Int.mul_comm c]; omega
      · intro k _ hk
        simp [un, hk]
      · intro k _ hk
        simp [hk]
  · rw [if_neg e]
    have : pr n M (el p q c) i j = pr n M un i j := pr_cong (fun _ _ => rfl) fun k _ => by
      unfold el upd
      rw [if_neg fun z => e z.2]
    rw [this, pr_unR M i hj]
theorem det_el {n p q : Nat} (M : Nat → Nat → Int) (c : Int) (hp : p < n) (hq : q < n) : det n (pr n M (el p q c)) = det n M * (if p = q then c else 1) := by
  rw [det_cong fun i _ j hj => pr_el M c hp hq (i := i) hj]
  by_cases h : p = q
  · subst h
    simp only [if_pos]
    rw [det_scale M c (fun i => M i p) hp, cs_self, Int.mul_comm]
  · simp only [if_neg h]
    have hz : det n (cs M q fun i => M i p) = 0 := det_eqc hp hq h fun i _ => by
      unfold cs
      rw [if_neg h, if_pos rfl]
    rw [det_addc M (fun i => M i q) (fun i => c * M i p) hq, cs_self, det_scale M c (fun i => M i p) hq, hz, Int.mul_one]
    omega
/-! ### inverses by 2^w -/
theorem newton {a x N : Int} (h : (a * x) % N = 1 % N) : (a * (x * (2 - a * x))) % (N * N) = 1 % (N * N) := by
  obtain ⟨t, ht⟩ : ∃ t, a * x = 1 + N * t := by
    have : N ∣ a * x - 1 := Int.dvd_of_emod_eq_zero (by rw [Int.sub_emod, h]; simp)
    obtain ⟨t, ht⟩ := this
    exact ⟨t, by omega⟩
  have e : a * (x * (2 - a * x)) = 1 + N * N * (-(t * t)) := by
    have : a * (x * (2 - a * x)) = (a * x) * (2 - a * x) := by rw [Int.mul_assoc]
    rw [this, ht]
    grind
  rw [e, Int.add_mul_emod_self_left]
theorem mod_of_dvd {a b N M : Int} (h : a % N = b % N) (d : M ∣ N) : a % M = b % M := by
  rw [← Int.emod_emod_of_dvd a d, h, Int.emod_emod_of_dvd b d]
theorem odd_inv {a : Int} (ha : a % 2 = 1) (w : Nat) : ∃ x, (a * x) % 2 ^ w = 1 % 2 ^ w := by
  have key : ∀ k : Nat, ∃ x, (a * x) % 2 ^ (2 ^ k) = 1 % 2 ^ (2 ^ k) := by
    intro k
    induction k with
    | zero => exact ⟨1, by rw [Int.mul_one]; simpa using ha⟩
    | succ k ih =>
      obtain ⟨x, h⟩ := ih
      refine ⟨x * (2 - a * x), ?_⟩
      have e : (2 : Int) ^ (2 ^ (k + 1)) = 2 ^ (2 ^ k) * 2 ^ (2 ^ k) := by
        rw [← Int.pow_add, Nat.pow_succ, Nat.mul_two]
      rw [e]
      exact newton h
  obtain ⟨x, h⟩ := key w
  refine ⟨x, mod_of_dvd h ?_⟩
  have : w ≤ 2 ^ w := Nat.le_of_lt Nat.lt_two_pow_self
  obtain ⟨d, hd⟩ : ∃ d, 2 ^ w = w + d := ⟨2 ^ w - w, by omega⟩
  rw [hd, Int.pow_add]
  exact Int.dvd_mul_right _ _
/-- a change: odd, its determinant goes through products, undone at each width -/
structure Chg (n : Nat) (f : Nat → Nat → Int) : Prop where
  odd : det n f % 2 = 1
  mul : ∀ M, det n (pr n M f) = det n M * det n f
  inv : ∀ w : Nat, ∃ g, eqM (2 ^ w) n (pr n f g) un ∧ eqM (2 ^ w) n (pr n g f) un
theorem Chg.un (n : Nat) : Chg n un := ⟨by rw [det_un]; rfl, fun M => by
  rw [det_un, Int.mul_one]
  exact det_cong fun i _ j hj => pr_unR M i hj, fun w => ⟨Mn.un, .unL _, .unL _⟩⟩
theorem el_el {n p q : Nat} {c d : Int} {N : Int} (hp : p < n) (hq : q < n) (h : if p = q then (c * d) % N = 1 % N else c + d = 0) : eqM N n (pr n (el p q c) (el p q d)) un := fun i hi j hj => by
  rw [pr_el _ d hp hq hj]
  unfold cs
  by_cases e : j = q
  · subst e
    rw [if_pos rfl]
    by_cases z : p = j
    · subst z
      dsimp only
      rw [if_pos rfl] at h ⊢
      unfold el upd
      by_cases y : i = p
      · subst y
        rw [if_pos ⟨rfl, rfl⟩, Int.mul_comm, h]
        simp [un]
      · rw [if_neg fun x => y x.1]
        simp [un, y]
    · dsimp only
      rw [if_neg z] at h ⊢
      unfold el upd
      by_cases y : i = p
      · subst y
        rw [if_pos ⟨rfl, rfl⟩, if_neg fun x => z x.2]
        have : c + d * un i i = 0 := by simp [un]; omega
        rw [this]
        simp [un, z]
      · rw [if_neg fun x => y x.1, if_neg fun x => y x.1]
        simp [un, y]
  · rw [if_neg e]
    unfold el upd
    rw [if_neg fun x => e x.2]
theorem Chg.step {n p q : Nat} {f : Nat → Nat → Int} (h : Chg n f) (c : Int) (hp : p < n) (hq : q < n) (hc : p = q → c % 2 = 1) : Chg n (pr n f (el p q c)) where
  odd := by
    rw [det_el f c hp hq]
    have ho := h.odd
    split
    · rename_i e
      rw [Int.mul_emod, ho, hc e]; rfl
    · rw [Int.mul_one]; exact ho
  mul := fun M => by
    rw [det_el f c hp hq, ← Int.mul_assoc, ← h.mul M, ← det_el (pr n M f) c hp hq]
    exact det_cong fun i _ j _ => (pr_assoc n M f _ i j).symm
  inv := fun w => by
    obtain ⟨g, h1, h2⟩ := h.inv w
    obtain ⟨d, hd1, hd2⟩ : ∃ d : Int, (if p = q then (c * d) % 2 ^ w = 1 % 2 ^ w else c + d = 0) ∧ (if p = q then (d * c) % 2 ^ w = 1 % 2 ^ w else d + c = 0) := by
      by_cases e : p = q
      · obtain ⟨d, hd⟩ := odd_inv (hc e) w
        exact ⟨d, by rw [if_pos e]; exact hd, by rw [if_pos e, Int.mul_comm]; exact hd⟩
      · exact ⟨-c, by rw [if_neg e]; omega, by rw [if_neg e]; omega⟩
    have k1 := el_el (N := 2 ^ w) hp hq hd1
    have k2 := el_el (N := 2 ^ w) hp hq hd2
    refine ⟨pr n (el p q d) g, ?_, ?_⟩
    · -- (f E)(E' g)
      refine (eqM.assoc f (el p q c) _).trans ((eqM.pr (eqM.refl f) ?_).trans h1)
      exact (eqM.assoc (el p q c) (el p q d) g).symm.trans ((eqM.pr k1 (eqM.refl g)).trans (eqM.unL g))
    · refine (eqM.assoc (el p q d) g _).trans ((eqM.pr (eqM.refl _) ?_).trans k2)
      exact (eqM.assoc g f _).symm.trans ((eqM.pr h2 (eqM.refl _)).trans (eqM.unL _))
/-- Cramer's rule -/
theorem cramer {m : Nat} {N : Int} {A g : Nat → Nat → Int} (h : eqM N (m + 1) (pr (m + 1) A g) un) {i j : Nat} (hi : i < m + 1) (hj : j < m + 1) : (g i j * det (m + 1) A) % N = (sg (i + j) * det m (mnr A j i)) % N := by
  have h1 := det_comb A (fun k => g k j) hi
  have h2 := det_cof m (i := i) (j := j) (f := cs A i fun a => un a j) hi hj fun a _ => by
    unfold cs un
    rw [if_pos rfl]
  rw [mnr_cs_same] at h2
  rw [← h1, ← h2]
  refine det_mod fun a ha b _ => ?_
  unfold cs
  by_cases e : b = i
  · rw [if_pos e, if_pos e, ← h a ha j hj]
    unfold pr
    dsimp only
    rw [sm_cong fun k _ => Int.mul_comm (g k j) (A a k)]
  · rw [if_neg e, if_neg e]
/-- the change that undoes, by its cofactors -/
theorem undone_eq {m : Nat} {N d : Int} {A g B : Nat → Nat → Int} (h : eqM N (m + 1) (pr (m + 1) A g) un) (hd : (det (m + 1) A * d) % N = 1 % N)
    (hB : ∀ i, i < m + 1 → ∀ j, j < m + 1 → B i j % N = (sg (i + j) * det m (mnr A j i) * d) % N) : eqM N (m + 1) B g := fun i hi j hj => by
  rw [hB i hi j hj, Int.mul_emod, ← cramer h hi hj, ← Int.mul_emod, Int.mul_assoc, Int.mul_emod, hd, ← Int.mul_emod, Int.mul_one]
/-! ### how great -/
theorem det_bd {b : Nat} : ∀ (n : Nat) {f : Nat → Nat → Int}, n ≤ 8 → smallM n b f → (det n f).natAbs < 2 ^ (n * (b + 5) + 1)
  | 0, f, _, _ => by show (1 : Int).natAbs < _; exact Nat.one_lt_two_pow (by omega)
  | n + 1, f, hn, h => by
    rw [det_succ]
    have := sm_sum (a := b + 1 + (n * (b + 5) + 1)) (g := fun j => sg j * f 0 j * det n (mnr f 0 j)) (n + 1) (fun j hj => by
      have ih := det_bd n (f := mnr f 0 j) (by omega) fun x hx y hy => h _ (sk_lt hx) _ (sk_lt hy)
      have s1 : (sg j * f 0 j).natAbs < 2 ^ (b + 1) := by
        have h0 := sm_up (h 0 (by omega) j hj) (show b ≤ b + 1 by omega)
        unfold sg
        split
        · rw [Int.one_mul]; exact h0
        · rw [Int.neg_mul, Int.one_mul, Int.natAbs_neg]; exact h0
      exact sm_mul s1 ih) hn
    refine sm_up this ?_
    rw [Nat.succ_mul]
    omega
end Mn

namespace Mn
open PySem PySem.Spec PyProof.Rows L2
/-! ### list(zip(a, b, strict=True)) -/
section
variable {prog : Program} {w : World} {A : Around} {E : Value → Shared → Prop} {s : Shared}
theorem wpAny_loadIfAlive {M : Model} {a : Addr} {Q : Option Obj → Shared → Prop} (h : Q (s.heap.get? a) s) : wpAny M A (loadIfAlive a) Q E s := fun Γ p _ => by
  unfold loadIfAlive
  rw [Sem.wp_loadIfAlive]
  exact h
abbrev IsZipB (h : Heap) (z TI TO T : Addr) (b : Bool) : Prop :=
  h.get? z = some { cls := .type "zip", dict := none, data := .fields #[rawInt T, .bool b, .bool true, .ref TI, .ref TO], slots := #[] }
theorem ownedBusy {z TI TO T : Addr} {b : Bool} {oT : Obj} {Q : Bool → Shared → Prop} (hz : IsZipB s.heap z TI TO T b) (hT : s.heap.get? T = some oT)
    (hQ : ∀ h', IsZipB h' z TI TO T true → (h' = s.heap ∨ Heap.SameBut z s.heap h') → Q false { s with heap := h' }) : wpAny (model prog w) A (Builtin.SmallTypes.ownedTupleIsFree (.ref z)) Q E s := by
  unfold Builtin.SmallTypes.ownedTupleIsFree
  refine wpAny_bind (wpAny_field hz rfl (x := rawInt T) rfl ?_)
  show wpAny _ _ (loadIfAlive ((T : Int)).toNat >>= _) _ _ _
  refine wpAny_bind (wpAny_loadIfAlive ?_)
  rw [Int.toNat_natCast, hT]
  simp only [Option.isNone_some, Bool.false_eq_true, if_false]
  refine wpAny_bind (wpAny_field hz rfl (x := .bool b) rfl ?_)
  cases b with
  | true =>
    simp
    exact wpAny_pure (hQ s.heap hz (.inl rfl))
  | false =>
    simp
    refine wpAny_bind (wpAny_setField_rec hz (by simp) fun h' hz' hs' => ?_)
    exact wpAny_pure (hQ h' hz' (.inr hs'))
theorem zipB_next_item {z TI TO i1 i2 l1 l2 T : Addr} {k1 k2 : Nat} {xs ys : Array Value} {x y a b : Value} {fb : Bool} {oT : Obj} {Q : Value → Shared → Prop} (D : ZipApart z TI TO i1 i2 l1 l2)
    (hz : IsZipB s.heap z TI TO T fb) (hT : s.heap.get? T = some oT) (hTI : IsPair s.heap TI (.ref i1) (.ref i2))
    (h1 : s.heap.IsListIter i1 l1 k1) (h2 : s.heap.IsListIter i2 l2 k2) (hl1 : s.heap.IsList l1 xs) (hl2 : s.heap.IsList l2 ys) (hx : xs[k1]? = some x) (hy : ys[k2]? = some y)
    (hQ : ∀ h', IsZipB h' z TI TO T true → h'.IsListIter i1 l1 (k1 + 1) → h'.IsListIter i2 l2 (k2 + 1) → IsPair h' s.heap.objs.size x y → h'.objs.size = s.heap.objs.size + 1 →
      (∀ c o, c ≠ z → c ≠ i1 → c ≠ i2 → s.heap.get? c = some o → h'.get? c = some o) → Q (.ref s.heap.objs.size) { s with heap := h' }) :
    wpAny (model prog w) A (Builtin.«zip.__next__» ⟨[.ref z], []⟩) (fun fin s' => ∃ v, fin = .done (.ret v) ∧ Q v s') E s := by
  show wpAny _ _ (field (.ref z) 2 >>= _) _ _ _
  refine wpAny_bind (wpAny_field hz rfl (x := .bool true) rfl ?_)
  show wpAny _ _ (field (.ref z) 3 >>= _) _ _ _
  refine wpAny_bind (wpAny_field hz rfl (x := .ref TI) rfl ?_)
  refine wpAny_bind (wpAny_seqItems hTI rfl ?_)
  show wpAny _ _ (Builtin.SmallTypes.ownedTupleIsFree (.ref z) >>= _) _ _ _
  refine wpAny_bind (ownedBusy hz hT fun h₁ hz₁ hs₁ => ?_)
  simp only [Bool.false_eq_true, if_false]
  have k₁ : ∀ c o, c ≠ z → s.heap.get? c = some o → h₁.get? c = some o := fun c o hc e => by
    rcases hs₁ with rfl | hs
    · exact e
    · exact hs.extBut _ _ hc e
  have sz₁ : h₁.objs.size = s.heap.objs.size := by
    rcases hs₁ with rfl | hs
    · rfl
    · exact hs.1
  refine wpAny_bind ?_
  simp only [List.forIn_toArray, List.forIn_cons, List.forIn_nil]
  refine wpAny_bind (wpAny_bind (wpAny_holding ?_))
  show wpAny _ _ (Builtin.SmallTypes.nextOrEnd (.ref i1)) _ _ _
  have h1₁ : h₁.IsListIter i1 l1 k1 := h1.at fun o e => k₁ _ o D.i1z e
  have hl1₁ : h₁.IsList l1 xs := hl1.at fun o e => k₁ _ o D.l1z e
  refine (nextOrEnd_item h1₁ hl1₁ hx fun h₂ h1₂ hs₂ => ?_)
  refine wpAny_pure ?_
  dsimp only
  refine wpAny_bind (wpAny_bind (wpAny_holding ?_))
  show wpAny _ _ (Builtin.SmallTypes.nextOrEnd (.ref i2)) _ _ _
  have h2₂ : h₂.IsListIter i2 l2 k2 := (h2.at fun o e => k₁ _ o D.i2z e).extBut hs₂.extBut D.i12.symm
  have hl2₂ : h₂.IsList l2 ys := (hl2.at fun o e => k₁ _ o D.l2z e).extBut hs₂.extBut D.l2i1
  refine (nextOrEnd_item h2₂ hl2₂ hy fun h₃ h2₃ hs₃ => ?_)
  refine wpAny_pure ?_
  dsimp only
  refine wpAny_pure ?_
  dsimp only
  show wpAny _ _ (newTuple [x, y] >>= _) _ _ _
  refine wpAny_bind (wpAny_newTuple ?_)
  have hsz : h₃.objs.size = s.heap.objs.size := by rw [hs₃.1, hs₂.1, sz₁]
  have hk₃ : ∀ c o, c ≠ z → c ≠ i1 → c ≠ i2 → s.heap.get? c = some o → h₃.get? c = some o := fun c o c1 c2 c3 e => hs₃.extBut _ _ c3 (hs₂.extBut _ _ c2 (k₁ c o c1 e))
  have hz₃ : IsZipB h₃ z TI TO T true := hs₃.extBut _ _ D.i2z.symm (hs₂.extBut _ _ D.i1z.symm hz₁)
  have h1₃ : h₃.IsListIter i1 l1 (k1 + 1) := h1₂.extBut hs₃.extBut D.i12
  refine wpAny_pure ⟨_, rfl, ?_⟩
  have up : ∀ c o, h₃.get? c = some o → (h₃.push { cls := .type "tuple", data := .seq #[x, y] }).get? c = some o := fun c o e => Heap.get?_push_of_some _ e
  have hT₄ : IsPair (h₃.push { cls := .type "tuple", data := .seq #[x, y] }) h₃.objs.size x y := Heap.get?_push_size _ rfl
  show Q (.ref h₃.objs.size) _
  rw [hsz] at hT₄ ⊢
  exact hQ _ (up _ _ hz₃) (h1₃.at fun o e => up _ o e) (h2₃.at fun o e => up _ o e) hT₄ (by rw [Heap.size_push, hsz]) fun c o c1 c2 c3 e => up c o (hk₃ c o c1 c2 c3 e)
theorem zipB_next_end {z TI TO i1 i2 l1 l2 T : Addr} {k1 k2 : Nat} {xs ys : Array Value} {fb : Bool} {oT : Obj} {Q : Fin → Shared → Prop} (hh : A.handled = none) (D : ZipApart z TI TO i1 i2 l1 l2)
    (hz : IsZipB s.heap z TI TO T fb) (hT : s.heap.get? T = some oT) (hTI : IsPair s.heap TI (.ref i1) (.ref i2))
    (h1 : s.heap.IsListIter i1 l1 k1) (h2 : s.heap.IsListIter i2 l2 k2) (hl1 : s.heap.IsList l1 xs) (hl2 : s.heap.IsList l2 ys) (hx : xs[k1]? = none) (hy : ys[k2]? = none)
    (hE : ∀ h' e, (∀ c o, c ≠ z → c ≠ i1 → c ≠ i2 → s.heap.get? c = some o → h'.get? c = some o) → (∃ o, h'.get? e = some o ∧ o.cls = .type "StopIteration") → E (.ref e) { s with heap := h' }) :
    wpAny (model prog w) A (Builtin.«zip.__next__» ⟨[.ref z], []⟩) Q E s := by
  show wpAny _ _ (field (.ref z) 2 >>= _) _ _ _
  refine wpAny_bind (wpAny_field hz rfl (x := .bool true) rfl ?_)
  show wpAny _ _ (field (.ref z) 3 >>= _) _ _ _
  refine wpAny_bind (wpAny_field hz rfl (x := .ref TI) rfl ?_)
  refine wpAny_bind (wpAny_seqItems hTI rfl ?_)
  show wpAny _ _ (Builtin.SmallTypes.ownedTupleIsFree (.ref z) >>= _) _ _ _
  refine wpAny_bind (ownedBusy hz hT fun h₁ hz₁ hs₁ => ?_)
  simp only [Bool.false_eq_true, if_false]
  have k₁ : ∀ c o, c ≠ z → s.heap.get? c = some o → h₁.get? c = some o := fun c o hc e => by
    rcases hs₁ with rfl | hs
    · exact e
    · exact hs.extBut _ _ hc e
  refine wpAny_bind ?_
  simp only [List.forIn_toArray, List.forIn_cons, List.forIn_nil]
  refine wpAny_bind (wpAny_bind (wpAny_holding ?_))
  show wpAny _ _ (Builtin.SmallTypes.nextOrEnd (.ref i1)) _ _ _
  refine (nextOrEnd_end hh (h1.at fun o e => k₁ _ o D.i1z e) (hl1.at fun o e => k₁ _ o D.l1z e) hx fun h₂ hs₂ => ?_)
  have k₂ : ∀ c o, c ≠ z → c ≠ i1 → s.heap.get? c = some o → h₂.get? c = some o := fun c o c1 c2 e => hs₂ _ _ c2 (k₁ c o c1 e)
  dsimp only
  refine wpAny_bind ?_
  show wpAny _ _ (forIn [(Value.ref i2, 1)] _ _ >>= _) _ _ _
  simp only [List.forIn_cons, List.forIn_nil]
  refine wpAny_bind (wpAny_bind ?_)
  show wpAny _ _ (Builtin.SmallTypes.nextOrEnd (.ref i2) >>= _) _ _ _
  have h2₂ : Heap.IsListIter h₂ i2 l2 k2 := h2.at fun o e => k₂ _ o D.i2z D.i12.symm e
  have l2₂ : Heap.IsList h₂ l2 ys := hl2.at fun o e => k₂ _ o D.l2z D.l2i1 e
  refine wpAny_bind (nextOrEnd_end hh h2₂ l2₂ hy fun h₄ hs₄ => ?_)
  refine wpAny_pure (wpAny_pure (wpAny_bind (wpAny_rule ?_)))
  refine stop_raise hh fun h₅ e k5 ho => ?_
  exact hE h₅ e (fun c o c1 c2 c3 q => k5 c o (hs₄ _ _ c3 (k₂ c o c1 c2 q))) ho
theorem pyNext_zipB_item {z TI TO i1 i2 l1 l2 T : Addr} {k1 k2 : Nat} {xs ys : Array Value} {x y : Value} {fb : Bool} {oT : Obj} {Q : Option Value → Shared → Prop} (D : ZipApart z TI TO i1 i2 l1 l2)
    (hz : IsZipB s.heap z TI TO T fb) (hT : s.heap.get? T = some oT) (hTI : IsPair s.heap TI (.ref i1) (.ref i2))
    (h1 : s.heap.IsListIter i1 l1 k1) (h2 : s.heap.IsListIter i2 l2 k2) (hl1 : s.heap.IsList l1 xs) (hl2 : s.heap.IsList l2 ys) (hx : xs[k1]? = some x) (hy : ys[k2]? = some y)
    (hQ : ∀ h', IsZipB h' z TI TO T true → h'.IsListIter i1 l1 (k1 + 1) → h'.IsListIter i2 l2 (k2 + 1) → IsPair h' s.heap.objs.size x y → h'.objs.size = s.heap.objs.size + 1 →
      (∀ c o, c ≠ z → c ≠ i1 → c ≠ i2 → s.heap.get? c = some o → h'.get? c = some o) → Q (some (.ref s.heap.objs.size)) { s with heap := h' }) :
    wpAny (model prog w) A (pyNext (.ref z)) Q E s := by
  have hT' : s.TypeIs (.ref z) "zip" := ⟨_, hz, rfl⟩
  unfold pyNext
  exact wpAny_bind (wpAny_attempt (wpAny_callSpecial?_slot (name := Str.ofString "__next__") hT' PySem.F.slot_zip_next
    (wpAny_call_entry PySem.F.slot_zip_next hT' PySem.F.entry_zip_next
      (zipB_next_item (a := .none) (b := .none) D hz hT hTI h1 h2 hl1 hl2 hx hy fun h' a1 a3 a4 a5 a6 a7 => wpAny_pure (hQ h' a1 a3 a4 a5 a6 a7)) (PySem.F.args_zip_next_1 _))))
theorem pyNext_zipB_end {z TI TO i1 i2 l1 l2 T : Addr} {k1 k2 : Nat} {xs ys : Array Value} {fb : Bool} {oT : Obj} {Q : Option Value → Shared → Prop} (hh : A.handled = none) (D : ZipApart z TI TO i1 i2 l1 l2)
    (hz : IsZipB s.heap z TI TO T fb) (hT : s.heap.get? T = some oT) (hTI : IsPair s.heap TI (.ref i1) (.ref i2))
    (h1 : s.heap.IsListIter i1 l1 k1) (h2 : s.heap.IsListIter i2 l2 k2) (hl1 : s.heap.IsList l1 xs) (hl2 : s.heap.IsList l2 ys) (hx : xs[k1]? = none) (hy : ys[k2]? = none)
    (hQ : ∀ h', (∀ c o, c ≠ z → c ≠ i1 → c ≠ i2 → s.heap.get? c = some o → h'.get? c = some o) → Q none { s with heap := h' }) : wpAny (model prog w) A (pyNext (.ref z)) Q E s := by
  have hT' : s.TypeIs (.ref z) "zip" := ⟨_, hz, rfl⟩
  unfold pyNext
  refine wpAny_bind (wpAny_attempt (wpAny_callSpecial?_slot (name := Str.ofString "__next__") hT' PySem.F.slot_zip_next
    (wpAny_call_entry PySem.F.slot_zip_next hT' PySem.F.entry_zip_next (zipB_next_end hh D hz hT hTI h1 h2 hl1 hl2 hx hy fun h' e hk he => ?_) (PySem.F.args_zip_next_1 _))))
  obtain ⟨o, ho, hc⟩ := he
  refine wpAny_bind (wpAny_isInstance (T := "StopIteration") (b := true) ⟨o, ho, hc⟩ isSubtype_stop ?_)
  exact wpAny_pure (hQ _ hk)
end
/-- the state of list(zip(..)) behind k turns -/
structure ZL (h0 h : Heap) (S z TI TO i1 i2 l1 l2 : Addr) (xs ys : Array Value) (k : Nat) (Ts : List Addr) : Prop where
  kp : ∀ b o, h0.get? b = some o → h.get? b = some o
  len : Ts.length = k
  lst : ∃ c, h.get? S = some (lstObj (Ts.map Value.ref).toArray c)
  zz : (IsZipS h z TI TO .none ∧ Ts = []) ∨ ∃ T fb oT, IsZipB h z TI TO T fb ∧ h.get? T = some oT ∧ S < T
  to : ∃ a b, IsPair h TO a b
  ti : IsPair h TI (.ref i1) (.ref i2)
  t1 : h.IsListIter i1 l1 k
  t2 : h.IsListIter i2 l2 k
  p1 : h.IsList l1 xs
  p2 : h.IsList l2 ys
  tup : ∀ (j : Nat) (T : Addr), Ts[j]? = some T → ∃ x y, xs[j]? = some x ∧ ys[j]? = some y ∧ IsPair h T x y
  new : ∀ T ∈ Ts, S < T ∧ T < h.objs.size
  srt : Ts.Pairwise (· < ·)
structure ZFix (h0 : Heap) (S z TI TO i1 i2 l1 l2 : Addr) : Prop where
  D : ZipApart z TI TO i1 i2 l1 l2
  n0 : h0.objs.size ≤ z ∧ h0.objs.size ≤ TI ∧ h0.objs.size ≤ TO ∧ h0.objs.size ≤ i1 ∧ h0.objs.size ≤ i2
  up : z < S ∧ TI < S ∧ TO < S ∧ i1 < S ∧ i2 < S
  ls : l1 < h0.objs.size ∧ l2 < h0.objs.size
section
variable {prog : Program} {w : World} {A : Around} {s : Shared} {R : Result → Shared → Prop}
/-- one turn: the pair made, put behind -/
theorem ZL.push {h0 h h' : Heap} {S z TI TO i1 i2 l1 l2 T0 : Addr} {xs ys : Array Value} {k : Nat} {Ts : List Addr} {x y : Value} {fb : Bool} (F : ZFix h0 S z TI TO i1 i2 l1 l2) (L : ZL h0 h S z TI TO i1 i2 l1 l2 xs ys k Ts)
    (hx : xs[k]? = some x) (hy : ys[k]? = some y) (hz : IsZipB h' z TI TO T0 fb) (hT0 : T0 = h.objs.size ∨ (S < T0 ∧ ∃ o, h.get? T0 = some o)) (h1 : h'.IsListIter i1 l1 (k + 1)) (h2 : h'.IsListIter i2 l2 (k + 1)) (hT : IsPair h' h.objs.size x y) (hs : h'.objs.size = h.objs.size + 1)
    (hto : ∃ a b, IsPair h' TO a b) (hk : ∀ c o, c ≠ z → c ≠ TO → c ≠ i1 → c ≠ i2 → h.get? c = some o → h'.get? c = some o) : ZL h0 (h'.update S (Obj.mapSeq (·.push (.ref h.objs.size)))) S z TI TO i1 i2 l1 l2 xs ys (k + 1) (Ts ++ [h.objs.size]) := by
  obtain ⟨c, hS⟩ := L.lst
  have hSl : S < h.objs.size := Heap.lt_size hS
  obtain ⟨u1, u2, u3, u4, u5⟩ := F.up
  obtain ⟨n1, n2, n3, n4, n5⟩ := F.n0
  obtain ⟨m1, m2⟩ := F.ls
  have ne : ∀ {a b : Addr}, a < b → a ≠ b := fun hh => Nat.ne_of_lt hh
  have hS' : h'.get? S = some (lstObj (Ts.map Value.ref).toArray c) := hk S _ (ne u1).symm (ne u3).symm (ne u4).symm (ne u5).symm hS
  have oth : ∀ b o, b ≠ S → h'.get? b = some o → (h'.update S (Obj.mapSeq (·.push (.ref h.objs.size)))).get? b = some o := fun b o hb e => (Heap.get?_update_other _ _ (Ne.symm hb)).trans e
  have big : ∀ b o, S < b → h.get? b = some o → h'.get? b = some o := fun b o hb e => hk b o (ne (Nat.lt_trans u1 hb)).symm (ne (Nat.lt_trans u3 hb)).symm (ne (Nat.lt_trans u4 hb)).symm (ne (Nat.lt_trans u5 hb)).symm e
  have old : ∀ b o, b < h0.objs.size → h.get? b = some o → h'.get? b = some o := fun b o hb e => hk b o (ne (Nat.lt_of_lt_of_le hb n1)) (ne (Nat.lt_of_lt_of_le hb n3)) (ne (Nat.lt_of_lt_of_le hb n4)) (ne (Nat.lt_of_lt_of_le hb n5)) e
  have hTS : h.objs.size ≠ S := (ne hSl).symm
  have zS : h0.objs.size ≤ S := Nat.le_trans n1 (Nat.le_of_lt u1)
  refine ⟨fun b o e => ?_, by rw [List.length_append, L.len]; rfl, ?_, .inr ?_, ?_, ?_, ?_, ?_, ?_, ?_, ?_, ?_, ?_⟩
  · have hb := Heap.lt_size e
    exact oth b o (ne (Nat.lt_of_lt_of_le hb zS)) (old b o hb (L.kp b o e))
  · have q := Heap.get?_update_self (Obj.mapSeq (·.push (Value.ref h.objs.size))) hS' rfl
    refine ⟨c + 1, q.trans ?_⟩
    rw [List.map_append]
    simp [Obj.mapSeq]
  · rcases hT0 with rfl | ⟨hlt, o, ho⟩
    · exact ⟨_, fb, _, oth _ _ (ne u1) hz, oth _ _ hTS hT, hSl⟩
    · exact ⟨_, fb, o, oth _ _ (ne u1) hz, oth _ _ (ne hlt).symm (big _ _ hlt ho), hlt⟩
  · obtain ⟨a, b, e⟩ := hto
    exact ⟨a, b, oth _ _ (ne u3) e⟩
  · exact oth _ _ (ne u2) (hk _ _ F.D.TIz F.D.TITO F.D.TIi1 F.D.TIi2 L.ti)
  · exact h1.at fun o e => oth _ _ (ne u4) e
  · exact h2.at fun o e => oth _ _ (ne u5) e
  · exact L.p1.at fun o e => oth _ _ (ne (Nat.lt_of_lt_of_le m1 zS)) (old _ _ m1 e)
  · exact L.p2.at fun o e => oth _ _ (ne (Nat.lt_of_lt_of_le m2 zS)) (old _ _ m2 e)
  · intro j T e
    by_cases hj : j < Ts.length
    · rw [List.getElem?_append_left hj] at e
      obtain ⟨x', y', q1, q2, q3⟩ := L.tup j T e
      have hT' := (L.new T (List.mem_of_getElem? e)).1
      exact ⟨x', y', q1, q2, oth _ _ (ne hT').symm (big _ _ hT' q3)⟩
    · rw [List.getElem?_append_right (by omega)] at e
      have hj2 : j = k := by
        by_cases q : j - Ts.length = 0
        · have := L.len; omega
        · obtain ⟨r, hr⟩ : ∃ r, j - Ts.length = r + 1 := ⟨j - Ts.length - 1, by omega⟩
          rw [hr] at e; simp at e
      subst hj2
      rw [show j - Ts.length = 0 by have := L.len; omega] at e
      cases e
      exact ⟨x, y, hx, hy, oth _ _ hTS hT⟩
  · intro T hT'
    have hsz : (h'.update S (Obj.mapSeq (·.push (Value.ref h.objs.size)))).objs.size = h.objs.size + 1 := by rw [Heap.size_update, hs]
    rw [hsz]
    rcases List.mem_append.mp hT' with q | q
    · have := L.new T q
      exact ⟨this.1, Nat.lt_succ_of_lt this.2⟩
    · rw [List.mem_singleton.mp q]
      exact ⟨hSl, Nat.lt_succ_self _⟩
  · refine List.pairwise_append.mpr ⟨L.srt, by simp, fun a ha b hb => ?_⟩
    rw [List.mem_singleton.mp hb]
    exact (L.new a ha).2
theorem drainZ {h0 : Heap} {S z TI TO i1 i2 l1 l2 : Addr} {xs ys : Array Value} {res : Value} (hh : A.handled = none) (F : ZFix h0 S z TI TO i1 i2 l1 l2) (hxy : xs.size = ys.size) (hsz : xs.size ≤ sizeLine)
    (hend : ∀ (h' : Heap) (tk : Nat) (Ts : List Addr) (c : Nat), (∀ b o, h0.get? b = some o → h'.get? b = some o) → h'.get? S = some (lstObj (Ts.map Value.ref).toArray c) → Ts.length = xs.size → (∀ (j : Nat) (T : Addr), Ts[j]? = some T → ∃ x y, xs[j]? = some x ∧ ys[j]? = some y ∧ IsPair h' T x y) →
      (∀ T ∈ Ts, S < T) → Ts.Pairwise (· < ·) → R (.ok (.ret res)) { s with heap := h', toks := tk }) :
    ∀ (m k : Nat) (h : Heap) (tk : Nat) (Ts : List Addr), k + m = xs.size → ZL h0 h S z TI TO i1 i2 l1 l2 xs ys k Ts → codeAny (model prog w) A (.builtin "list.extend.loop" ⟨[.ref S, .ref z, res], []⟩) R { s with heap := h, toks := tk } := by
  intro m
  induction m with
  | zero =>
    intro k h tk Ts hk L
    refine codeAny_builtin PySem.F.entry_extend_loop ?_
    rw [Around.under_plainId PySem.F.plain_extend_loop _]
    show wpAny _ A.in1 (pyNext (.ref z) >>= _) _ _ _
    refine wpAny_bind ?_
    have hx : xs[k]? = none := by simp; omega
    have hy : ys[k]? = none := by simp; omega
    obtain ⟨u1, u2, u3, u4, u5⟩ := F.up
    have fin : ∀ h' : Heap, (∀ c o, c ≠ z → c ≠ TO → c ≠ i1 → c ≠ i2 → h.get? c = some o → h'.get? c = some o) → R (.ok (.ret res)) { s with heap := h', toks := tk } := fun h' hk' => by
      obtain ⟨c, hS⟩ := L.lst
      have ne : ∀ {a b : Addr}, a < b → b ≠ a := fun hh => (Nat.ne_of_lt hh).symm
      have big : ∀ b o, S ≤ b → h.get? b = some o → h'.get? b = some o := fun b o hb e => hk' b o (ne (Nat.lt_of_lt_of_le u1 hb)) (ne (Nat.lt_of_lt_of_le u3 hb)) (ne (Nat.lt_of_lt_of_le u4 hb)) (ne (Nat.lt_of_lt_of_le u5 hb)) e
      obtain ⟨n1, n2, n3, n4, n5⟩ := F.n0
      refine hend h' tk Ts c (fun b o e => ?_) (big _ _ (Nat.le_refl _) hS) (by rw [L.len]; omega) (fun j T e => ?_) (fun T hT => (L.new T hT).1) L.srt
      · have hb := Heap.lt_size e
        exact hk' b o (Nat.ne_of_lt (Nat.lt_of_lt_of_le hb n1)) (Nat.ne_of_lt (Nat.lt_of_lt_of_le hb n3)) (Nat.ne_of_lt (Nat.lt_of_lt_of_le hb n4)) (Nat.ne_of_lt (Nat.lt_of_lt_of_le hb n5)) (L.kp b o e)
      · obtain ⟨x, y, q1, q2, q3⟩ := L.tup j T e
        exact ⟨x, y, q1, q2, big _ _ (Nat.le_of_lt (L.new T (List.mem_of_getElem? e)).1) q3⟩
    rcases L.zz with ⟨hz, _⟩ | ⟨T, fb, oT, hz, hT, _⟩
    · obtain ⟨a, b, hTO⟩ := L.to
      exact pyNext_zipS_end (s := { s with heap := h, toks := tk }) hh F.D hz L.ti hTO L.t1 L.t2 L.p1 L.p2 hx hy fun h' hk' => wpAny_pure (fin h' hk')
    · exact pyNext_zipB_end (s := { s with heap := h, toks := tk }) hh F.D hz hT L.ti L.t1 L.t2 L.p1 L.p2 hx hy fun h' hk' => wpAny_pure (fin h' fun c o c1 _ c3 c4 e => hk' c o c1 c3 c4 e)
  | succ m ih =>
    intro k h tk Ts hk L
    refine codeAny_builtin PySem.F.entry_extend_loop ?_
    rw [Around.under_plainId PySem.F.plain_extend_loop _]
    show wpAny _ A.in1 (pyNext (.ref z) >>= _) _ _ _
    refine wpAny_bind ?_
    obtain ⟨x, hx⟩ : ∃ x, xs[k]? = some x := ⟨xs[k]'(by omega), by simp⟩
    obtain ⟨y, hy⟩ : ∃ y, ys[k]? = some y := ⟨ys[k]'(by omega), by simp⟩
    obtain ⟨c, hS⟩ := L.lst
    have hSl : S < h.objs.size := Heap.lt_size hS
    obtain ⟨u1, u2, u3, u4, u5⟩ := F.up
    have ne : ∀ {a b : Addr}, a < b → b ≠ a := fun hh => (Nat.ne_of_lt hh).symm
    have go : ∀ (h' : Heap) (T0 : Addr) (fb : Bool), IsZipB h' z TI TO T0 fb → (T0 = h.objs.size ∨ (S < T0 ∧ ∃ o, h.get? T0 = some o)) → h'.IsListIter i1 l1 (k + 1) → h'.IsListIter i2 l2 (k + 1) → IsPair h' h.objs.size x y → h'.objs.size = h.objs.size + 1 → (∃ a b, IsPair h' TO a b) →
        (∀ c o, c ≠ z → c ≠ TO → c ≠ i1 → c ≠ i2 → h.get? c = some o → h'.get? c = some o) → wpAny (model prog w) A.in1 (updateSeq S (·.push (.ref h.objs.size)) >>= fun _ => again (.builtin "list.extend.loop" ⟨[.ref S, .ref z, res], []⟩))
          (fun fin s' => match fin with | .done f => R (.ok f) s' | .again c' => c'.quiet = true ∧ codeAny (model prog w) A c' R s') (fun e s' => R (.error e) s') { s with heap := h', toks := tk } := fun h' T0 fb hz' hT0 h1 h2 hT hs hto hk' => by
      have hS' : h'.get? S = some (lstObj (Ts.map Value.ref).toArray c) := hk' S _ (ne u1) (ne u3) (ne u4) (ne u5) hS
      refine wpAny_bind (wpAny_updateSeq (s := { s with heap := h', toks := tk }) hS' rfl (wpAny_pure ⟨plainId_quiet PySem.F.plain_extend_loop _, ?_⟩) ?_ ?_)
      · exact ih (k + 1) _ tk (Ts ++ [h.objs.size]) (by omega) (ZL.push F L hx hy hz' hT0 h1 h2 hT hs hto hk')
      · have := L.len
        have hz' := sizeLine_eq
        simp
        omega
      · have := L.len
        have hz' := sizeLine_eq
        simp
        omega
    rcases L.zz with ⟨hz, _⟩ | ⟨T, fb, oT, hz, hT, hST⟩
    · obtain ⟨a, b, hTO⟩ := L.to
      exact pyNext_zipS_item (s := { s with heap := h, toks := tk }) F.D hz L.ti hTO L.t1 L.t2 L.p1 L.p2 hx hy fun h' a1 a2 a3 a4 a5 a6 a7 => go h' _ false a1 (.inl rfl) a3 a4 a5 a6 ⟨_, _, a2⟩ a7
    · exact pyNext_zipB_item (s := { s with heap := h, toks := tk }) F.D hz hT L.ti L.t1 L.t2 L.p1 L.p2 hx hy fun h' a1 a3 a4 a5 a6 a7 => go h' T true a1 (.inr ⟨hST, _, hT⟩) a3 a4 a5 a6 (by
        obtain ⟨a, b, hTO⟩ := L.to
        exact ⟨a, b, a7 _ _ F.D.TOz F.D.TOi1 F.D.TOi2 hTO⟩) fun c o c1 _ c3 c4 e => a7 c o c1 c3 c4 e
end
end Mn

namespace Mn
open PySem PySem.Spec PyProof.Rows L2
theorem zip_no_len : typeLookup (.type "zip") "__len__" = pure none := by rw [typeLookup_type, builtinLookup_eq_fast]; kernel_rfl
theorem zip_no_hint : typeLookup (.type "zip") "__length_hint__" = pure none := by rw [typeLookup_type, builtinLookup_eq_fast]; kernel_rfl
section
variable {prog : Program} {w : World} {A : Around} {E : Value → Shared → Prop} {s : Shared}
/-- list(z), z a strict zip of two lists that has not begun -/
theorem call_list_zip {h0 : Heap} {z TI TO i1 i2 l1 l2 : Addr} {xs ys : Array Value} {Q' : Value → Shared → Prop} (hh : A.handled = none)
    (D : ZipApart z TI TO i1 i2 l1 l2) (n0 : h0.objs.size ≤ z ∧ h0.objs.size ≤ TI ∧ h0.objs.size ≤ TO ∧ h0.objs.size ≤ i1 ∧ h0.objs.size ≤ i2) (hls : l1 < h0.objs.size ∧ l2 < h0.objs.size)
    (kp : ∀ b o, h0.get? b = some o → s.heap.get? b = some o) (hz : IsZipS s.heap z TI TO .none) (hTI : IsPair s.heap TI (.ref i1) (.ref i2)) (hTO : ∃ a b, IsPair s.heap TO a b)
    (h1 : s.heap.IsListIter i1 l1 0) (h2 : s.heap.IsListIter i2 l2 0) (hl1 : s.heap.IsList l1 xs) (hl2 : s.heap.IsList l2 ys) (hxy : xs.size = ys.size) (hsz : xs.size ≤ sizeLine)
    (hQ : ∀ (h' : Heap) (tk : Nat) (S : Addr) (Ts : List Addr) (c : Nat), h0.objs.size ≤ S → (∀ b o, h0.get? b = some o → h'.get? b = some o) → h'.get? S = some (lstObj (Ts.map Value.ref).toArray c) → Ts.length = xs.size →
      (∀ (j : Nat) (T : Addr), Ts[j]? = some T → ∃ x y, xs[j]? = some x ∧ ys[j]? = some y ∧ IsPair h' T x y) → (∀ T ∈ Ts, S < T) → Ts.Pairwise (· < ·) → Q' (.ref S) { s with heap := h', toks := tk }) :
    wpAny (model prog w) A (call (.type "list") [.ref z]) Q' E s := by
  have hzl : z < s.heap.objs.size := Heap.lt_size hz
  have hSz : s.heap.objs.size ≠ z := Nat.ne_of_gt hzl
  refine callType_codes (Q₁ := fun obj s₁ => obj = .ref s.heap.objs.size ∧ s₁ = { s with heap := s.heap.push { cls := .type "list", data := .seq #[] } }) PySem.F.called_list (PySem.F.typeCall_list_1 _) PySem.F.entry_list_init
    (code_list_new _ ⟨rfl, rfl⟩) fun obj s₁ h₁ => ?_
  obtain ⟨rfl, rfl⟩ := h₁
  have hS : (s.heap.push { cls := .type "list", data := .seq #[] }).get? s.heap.objs.size = some { cls := .type "list", data := .seq #[] } := Heap.get?_push_size _ rfl
  refine ⟨⟨_, hS, rfl⟩, PySem.F.args_list_init_2 _ _, ?_⟩
  show wpAny _ A.in1.in1 (do let old ← Builtin.List.listItems (.ref s.heap.objs.size); Builtin.List.listUpdate (.ref s.heap.objs.size) (fun _ => #[]); letGo old.toList.reverse; Builtin.List.listExtendWith (.ref s.heap.objs.size) (.ref z) .none) _ _ _
  refine wpAny_bind ?_
  unfold Builtin.List.listItems
  refine wpAny_bind (wpAny_seqItems hS rfl (wpAny_pure ?_))
  show wpAny _ A.in1.in1 (updateSeq s.heap.objs.size (fun _ => #[]) >>= fun _ => letGo (#[] : Array Value).toList.reverse >>= fun _ => Builtin.List.listExtendWith (.ref s.heap.objs.size) (.ref z) .none) _ _ _
  refine wpAny_bind (wpAny_updateSeq hS rfl ?_)
  have hS2 := Heap.get?_update_self (Obj.mapSeq (fun _ => (#[] : Array Value))) hS rfl
  refine wpAny_bind (wpAny_letGo ?_)
  unfold Builtin.List.listExtendWith
  have up : ∀ (h : Heap) (f : Obj → Obj), (∀ b o, s.heap.get? b = some o → h.get? b = some o) → ∀ b o, s.heap.get? b = some o → (h.update s.heap.objs.size f).get? b = some o := fun h f q b o e =>
    (Heap.get?_update_other _ _ (Ne.symm (Nat.ne_of_lt (Heap.lt_size e)))).trans (q b o e)
  have k1 : ∀ b o, s.heap.get? b = some o → (s.heap.push { cls := .type "list", data := .seq #[] }).get? b = some o := fun b o e => Heap.get?_push_of_some _ e
  have k2 := up _ (Obj.mapSeq (fun _ => (#[] : Array Value))) k1
  have zty : ∀ {h : Heap}, (∀ b o, s.heap.get? b = some o → h.get? b = some o) → ({ s with heap := h } : Shared).TypeIs (.ref z) "zip" := fun {h} q => ⟨_, q _ _ hz, rfl⟩
  refine wpAny_bind (wpAny_typeOf (s := { s with heap := _ }) (zty k2) ?_)
  have e1 : Builtin.List.listSameRef (.ref s.heap.objs.size) (.ref z) = false := by simp [Builtin.List.listSameRef, hSz]
  have e2 : (Value.type "zip" == Value.type "list") = false := by decide
  have e3 : (Value.type "zip" == Value.type "tuple") = false := by decide
  simp only [e1, e2, e3, Bool.or_false, Bool.false_eq_true, if_false]
  refine wpAny_bind (pyIter_zipS (s := { s with heap := _ }) (k2 _ _ hz) ?_)
  refine wpAny_bind (wpAny_holding ?_)
  unfold Builtin.List.listLengthHint
  refine wpAny_bind (wpAny_specialOf (s := { s with heap := _ }) (zty k2) zip_no_len ?_)
  show wpAny _ A.in1.in1 (specialOf (Value.ref z) (Str.ofString "__length_hint__") >>= _) _ _ _
  refine wpAny_bind (wpAny_specialOf (s := { s with heap := _ }) (zty k2) zip_no_hint ?_)
  refine wpAny_pure ?_
  show wpAny _ A.in1.in1 (rule "list.extend.makes-room" >>= fun _ => Builtin.List.listTouch (.ref s.heap.objs.size) >>= fun _ =>
    again (.builtin "list.extend.loop" ⟨[.ref s.heap.objs.size, .ref z, .none], []⟩)) _ _ _
  refine wpAny_bind (wpAny_rule ?_)
  refine wpAny_bind ?_
  show wpAny _ A.in1.in1 (updateSeq s.heap.objs.size (·.push .none) >>= fun _ => updateSeq s.heap.objs.size (·.pop)) _ _ _
  refine wpAny_bind (wpAny_updateSeq hS2 rfl ?_)
  have hS3 := Heap.get?_update_self (Obj.mapSeq (·.push Value.none)) hS2 rfl
  refine wpAny_updateSeq (hz := by seq_fits) hS3 rfl ?_
  have hS4 := Heap.get?_update_self (Obj.mapSeq (·.pop)) hS3 rfl
  have k4 := up _ (Obj.mapSeq (·.pop)) (up _ (Obj.mapSeq (·.push Value.none)) k2)
  refine wpAny_pure ⟨plainId_quiet PySem.F.plain_extend_loop _, ?_⟩
  obtain ⟨n1, n2, n3, n4, n5⟩ := n0
  have zS : h0.objs.size ≤ s.heap.objs.size := Nat.le_trans n1 (Nat.le_of_lt hzl)
  obtain ⟨a, b, hTO⟩ := hTO
  have i1l : i1 < s.heap.objs.size := by obtain ⟨_, e, _⟩ := h1; exact Heap.lt_size e
  have i2l : i2 < s.heap.objs.size := by obtain ⟨_, e, _⟩ := h2; exact Heap.lt_size e
  refine drainZ (s := s) (A := A.in1) (h0 := h0) (xs := xs) (ys := ys) hh ⟨D, ⟨n1, n2, n3, n4, n5⟩, ⟨hzl, Heap.lt_size hTI, Heap.lt_size hTO, i1l, i2l⟩, hls⟩ hxy hsz
    (fun h' tk Ts c q1 q2 q3 q4 q5 q6 => ⟨rfl, hQ h' tk _ Ts c zS q1 q2 q3 q4 q5 q6⟩) xs.size 0 _ s.toks [] (by omega) ⟨fun b o e => k4 b o (kp b o e), rfl, ⟨_, hS4⟩, .inl ⟨k4 _ _ hz, rfl⟩, ⟨a, b, k4 _ _ hTO⟩, k4 _ _ hTI, h1.at fun o e => k4 _ o e, h2.at fun o e => k4 _ o e,
      hl1.at fun o e => k4 _ o e, hl2.at fun o e => k4 _ o e, fun j T e => by simp at e, fun T e => by simp at e, List.Pairwise.nil⟩
end
/-- new tuples, one after the other -/
inductive Pairs : Hp → List (V × V) → List Addr → Hp → Prop where
  | nil {H : Hp} : Pairs H [] [] H
  | snoc {H H' : Hp} {ps : List (V × V)} {rs : List Addr} {x y : V} {T : Addr} : Pairs H ps rs H' → H' T = none → Pairs H (ps ++ [(x, y)]) (rs ++ [T]) (L2.upd H' T (.tup [x, y]))
def tListZip (K : PySem.W.Frag) (ta : TA) : TE := fun σ H Q => ta σ H fun vs H1 => ∃ a b xs ys, vs = [.ref a, .ref b] ∧ SqL K H1 a xs ∧ SqL K H1 b ys ∧ xs.length = ys.length ∧
  ∀ (H2 : Hp) (rs : List Addr) (S : Addr), Pairs H1 (xs.zip ys) rs H2 → H2 S = none → Q (.ref S) (L2.upd H2 S (.lst (rs.map V.ref)))
/-- the tracked heap behind it: n0 and above are new -/
theorem pairs_ok {P : Program} {w : World} {H : Hp} {h0 h : Heap} (hok : HOk P w H h0) (kp : ∀ b o, h0.get? b = some o → h.get? b = some o) {S : Addr} (hS : h0.objs.size ≤ S) : ∀ (ps : List (V × V)) (Ts : List Addr), ps.length = Ts.length →
    (∀ (j : Nat) (T : Addr) (x y : V), Ts[j]? = some T → ps[j]? = some (x, y) → ∃ u u', RelV x u ∧ RelV y u' ∧ IsPair h T u u') → (∀ T ∈ Ts, S < T) → Ts.Pairwise (· < ·) →
    ∃ H', Pairs H ps Ts H' ∧ HOk P w H' h ∧ (∀ b, b < h0.objs.size → H' b = H b) ∧ ∀ b, h0.objs.size ≤ b → b ∉ Ts → H' b = none := by
  intro ps Ts hl
  -- from the back
  have key : ∀ (n : Nat) (ps : List (V × V)) (Ts : List Addr), ps.length = n → Ts.length = n → (∀ (j : Nat) (T : Addr) (x y : V), Ts[j]? = some T → ps[j]? = some (x, y) → ∃ u u', RelV x u ∧ RelV y u' ∧ IsPair h T u u') → (∀ T ∈ Ts, S < T) → Ts.Pairwise (· < ·) →
      ∃ H', Pairs H ps Ts H' ∧ HOk P w H' h ∧ (∀ b, b < h0.objs.size → H' b = H b) ∧ ∀ b, h0.objs.size ≤ b → b ∉ Ts → H' b = none := by
    intro n
    induction n with
    | zero =>
      intro ps Ts hp ht _ _ _
      have e1 : ps = [] := List.length_eq_zero_iff.mp hp
      have e2 : Ts = [] := List.length_eq_zero_iff.mp ht
      subst e1 e2
      exact ⟨H, .nil, hok.kept kp, fun _ _ => rfl, fun b hb _ => hok.fresh hb⟩
    | succ n ih =>
      intro ps Ts hp ht hr hn hs
      obtain ⟨ps', p, rfl⟩ : ∃ ps' p, ps = ps' ++ [p] := ⟨ps.dropLast, ps.getLast (by intro e; rw [e] at hp; cases hp), (List.dropLast_concat_getLast _).symm⟩
      obtain ⟨Ts', T, rfl⟩ : ∃ Ts' T, Ts = Ts' ++ [T] := ⟨Ts.dropLast, Ts.getLast (by intro e; rw [e] at ht; cases ht), (List.dropLast_concat_getLast _).symm⟩
      simp only [List.length_append, List.length_cons, List.length_nil] at hp ht
      have hs' := List.pairwise_append.mp hs
      obtain ⟨H', q1, q2, q3, q4⟩ := ih ps' Ts' (by omega) (by omega) (fun j T0 x y e1 e2 => hr j T0 x y (by rw [List.getElem?_append_left (List.getElem?_eq_some_iff.mp e1).1]; exact e1) (by rw [List.getElem?_append_left (List.getElem?_eq_some_iff.mp e2).1]; exact e2)) (fun T0 h => hn T0 (List.mem_append_left _ h)) hs'.1
      have hTn : T ∉ Ts' := fun hm => Nat.lt_irrefl _ (hs'.2.2 T hm T (by simp))
      have hST : S < T := hn T (by simp)
      have hT0 : H' T = none := q4 T (Nat.le_trans hS (Nat.le_of_lt hST)) hTn
      obtain ⟨x, y⟩ := p
      obtain ⟨u, u', r1, r2, hp'⟩ := hr n T x y (by rw [List.getElem?_append_right (by omega), show n - Ts'.length = 0 by omega]; rfl) (by rw [List.getElem?_append_right (by omega), show n - ps'.length = 0 by omega]; rfl)
      refine ⟨L2.upd H' T (.tup [x, y]), .snoc q1 hT0, fun b o e => ?_, fun b hb => ?_, fun b hb hm => ?_⟩
      · by_cases hbT : b = T
        · subst hbT
          rw [upd_same] at e; cases e
          exact ⟨by show 2 ≤ sizeLine; decide, [u, u'], .cons r1 (.cons r2 .nil), ⟨_, hp', rfl, _, rfl⟩⟩
        · rw [upd_ne hbT] at e
          exact (q2 b o e).stay (fun c v _ q => q) (fun c q => by rw [upd_ne (ne_of_none q hT0)]; exact q) fun c xs q => by rw [upd_ne (ne_of_none q hT0)]; exact q
      · rw [upd_ne (Nat.ne_of_lt (Nat.lt_of_lt_of_le hb (Nat.le_trans hS (Nat.le_of_lt hST)))), q3 b hb]
      · rw [upd_ne (fun z => hm (by simp [z])), q4 b hb (fun z => hm (by simp [z]))]
  exact key ps.length ps Ts rfl hl.symm
theorem pe_listZip {X : Cx} {e e2 : Expr} {ta : TA} {p pos p1 pos1 kpos cpos : Pos} {j : Nat} (hgl : Gl X "list") (hml : X.mg "list" = none) (hg : Gl X "zip") (hm : X.mg "zip" = none) (hc : X.calm = true) (ha : PA X [e, e2] ta)
    (hs : starEach (e :: [e2]) X.env = (false, eval e X.env) :: starEach [e2] X.env := by rfl) (hpl : (backTo pos (starEach (e :: [e2]) X.env)).any (·.1) = false := by rfl)
    (hall : (backToKw pos (keywordEach [⟨some (Str.ofString "strict"), .Constant (.bool true) j cpos, kpos⟩] X.env)).all (·.1.isSome) = true := by rfl)
    (hnone : (backToKw pos (keywordEach [⟨some (Str.ofString "strict"), .Constant (.bool true) j cpos, kpos⟩] X.env)).any (·.1.isNone) = false := by rfl)
    (hks : (backToKw pos (keywordEach [⟨some (Str.ofString "strict"), .Constant (.bool true) j cpos, kpos⟩] X.env)).filterMap (·.1) = [Str.ofString "strict"] := by rfl)
    (hst : starEach [.Call (.Name "zip" p) [e, e2] [⟨some (Str.ofString "strict"), .Constant (.bool true) j cpos, kpos⟩] pos] X.env = (false, eval (.Call (.Name "zip" p) [e, e2] [⟨some (Str.ofString "strict"), .Constant (.bool true) j cpos, kpos⟩] pos) X.env) :: starEach [] X.env := by rfl) :
    PE X (.Call (.Name "list" p1) [.Call (.Name "zip" p) [e, e2] [⟨some (Str.ofString "strict"), .Constant (.bool true) j cpos, kpos⟩] pos] [] pos1) (tListZip X.K ta) := by
  refine ⟨fun pins s σ H Q I h => ?_⟩
  refine wpAny_Call_Name_kw (ld_blt I hgl hml PyProof.Rows.boot_list ?_)
  refine PyProof.Rows.callWith_type1 ?_ hst rfl
  rw [hst]
  show wpAny _ _ (spliced ((false, eval (.Call (.Name "zip" p) [e, e2] [⟨some (Str.ofString "strict"), .Constant (.bool true) j cpos, kpos⟩] pos) X.env) :: backTo pos1 (starEach [] X.env))) _ _ s
  refine Calls.spliced_cons ?_
  refine wpAny_Call_Name_kw (ld_blt I hg hm PyProof.Rows.boot_zip ?_)
  refine callWith_typeKw hpl hnone (evalArgs_kw2 hall (thn (ha.run pos pins s σ H _ I h) fun us s1 ⟨vs, H1, I1, r1, q1⟩ => ?_) hs)
  have hk : PK X [⟨some (Str.ofString "strict"), .Constant (.bool true) j cpos, kpos⟩] (tCons (tC (.bl true)) tNil) := pk_cons pe_bl pk_nil
  refine thn (hk.run pos pins s1 σ H1 (fun zs H2 => zs = [.bl true] ∧ H2 = H1) I1 ⟨rfl, rfl⟩) fun ws s2 ⟨zs, H2, I2, r2, e1, e2⟩ => ?_
  subst e1 e2
  obtain ⟨w0, rfl, rw0⟩ := vals1 r2
  cases rw0
  rw [hks]
  obtain ⟨a, b, xs, ys, ex, hqx, hqy, hlen, q⟩ := q1
  subst ex
  cases r1 with
  | cons r rr =>
    cases rr with
    | cons r' rr =>
      cases rr
      cases r
      cases r'
      obtain ⟨its, rv, p1', hsz1⟩ := I2.list hqx
      obtain ⟨its2, rv2, p2', _⟩ := I2.list hqy
      have la : a < s2.heap.objs.size := p1'.lt
      have lb : b < s2.heap.objs.size := p2'.lt
      have l1 := rv.length
      have l2 := rv2.length
      refine call_zipS p1'.isList p2'.isList fun h' hz hTI hTO h1 h2 hsz hk => ?_
      refine Calls.spliced_nil ?_
      refine call_list_zip (s := { s2 with heap := h' }) (h0 := s2.heap) (xs := its.toArray) (ys := its2.toArray) (I2.ok.hd hc) (PySem.W.ktu_apart s2.heap.objs.size a b la lb)
        ⟨Nat.le_add_right _ _, Nat.le_add_right _ _, Nat.le_add_right _ _, Nat.le_refl _, Nat.le_add_right _ _⟩ ⟨la, lb⟩ hk hz hTI ⟨_, _, hTO⟩ h1 h2 (p1'.isList.at fun o e => hk _ o e) (p2'.isList.at fun o e => hk _ o e)
        (by simp only [List.size_toArray]; omega) (by simp only [List.size_toArray]; omega) fun h'' tk S Ts c hS kp hSo hT1 hT2 hT3 hT4 => ?_
      have hps : (xs.zip ys).length = Ts.length := by rw [List.length_zip, hT1, List.size_toArray]; omega
      obtain ⟨H', u1, u2, u3, u4⟩ := pairs_ok I2.hok kp hS (xs.zip ys) Ts hps (fun j T x y eT ep => by
        obtain ⟨x', y', g1, g2, g3⟩ := hT2 j T eT
        rw [List.getElem?_zip_eq_some] at ep
        obtain ⟨ru, hu, ru'⟩ := rv.get ep.1
        obtain ⟨rv', hv, rv''⟩ := rv2.get ep.2
        have e1 : x' = ru := by
          have : its.toArray[j]? = some ru := by simpa using hu
          rw [this] at g1; cases g1; rfl
        have e2 : y' = rv' := by
          have : its2.toArray[j]? = some rv' := by simpa using hv
          rw [this] at g2; cases g2; rfl
        subst e1 e2
        exact ⟨x', y', ru', rv'', g3⟩) hT3 hT4
      have hSn : H' S = none := u4 S hS fun hm => Nat.lt_irrefl _ (hT3 S hm)
      have valsT : ∀ l : List Addr, Vals (l.map V.ref) (l.map Value.ref) := fun l => by
        induction l with
        | nil => exact .nil
        | cons x l ih => exact .cons rfl ih
      have hTsz : Ts.length ≤ sizeLine := by rw [hT1, List.size_toArray]; omega
      have hok2 : HOk X.prog X.w (L2.upd H' S (.lst (Ts.map V.ref))) h'' := fun b o e => by
        by_cases hb : b = S
        · subst hb
          rw [upd_same] at e; cases e
          exact ⟨by rw [List.length_map]; exact hTsz, Ts.map Value.ref, c, valsT Ts, hSo⟩
        · rw [upd_ne hb] at e
          exact (u2 b o e).stay (fun c v _ q => q) (fun c q => by rw [upd_ne (ne_of_none q hSn)]; exact q) fun c xs q => by rw [upd_ne (ne_of_none q hSn)]; exact q
      have hlow : ∀ b, b < s2.heap.objs.size → L2.upd H' S (.lst (Ts.map V.ref)) b = H2 b := fun b hb => by
        rw [upd_ne (Nat.ne_of_lt (Nat.lt_of_lt_of_le hb hS)), u3 b hb]
      have un : Un X.fs [] H2 (L2.upd H' S (.lst (Ts.map V.ref))) s2.heap h'' := {
        keep := fun b o e _ _ _ => kp b o e
        slot := fun b o e _ _ _ => ⟨o.slots, kp b o e⟩
        free := fun b o e n _ => by rw [hlow b (Heap.lt_size e)]; exact n
        there := fun b o e _ => ⟨o, kp b o e⟩
        tups := fun b xs e => by rw [hlow b (I2.hok b _ e).lt]; exact e
        frzs := fun b o u e => by rw [hlow b (I2.hok b _ e).lt]; exact e
        tbls := fun b ps e => ⟨#[], by rw [hlow b (I2.hok b _ e).lt]; simpa using e⟩ }
      have I3 : Inv X pins σ (L2.upd H' S (.lst (Ts.map V.ref))) { s2 with heap := h'', toks := tk } := I2.un un hok2
      exact ⟨.ref S, _, I3, rfl, q H' Ts S u1 hSn⟩
end Mn

namespace Mn
open PySem PySem.Spec PyProof.Rows L2
/-! ### a < b < c whose parts do things -/
def mChain (o o' : D → D → Option D) (m n l : Env → Option (Cell × Env)) : Env → Option (Cell × Env) := fun ρ => match m ρ with
  | some (c, ρ1) => (match n ρ1 with
    | some (c', ρ2) => (match o c.2 c'.2 with
      | some (.bl true) => (match l ρ2 with
        | some (c'', ρ3) => (match o' c'.2 c''.2 with
          | some d => if d.sc then some ((0, d), ρ3) else none
          | none => none)
        | none => none)
      | some (.bl false) => some ((0, .bl false), ρ2)
      | _ => none)
    | none => none)
  | none => none
section
variable {X : Cx} {a b c e : Expr} {m n l : Env → Option (Cell × Env)} {ms : Env → Option (List D × Env)} {pos : Pos} {σ : L2.St} {H : Hp}
theorem mChain_imp {o o' : D → D → Option D} {r r' : R2} (w : Op2 X o r) (w' : Op2 X o' r') {Q : VK} (h : gS X (mChain o o' m n l) σ H Q) : tChain r r' (gS X m) (gS X n) (gS X l) σ H Q := by
  obtain ⟨B, W, ts, tc, ρ, cl, ρ', r0, hl, e, q⟩ := h
  unfold mChain at e
  split at e
  · rename_i c ρ1 em
    split at e
    · rename_i c' ρ2 en
      refine ⟨B, W, ts, tc, ρ, c, ρ1, r0, hl, em, fun W1 H1 u g1 r1 => ?_⟩
      obtain ⟨W2, g2, r2, hu⟩ := R.pop r1
      refine ⟨B, W2, ts, tc, ρ1, c', ρ2, r2, hl, en, fun W3 H3 v g3 r3 => ?_⟩
      obtain ⟨W4, g4, r4, hv⟩ := R.pop r3
      have g := ((g1.trans g2).trans g3).trans g4
      split at e
      · rename_i eo
        split at e
        · rename_i c'' ρ3 el
          split at e
          · rename_i d ed
            split at e
            · rename_i hs
              cases e
              refine w H3 c.2 c'.2 _ u v _ eo (Rep.mono (g3.sm.trans (g4.sm.trans r4.sw)) _ _ hu) (Rep.mono r4.sw _ _ hv) fun z hz => ⟨true, hz, iteT ?_⟩
              refine ⟨B, W4, ts, tc, ρ2, c'', ρ', r4, hl, el, fun W5 H5 x g5 r5 => ?_⟩
              obtain ⟨W6, g6, r6, hx⟩ := R.pop r5
              exact w' H5 c'.2 c''.2 d v x Q ed (Rep.mono (g5.sm.trans (g6.sm.trans r6.sw)) _ _ hv) (Rep.mono r6.sw _ _ hx) fun z hz => q W6 H5 z ((g.trans g5).trans g6) (r6.pushS hs hz)
            · cases e
          · cases e
        · cases e
      · rename_i eo
        cases e
        exact w H3 c.2 c'.2 _ u v _ eo (Rep.mono (g3.sm.trans (g4.sm.trans r4.sw)) _ _ hu) (Rep.mono r4.sw _ _ hv) fun z hz => ⟨false, hz, iteF (q W4 H3 (.bl false) g (r4.pushS rfl rfl))⟩
      · cases e
    · cases e
  · cases e
theorem g_chain {op op' : CmpOp} {o o' : D → D → Option D} {r r' : R2} (ho : OpR X (compareOp op) r) (ho' : OpR X (compareOp op') r') (w : Op2 X o r) (w' : Op2 X o' r') (ha : PE X a (gS X m)) (hb : PE X b (gS X n)) (hc : PE X c (gS X l))
    (hm : lastMarks [op, op'] [b, c] = false := by with_unfolding_all rfl) : PE X (.Compare a [op, op'] [b, c] pos) (gS X (mChain o o' m n l)) :=
  PEi (pe_chain ho ho' ha hb hc hm) fun σ H Q hq => mChain_imp w w' hq
theorem gt_chain {op op' : CmpOp} {o o' : D → D → Option D} {r r' : R2} (ho : OpR X (compareOp op) r) (ho' : OpR X (compareOp op') r') (w : Op2 X o r) (w' : Op2 X o' r') (ha : PE X a (gS X m)) (hb : PE X b (gS X n)) (hc : PE X c (gS X l))
    (hm : lastMarks [op, op'] [b, c] = false := by with_unfolding_all rfl) : PT X (.Compare a [op, op'] [b, c] pos) (gT X (mtV (mChain o o' m n l))) :=
  PTi (pt_chain ho ho' ha hb hc hm) fun σ H Q ⟨B, W, ts, tc, ρ, cl, ρ', r, hl, em, q⟩ => by
    obtain ⟨k, e⟩ := mtV_some em
    refine mChain_imp w w' ⟨B, W, ts, tc, ρ, _, ρ', r, hl, e, fun W1 H1 v g1 r1 => ?_⟩
    obtain ⟨W2, g2, r2, hu⟩ := R.pop r1
    exact ⟨cl, hu, q W2 H1 (g1.trans g2) r2⟩
/-! ### list(zip(a, b, strict=True)) -/
def mLZ (ms : Env → Option (List D × Env)) : Env → Option (Cell × Env) := fun ρ => match ms ρ with
  | some ([.lst l, .lst k], ρ1) => if l.length = k.length then some ((1, .lst (zipD l k)), ρ1) else none
  | _ => none
theorem zipD_eq : ∀ l k : List D, zipD l k = (l.zip k).map fun p => .tup [p.1, p.2]
  | [], _ => by simp [zipD]
  | _ :: _, [] => by simp [zipD]
  | a :: l, b :: k => by rw [zipD, zipD_eq l k, List.zip_cons_cons, List.map_cons]
theorem pairs_R {K : PySem.W.Frag} {mg : Str → Option Value} {B W1 H1 : Hp} {vs : List (Option V)} {cs : List (Option Cell)} {ps : List (V × V)} {rs : List Addr} {H2 : Hp} (P : Pairs H1 ps rs H2) (r : R K mg B W1 H1 vs cs) :
    ∀ dps : List (D × D), dps.length = ps.length → (∀ (j : Nat) (d : D × D) (p : V × V), dps[j]? = some d → ps[j]? = some p → Rep K mg W1 d.1 p.1 ∧ Rep K mg W1 d.2 p.2) →
      ∃ W2, Gr B W1 W2 ∧ R K mg B W2 H2 vs cs ∧ RepL K mg W2 (dps.map fun d => .tup [d.1, d.2]) (rs.map V.ref) := by
  induction P with
  | nil =>
    intro dps hl _
    have : dps = [] := List.length_eq_zero_iff.mp hl
    subst this
    exact ⟨W1, Gr.refl B W1, r, rfl⟩
  | snoc P' hT ih =>
    rename_i Hm ps rs x y T
    intro dps hl hr
    obtain ⟨dps', d, rfl⟩ : ∃ dps' d, dps = dps' ++ [d] := ⟨dps.dropLast, dps.getLast (by intro e; rw [e] at hl; simp at hl), (List.dropLast_concat_getLast _).symm⟩
    simp only [List.length_append, List.length_cons, List.length_nil] at hl
    obtain ⟨W2, g2, r2, h2⟩ := ih dps' (by omega) fun j d' p e1 e2 => hr j d' p (by rw [List.getElem?_append_left (List.getElem?_eq_some_iff.mp e1).1]; exact e1) (by rw [List.getElem?_append_left (List.getElem?_eq_some_iff.mp e2).1]; exact e2)
    obtain ⟨hx, hy⟩ := hr ps.length d (x, y) (by rw [List.getElem?_append_right (by omega), show ps.length - dps'.length = 0 by omega]; rfl) (by simp)
    obtain ⟨W3, g3, r3⟩ := R.pair (ds := [d.1, d.2]) (xs := [x, y]) r2 ⟨x, [y], rfl, Rep.mono g2.sm _ _ hx, y, [], rfl, Rep.mono g2.sm _ _ hy, rfl⟩ hT
    refine ⟨W3, g2.trans g3, R.drop r3, ?_⟩
    rw [List.map_append, List.map_append]
    exact RepL.append (RepL.mono g3.sm _ _ h2) ⟨.ref T, [], rfl, R.head0 r3, rfl⟩
theorem g_listZip {a b : Expr} {p p1 pos pos1 kpos cpos : Pos} {j : Nat} (hgl : Gl X "list") (hml : X.mg "list" = none) (hg : Gl X "zip") (hm : X.mg "zip" = none) (hc : X.calm = true) (ha : PA X [a, b] (gA X 0 ms))
    (hs : starEach (a :: [b]) X.env = (false, eval a X.env) :: starEach [b] X.env := by rfl) (hpl : (backTo pos (starEach (a :: [b]) X.env)).any (·.1) = false := by rfl)
    (hall : (backToKw pos (keywordEach [⟨some (Str.ofString "strict"), .Constant (.bool true) j cpos, kpos⟩] X.env)).all (·.1.isSome) = true := by rfl)
    (hnone : (backToKw pos (keywordEach [⟨some (Str.ofString "strict"), .Constant (.bool true) j cpos, kpos⟩] X.env)).any (·.1.isNone) = false := by rfl)
    (hks : (backToKw pos (keywordEach [⟨some (Str.ofString "strict"), .Constant (.bool true) j cpos, kpos⟩] X.env)).filterMap (·.1) = [Str.ofString "strict"] := by rfl)
    (hst : starEach [.Call (.Name "zip" p) [a, b] [⟨some (Str.ofString "strict"), .Constant (.bool true) j cpos, kpos⟩] pos] X.env = (false, eval (.Call (.Name "zip" p) [a, b] [⟨some (Str.ofString "strict"), .Constant (.bool true) j cpos, kpos⟩] pos) X.env) :: starEach [] X.env := by rfl) :
    PE X (.Call (.Name "list" p1) [.Call (.Name "zip" p) [a, b] [⟨some (Str.ofString "strict"), .Constant (.bool true) j cpos, kpos⟩] pos] [] pos1) (gS X (mLZ ms)) :=
  PEi (pe_listZip hgl hml hg hm hc ha hs hpl hall hnone hks hst) fun σ H Q ⟨B, W, ts, tc, ρ, cl, ρ', r, hl, em, q⟩ => by
    unfold mLZ at em
    split at em
    · rename_i dl dk ρ1 ex
      split at em
      · rename_i he
        cases em
        refine ⟨B, W, ts, tc, ρ, _, ρ', r, hl, ex, fun W1 H1 vs g1 r1 => ?_⟩
        obtain ⟨u, v, rfl, ⟨a, xs, rfl, h1, h2⟩, ⟨b, ys, rfl, h3, h4⟩⟩ := repL2 (RL.rep0 r1)
        refine ⟨a, b, xs, ys, rfl, (RL.r r1).sw.seq h1.sq, (RL.r r1).sw.seq h3.sq, by rw [h2.length, h4.length, he], fun H2 rs S P hS => ?_⟩
        obtain ⟨W2, g2, r2, hr⟩ := pairs_R P (RL.r r1) (dl.zip dk) (by rw [List.length_zip, List.length_zip, h2.length, h4.length]) fun i d p e1 e2 => by
          rw [List.getElem?_zip_eq_some] at e1 e2
          exact ⟨h2.uniq e1.1 e2.1, h4.uniq e1.2 e2.2⟩
        rw [← zipD_eq] at hr
        exact q W2 _ (.ref S) (g1.trans g2) (RL.lst (RL.of0 r2 hr) hS)
      · cases em
    · cases em
end
section
variable {ρ : Mn.Env} {m n l : Mn.Env → Option (Cell × Mn.Env)} {ms : Mn.Env → Option (List D × Mn.Env)} {o o' : D → D → Option D}
@[simp] theorem e_mChain : mChain o o' m n l ρ = (match m ρ with
  | some (c, ρ1) => (match n ρ1 with
    | some (c', ρ2) => (match o c.2 c'.2 with
      | some (.bl true) => (match l ρ2 with
        | some (c'', ρ3) => (match o' c'.2 c''.2 with
          | some d => if d.sc then some ((0, d), ρ3) else none
          | none => none)
        | none => none)
      | some (.bl false) => some ((0, .bl false), ρ2)
      | _ => none)
    | none => none)
  | none => none) := rfl
@[simp] theorem e_mLZ : mLZ ms ρ = (match ms ρ with
  | some ([.lst l, .lst k], ρ1) => if l.length = k.length then some ((1, .lst (zipD l k)), ρ1) else none
  | _ => none) := rfl
end
end Mn

namespace Mn
open PySem PySem.Spec PyProof.Rows L2
/-! ### for row in rows: .. row is changed .. -/
section
variable {K : PySem.W.Frag} {mg : Str → Option Value} {B W H : Hp} {vs : List (Option V)} {cs : List (Option Cell)}
theorem R.holdItem (r : R K mg B W H vs cs) {i q j k : Nat} {l : List D} {d : D} (e : cs[i]? = some (some (k + 1, .lst l))) (eq : q < cs.length) (hne : i ≠ q) (hj : l[j]? = some d) :
    ∃ (a : Addr) (us : List V) (v : V) (B1 : Hp), vs[i]? = some (some (.ref a)) ∧ H a = some (.lst us) ∧ us.length = l.length ∧ us[j]? = some v ∧ R K mg B1 W H (vs.set q (some v)) ((cs.set i none).set q (some (k, d))) ∧
      ∀ (W1 H1 : Hp) (vs1 : List (Option V)) (cs1 : List (Option Cell)) (k' : Nat) (d' : D), Gr B1 W W1 → R K mg B1 W1 H1 vs1 cs1 → vs1[i]? = some (some (.ref a)) → vs1[q]? = some (some v) → cs1[i]? = some none → cs1[q]? = some (some (k', d')) → k ≤ k' →
        ∃ W2, Gr B W W2 ∧ H1 a = some (.lst us) ∧ R K mg B W2 H1 vs1 ((cs1.set q none).set i (some (k + 1, .lst (l.set j d')))) := by
  have r0 := R.clear r q (vs.getD q none)
  have hvq : vs.set q (vs.getD q none) = vs := by
    have hl := r.length
    refine set_self ?_
    rw [List.getD_eq_getElem?_getD, List.getElem?_eq_getElem (by omega)]
    rfl
  rw [hvq] at r0
  have e0 : (cs.set q none)[i]? = some (some (k + 1, .lst l)) := by rw [List.getElem?_set_ne (fun z => hne z.symm)]; exact e
  obtain ⟨T, h, hT⟩ := r0.ex
  obtain ⟨ov, F, Gc, ev, ⟨u, eu, a, us, G, hu, hHa, hOw, hsum⟩, h3, put⟩ := h.focus e0
  subst hu
  obtain ⟨v, Fj, G0, ej, hown, hG, putL⟩ := OwnL.focus hOw hj
  let Fh : Fp := fun b => (if b = a then 1 else 0) + G0 b
  have tot : ∀ b, T b = Fh b + Fj b + Gc b := fun b => by have := h3 b; have := hsum b; have := hG b; show T b = (if b = a then 1 else 0) + G0 b + Fj b + Gc b; omega
  let B1 : Hp := fun b => if Fh b = 0 then B b else H b
  have b1 : ∀ b, Fh b = 0 → B1 b = B b := fun b hb => if_pos hb
  have b2 : ∀ b, Fh b ≠ 0 → B1 b = H b := fun b hb => if_neg hb
  have thr : ∀ b, Fh b ≠ 0 → ∃ o, H b = some o := fun b hb => by
    cases z : H b with
    | none => exact absurd z (h.there b (by have := tot b; omega))
    | some o => exact ⟨o, rfl⟩
  -- slot i emptied, slot q filled
  have p1 := put W H ov none (fun _ => 0) (Same.refl W) (fun _ _ => rfl) fun _ => rfl
  rw [set_self ev] at p1
  have eq1 : ((cs.set q none).set i none)[q]? = some none := by
    rw [List.getElem?_set_ne hne, List.getElem?_set_self eq]
  obtain ⟨ov2, F2, G2, ev2, hF2, h5, put2⟩ := p1.focus eq1
  have p2 := put2 W H (some v) (some (k, d)) Fj (Same.refl W) (fun _ _ => rfl) ⟨v, rfl, hown⟩
  have ecs : ((cs.set q none).set i none).set q (some (k, d)) = (cs.set i none).set q (some (k, d)) := by
    rw [List.set_comm _ _ hne.symm, List.set_set]
  rw [ecs] at p2
  have hF20 : ∀ b, F2 b = 0 := hF2
  have g2 : ∀ b, G2 b = Gc b := fun b => by have := h5 b; have := hF20 b; omega
  refine ⟨a, us, v, B1, by rw [ev, eu], hHa, hOw.length, ej, ⟨r.sw, fun b o z => ?_, _, p2, fun b => ⟨?_, fun hb => ⟨?_, ?_⟩⟩⟩, ?_⟩
  · by_cases hz : Fh b = 0
    · rw [b1 b hz] at z; exact r.sb b o z
    · rw [b2 b hz] at z; exact z
  · have := (hT b).1; have := tot b; have := g2 b; show Fj b + G2 b ≤ 1; omega
  · have hb' : Fj b + G2 b ≠ 0 := hb
    exact ((hT b).2 (by have := tot b; have := g2 b; omega)).1
  · have hb' : Fj b + G2 b ≠ 0 := hb
    have hz : Fh b = 0 := by have := (hT b).1; have := tot b; have := g2 b; omega
    rw [b1 b hz]
    exact ((hT b).2 (by have := tot b; have := g2 b; omega)).2
  · intro W1 H1 vs1 cs1 k' d' g r1 hvi hvq1 hci hcq hk
    obtain ⟨W2, gw, r2⟩ := R.down r1 hcq hk
    have gg := g.trans gw
    have still : ∀ b, Fh b ≠ 0 → H1 b = H b := fun b hb => by
      obtain ⟨o, z⟩ := thr b hb
      rw [z]
      exact r1.sb b o (by rw [b2 b hb, z])
    obtain ⟨T1, c1, hT1⟩ := r2.ex
    have hlq : q < cs1.length := (List.getElem?_eq_some_iff.mp hcq).1
    obtain ⟨ov3, F3, G3, ev3, ⟨u3, eu3, ho3⟩, h7, put3⟩ := c1.focus (i := q) (c := some (k, d')) (by rw [List.getElem?_set_self hlq])
    rw [hvq1] at ev3
    cases ev3
    cases eu3
    have p3 := put3 W2 H1 (some v) none (fun _ => 0) (Same.refl W2) (fun _ _ => rfl) fun _ => rfl
    rw [set_self hvq1, List.set_set] at p3
    have hOl := putL W2 H1 d' v F3 gg.sm (fun b hb => still b (by show (if b = a then 1 else 0) + G0 b ≠ 0; omega)) ho3
    rw [set_self ej] at hOl
    have hHa1 : H1 a = some (.lst us) := by rw [still a (by show (if a = a then 1 else 0) + G0 a ≠ 0; rw [if_pos rfl]; omega), hHa]
    obtain ⟨ov4, F4, G4, ev4, hF4, h8, put4⟩ := p3.focus (i := i) (c := none) (by rw [List.getElem?_set_ne hne.symm]; exact hci)
    rw [hvi] at ev4
    cases ev4
    have p4 := put4 W2 H1 (some (.ref a)) (some (k + 1, .lst (l.set j d'))) (fun b => (if b = a then 1 else 0) + (F3 b + G0 b)) (Same.refl W2) (fun _ _ => rfl) ⟨_, rfl, a, us, _, rfl, hHa1, hOl, fun _ => rfl⟩
    rw [set_self hvi] at p4
    have hF40 : ∀ b, F4 b = 0 := hF4
    have t1 : ∀ b, T1 b = F3 b + G4 b := fun b => by have := h7 b; have h8' : 0 + G3 b = F4 b + G4 b := h8 b; have := hF40 b; omega
    have dis : ∀ b, T1 b ≠ 0 → Fh b = 0 := fun b hb => by
      by_cases z : Fh b = 0
      · exact z
      · obtain ⟨o, zo⟩ := thr b z
        have := ((hT1 b).2 hb).2
        rw [b2 b z, zo] at this; cases this
    have nW : ∀ b, Fh b ≠ 0 → W2 b = none := fun b hb => by
      cases z : W2 b with
      | none => rfl
      | some o =>
        obtain ⟨o', zo⟩ := thr b hb
        have := gg.nb b ((hT b).2 (by have := tot b; omega)).1 (by rw [z]; simp)
        rw [b2 b hb, zo] at this; cases this
    have gB : Gr B W W2 := ⟨gg.sm, fun b z n => by
      have := gg.nb b z n
      by_cases hz : Fh b = 0
      · rw [b1 b hz] at this; exact this
      · exact absurd (nW b hz) n⟩
    refine ⟨W2, gB, hHa1, r2.sw, fun b o z => ?_, _, p4, fun b => ⟨?_, fun hb => ?_⟩⟩
    · by_cases hz : Fh b = 0
      · exact r2.sb b o (by rw [b1 b hz]; exact z)
      · have := ((hT b).2 (by have := tot b; omega)).2
        rw [z] at this; cases this
    · have h9 := t1 b
      by_cases hz : Fh b = 0
      · have := (hT1 b).1
        have hz' : (if b = a then 1 else 0) + G0 b = 0 := hz
        show (if b = a then 1 else 0) + (F3 b + G0 b) + G4 b ≤ 1; omega
      · have h0 : T1 b = 0 := by
          by_cases y : T1 b = 0
          · exact y
          · exact absurd (dis b y) hz
        have := (hT b).1
        have ht := tot b
        have hz' : Fh b = (if b = a then 1 else 0) + G0 b := rfl
        show (if b = a then 1 else 0) + (F3 b + G0 b) + G4 b ≤ 1; omega
    · have hb' : (if b = a then 1 else 0) + (F3 b + G0 b) + G4 b ≠ 0 := hb
      by_cases hz : Fh b = 0
      · have hz' : (if b = a then 1 else 0) + G0 b = 0 := hz
        have q := (hT1 b).2 (by have := t1 b; omega)
        exact ⟨q.1, by have := q.2; rw [b1 b hz] at this; exact this⟩
      · exact ⟨nW b hz, ((hT b).2 (by have := tot b; omega)).2⟩
end

def tkM (i r k : Nat) : Option Out → Option (D × Env)
  | some (.nx ρ2) => match ρ2[r]?, ρ2[i]? with
    | some (some (k', d')), some none => if k ≤ k' then some (d', ρ2.set r none) else none
    | _, _ => none
  | some (.ct ρ2) => match ρ2[r]?, ρ2[i]? with
    | some (some (k', d')), some none => if k ≤ k' then some (d', ρ2.set r none) else none
    | _, _ => none
  | _ => none
def mLoopM (i r k : Nat) (body : Env → Option Out) : List D → List D → Env → Option Env
  | done, [], ρ => some (ρ.set i (some (k + 1, .lst done)))
  | done, d :: ds, ρ => match tkM i r k (body (ρ.set r (some (k, d)))) with
    | some (d', ρ2) => mLoopM i r k body (done ++ [d']) ds ρ2
    | none => none
/-- for x in xs: .. x is changed ..; xs is held in pieces -/
def sForM (i r : Nat) (body : Env → Option Out) : Env → Option Out := fun ρ => match ρ[i]? with
  | some (some (k + 1, .lst l)) => if i = r ∨ ρ.length ≤ r then none else match mLoopM i r k body [] l ((ρ.set r none).set i none) with
    | some ρ' => some (.nx ρ')
    | none => none
  | _ => none
theorem tkM_eq {i r k : Nat} {o : Option Out} {d' : D} {ρ3 : Env} (h : tkM i r k o = some (d', ρ3)) : ∃ ρ2 k', (o = some (.nx ρ2) ∨ o = some (.ct ρ2)) ∧ ρ2[r]? = some (some (k', d')) ∧ ρ2[i]? = some none ∧ k ≤ k' ∧ ρ3 = ρ2.set r none := by
  unfold tkM at h
  split at h
  · rename_i ρ2
    split at h
    · rename_i k' d2 e1 e2
      split at h
      · rename_i hk
        cases h
        exact ⟨ρ2, k', .inl rfl, e1, e2, hk, rfl⟩
      · cases h
    · cases h
  · rename_i ρ2
    split at h
    · rename_i k' d2 e1 e2
      split at h
      · rename_i hk
        cases h
        exact ⟨ρ2, k', .inr rfl, e1, e2, hk, rfl⟩
      · cases h
    · cases h
  · cases h
section
variable {X : Cx} {iter : Expr} {sts : List Stmt} {pos tp : Pos} {pr : List Nat} {body : Env → Option Out} {i r : Nat} {x : Str}
theorem s_forM (hp : PassesOwn (model X.prog X.w) X.A X.env X.xe) (hc : X.calm = true) (hi : PE X iter (tVar i)) (hg : PG X (.Name x tp) (gName r)) (hb : PSs X sts (sS X (i :: r :: pr) body)) (hd : r ∉ pr)
    (hs : ∀ x, foldedSetIterable iter X.env x = pure x := by intro _; rfl) : PS X (.For (.Name x tp) iter sts [] pos) (sS X pr (sForM i r body)) :=
  PSi (ps_for hp hc (pi_list hi) hg hb hs) fun Dn σ H ⟨B, W, ρ, o, r0, em, q⟩ => by
    unfold sForM at em
    split at em
    · rename_i k l ecell
      split at em
      · cases em
      rename_i hir0
      have hir : i ≠ r := fun z => hir0 (.inl z)
      have hrl : r < ρ.length := by
        rcases Nat.lt_or_ge r ρ.length with h | h
        · exact h
        · exact absurd (.inr h) hir0
      split at em
      rotate_left
      · cases em
      rename_i ρz ex
      cases em
      have hil : i < ρ.length := (List.getElem?_eq_some_iff.mp ecell).1
      obtain ⟨a, us, ev, hHa, hul⟩ : ∃ (a : Addr) (us : List V), σ[i]? = some (some (.ref a)) ∧ H a = some (.lst us) ∧ us.length = l.length := by
        obtain ⟨T, h, hT⟩ := r0.ex
        obtain ⟨ov, F, Gc, ev, ⟨u, eu, a, us, G, hu, hHa, hOw, hsum⟩, h3, put⟩ := h.focus ecell
        subst hu
        exact ⟨a, us, by rw [ev, eu], hHa, hOw.length⟩
      have rC := R.clear r0 r (σ.getD r none)
      have hvq : σ.set r (σ.getD r none) = σ := by
        have hl := r0.length
        refine set_self ?_
        rw [List.getD_eq_getElem?_getD, List.getElem?_eq_getElem (by omega)]
        rfl
      rw [hvq] at rC
      have eC : ρ.set r none = ((ρ.set r none).set i none).set i (some (k + 1, .lst l)) := by
        rw [List.set_set]
        exact (set_self (by rw [List.getElem?_set_ne (fun z => hir z.symm)]; exact ecell)).symm
      rw [eC] at rC
      have hsq : ∀ {Hx : Hp}, Hx a = some (.lst us) → SqL X.K Hx a us := fun h => (SqX.of h).sq
      refine ⟨.ref a, ev, a, rfl, ⟨us, hsq hHa⟩, ?_⟩
      refine ⟨fun j m σi Hi => m = l.length - j ∧ j ≤ l.length ∧ ∃ Wi ρi done, Gr B W Wi ∧ R X.K X.mg B Wi Hi σi (ρi.set i (some (k + 1, .lst (done ++ l.drop j)))) ∧ done.length = j ∧ mLoopM i r k body done (l.drop j) ρi = some ρz ∧ ρi[i]? = some none ∧ ρi[r]? = some none ∧ Pr pr σ σi ∧ σi[i]? = some (some (.ref a)) ∧ Hi a = some (.lst us),
        ⟨l.length, rfl, Nat.zero_le _, W, (ρ.set r none).set i none, [], Gr.refl B W, rC, rfl, ex, by simp [hil], by rw [List.getElem?_set_ne hir]; simp [hrl], Pr.refl, ev, hHa⟩, ?_⟩
      rintro j m σi Hi ⟨rfl, hjle, Wi, ρi, done, gi, ri, hdl, ei, ni, nr, pi, evi, hHi⟩
      by_cases hlt : j < l.length
      · refine .inr ⟨⟨us, us[j]'(by omega), hsq hHi, by simp [show j < us.length by omega]⟩, fun σ' H' => ∃ Wi ρi done, Gr B W Wi ∧ R X.K X.mg B Wi H' σ' (ρi.set i (some (k + 1, .lst (done ++ l.drop (j + 1))))) ∧ done.length = j + 1 ∧ mLoopM i r k body done (l.drop (j + 1)) ρi = some ρz ∧ ρi[i]? = some none ∧ ρi[r]? = some none ∧ Pr pr σ σ' ∧ σ'[i]? = some (some (.ref a)) ∧ H' a = some (.lst us),
          fun σ' H' h => ⟨l.length - (j + 1), by omega, rfl, hlt, h⟩, fun v H' y => ?_⟩
        obtain ⟨rfl, f⟩ := y
        have hv := f us (hsq hHi)
        rw [List.drop_eq_getElem_cons hlt] at ei ri
        simp only [mLoopM] at ei
        split at ei
        rotate_left
        · cases ei
        rename_i d' ρ3 etk
        obtain ⟨ρ2, k', hbo, er, ein, hk, rfl⟩ := tkM_eq etk
        have hili : i < ρi.length := (List.getElem?_eq_some_iff.mp ni).1
        have hirl : r < ρi.length := (List.getElem?_eq_some_iff.mp nr).1
        obtain ⟨a2, us2, v2, B1, ev2, hHa2, hul2, ej2, rB, back⟩ := R.holdItem (i := i) (q := r) (j := j) (k := k) (l := done ++ l[j] :: l.drop (j + 1)) (d := l[j]) ri (by rw [List.getElem?_set_self hili]) (by simp [hirl]) hir (by rw [List.getElem?_append_right (by omega)]; simp [hdl])
        rw [evi] at ev2
        cases ev2
        rw [hHi] at hHa2
        cases hHa2
        rw [hv] at ej2
        cases ej2
        have ecs : ((ρi.set i (some (k + 1, D.lst (done ++ l[j] :: l.drop (j + 1))))).set i none).set r (some (k, l[j])) = ρi.set r (some (k, l[j])) := by
          rw [List.set_set, set_self ni]
        rw [ecs] at rB
        refine ⟨B1, Wi, ρi.set r (some (k, l[j])), ?_⟩
        have fin : ∀ W4 H4 σ4, Gr B1 Wi W4 → R X.K X.mg B1 W4 H4 σ4 ρ2 → Pr (i :: r :: pr) (σi.set r (some v)) σ4 → ∃ Wi ρi done, Gr B W Wi ∧ R X.K X.mg B Wi H4 σ4 (ρi.set i (some (k + 1, .lst (done ++ l.drop (j + 1))))) ∧ done.length = j + 1 ∧ mLoopM i r k body done (l.drop (j + 1)) ρi = some ρz ∧ ρi[i]? = some none ∧ ρi[r]? = some none ∧ Pr pr σ σ4 ∧ σ4[i]? = some (some (.ref a)) ∧ H4 a = some (.lst us) := by
          intro W4 H4 σ4 g4 r4 p4
          have hsl : r < σi.length := by have := ri.length; simp at this; omega
          have vi : σ4[i]? = some (some (.ref a)) := by rw [p4 i (by simp), List.getElem?_set_ne (fun z => hir z.symm)]; exact evi
          have vr : σ4[r]? = some (some v) := by rw [p4 r (by simp), List.getElem?_set_self hsl]
          obtain ⟨W5, g5, hH5, r5⟩ := back W4 H4 σ4 ρ2 k' d' g4 r4 vi vr ein er hk
          have el : (done ++ l[j] :: l.drop (j + 1)).set j d' = (done ++ [d']) ++ l.drop (j + 1) := by
            rw [List.append_assoc, List.singleton_append, List.set_append_right _ _ (by omega), show j - done.length = 0 by omega, List.set_cons_zero]
          rw [el] at r5
          refine ⟨W5, ρ2.set r none, done ++ [d'], gi.trans g5, r5, by simp [hdl], ei, by rw [List.getElem?_set_ne (fun z => hir z.symm)]; exact ein, by rw [List.getElem?_set_self (List.getElem?_eq_some_iff.mp er).1], ?_, vi, hH5⟩
          exact fun t ht => by rw [p4 t (by simp [ht]), List.getElem?_set_ne (fun z => hd (by rw [z]; exact ht))]; exact pi t ht
        rcases hbo with hbo | hbo
        · exact ⟨_, rB, hbo, fin⟩
        · exact ⟨_, rB, hbo, fin⟩
      · have e : j = l.length := by omega
        subst e
        rw [List.drop_length] at ei ri
        simp only [mLoopM, Option.some.injEq] at ei
        rw [List.append_nil, ei] at ri
        exact .inl ⟨⟨us, hsq hHi, by omega⟩, q Wi Hi σi gi ri pi⟩
    · cases em
end
end Mn

namespace Mn
open PySem PySem.Spec PyProof.Rows L2
/-! ### rows changed one behind the other -/
theorem mLoopM_map {α : Type} {i r k : Nat} {body : Mn.Env → Option Out} {ρ : Mn.Env} {enc enc' : α → D} : ∀ (l : List α) (done : List D), (∀ a ∈ l, ∃ k' ρ2, body (ρ.set r (some (k, enc a))) = some (.nx ρ2) ∧ ρ2[r]? = some (some (k', enc' a)) ∧ ρ2[i]? = some none ∧ k ≤ k' ∧ ρ2.set r none = ρ) →
    mLoopM i r k body done (l.map enc) ρ = some (ρ.set i (some (k + 1, .lst (done ++ l.map enc'))))
  | [], done, _ => by simp [mLoopM]
  | a :: l, done, h => by
    obtain ⟨k', ρ2, e1, e2, e3, e4, e5⟩ := h a List.mem_cons_self
    rw [List.map_cons]
    have ht : tkM i r k (body (ρ.set r (some (k, enc a)))) = some (enc' a, ρ) := by
      rw [e1]
      simp only [tkM, e2, e3]
      rw [if_pos e4, e5]
    simp only [mLoopM, ht]
    rw [mLoopM_map l (done ++ [enc' a]) fun b hb => h b (List.mem_cons_of_mem _ hb)]
    simp
theorem forM_map {α : Type} {i r k : Nat} {body : Mn.Env → Option Out} {ρ ρ0 : Mn.Env} {enc enc' : α → D} {l : List α} (e : ρ[i]? = some (some (k + 1, .lst (l.map enc)))) (hir : i ≠ r) (hr : r < ρ.length) (h0 : (ρ.set r none).set i none = ρ0)
    (h : ∀ a ∈ l, ∃ k' ρ2, body (ρ0.set r (some (k, enc a))) = some (.nx ρ2) ∧ ρ2[r]? = some (some (k', enc' a)) ∧ ρ2[i]? = some none ∧ k ≤ k' ∧ ρ2.set r none = ρ0) :
    sForM i r body ρ = some (.nx (ρ0.set i (some (k + 1, .lst (l.map enc'))))) := by
  unfold sForM
  rw [e]
  simp only
  rw [if_neg (by omega), h0, mLoopM_map l [] h]
  simp
/-- a store into a list of numbers -/
theorem set_row {v k p kc : Nat} {l : List D} {d : D} {ga : Mn.Env → Option D} {m : Mn.Env → Option (Cell × Mn.Env)} {ρ ρ1 : Mn.Env} (e1 : m ρ = some ((kc, d), ρ1)) (e2 : ρ1[v]? = some (some (k, .lst l))) (e4 : ga ρ1 = some (.int (p : Int))) (hp : p < l.length) (hf : fit (k - 1) (kc, d) = true) (hk : k ≠ 0) :
    sSet v plNil ga m ρ = some (.nx (ρ1.set v (some (k, .lst (l.set p d))))) := by
  have a0 : plAt v plNil ρ1 = some ([], (k, .lst l), .lst l) := by
    unfold plAt
    rw [e2]
    simp [plNil, D.at, hk]
  rw [e_sSet, e1]
  simp only [a0, e4]
  rw [ixN_nat hp]
  simp only [List.length_nil, Nat.sub_zero]
  rw [if_pos hf]
  rfl
@[simp] theorem at_0 {a : D} {l : List D} : atI (a :: l) 0 = some a := by
  rw [show (0 : Int) = ((0 : Nat) : Int) from rfl, atI_nat']; rfl
@[simp] theorem at_1 {a b : D} {l : List D} : atI (a :: b :: l) 1 = some b := by
  rw [show (1 : Int) = ((1 : Nat) : Int) from rfl, atI_nat']; rfl
@[simp] theorem at_2 {a b c : D} {l : List D} : atI (a :: b :: c :: l) 2 = some c := by
  rw [show (2 : Int) = ((2 : Nat) : Int) from rfl, atI_nat']; rfl
@[simp] theorem at_3 {a b c d : D} {l : List D} : atI (a :: b :: c :: d :: l) 3 = some d := by
  rw [show (3 : Int) = ((3 : Nat) : Int) from rfl, atI_nat']; rfl
theorem app0_ok {v k kc : Nat} {l : List D} {d x : D} {m : Mn.Env → Option (Cell × Mn.Env)} {ρ ρ1 : Mn.Env} (e0 : ρ[v]? = some (some (k + 1, .lst l))) (e1 : m ρ = some ((kc, d), ρ1)) (e2 : ρ1[v]? = some (some (k + 1, .lst l))) (hl : l.length < 16777216) (hf : fit k (kc, d) = true) :
    sApp0 v m ρ = some (.nx (ρ1.set v (some (k + 1, .lst (l ++ [d]))))) := by
  unfold sApp0 pVar
  rw [e0, e1]
  simp only [e2]
  rw [hf]
  simp [hl]
end Mn

namespace Mn
open PySem PySem.Spec PyProof.Rows L2
/-! ### repr of trees of numbers, texts, None, truths, lists and tuples -/
def okStr (N : Nat) (s : Str) : Prop := PyData.strOk s = true ∧ (PySem.reprText s).length ≤ N ∧ PyData.strOk (PySem.reprText s) = true
/-- numbers below 2^k, texts of at most k + 10 as shown, at most m in a list, at most n deep -/
def Rg (k m : Nat) : Nat → D → Prop
  | _, .int i => i.natAbs < 2 ^ k
  | _, .bl _ => True
  | _, .non => True
  | _, .str s => okStr (k + 10) s
  | n + 1, .lst l => l.length ≤ m ∧ ∀ d ∈ l, Rg k m n d
  | n + 1, .tup l => l.length ≤ m ∧ ∀ d ∈ l, Rg k m n d
  | _, _ => False
def rgz (k m : Nat) : Nat → Nat
  | 0 => k + 10
  | n + 1 => k + 10 + m * (rgz k m n + 2)
theorem rgz_le (k m n : Nat) : k + 10 ≤ rgz k m n := by
  cases n with
  | zero => exact Nat.le_refl _
  | succ n => unfold rgz; omega
theorem Rg.leaf {k m n : Nat} (hk : 0 < k) (hk2 : k ≤ 1920) {d : D} (h : Rg k m n d) (hd : (∀ l, d ≠ .lst l) ∧ ∀ l, d ≠ .tup l) : ∃ p, toP d = some p ∧ ShB p (k + 10) ∧ p.depth = 0 ∧ p.canLay0 = true := by
  cases d with
  | int i => exact ⟨.int i, rfl, (ShB.int (by cases n <;> exact h) hk hk2).up (by omega), by simp [PyData.depth], by simp [PyData.canLay0]⟩
  | bl b => exact ⟨.bool b, rfl, ⟨by simp [PyData.showable], by simp [PyData.hasDict], by cases b <;> (refine Nat.le_trans ?_ (Nat.le_add_left 10 k)) <;> simp only [PyData.shown] <;> decide +kernel, by cases b <;> simp only [PyData.shown] <;> exact strOk_ofString _⟩, by simp [PyData.depth], by simp [PyData.canLay0]⟩
  | non => exact ⟨.none, rfl, ⟨by simp [PyData.showable], by simp [PyData.hasDict], by (refine Nat.le_trans ?_ (Nat.le_add_left 10 k)); simp only [PyData.shown]; decide +kernel, by simp only [PyData.shown]; exact strOk_ofString _⟩, by simp [PyData.depth], by simp [PyData.canLay0]⟩
  | str s =>
    have h' : okStr (k + 10) s := by cases n <;> exact h
    exact ⟨.str s, rfl, ⟨by simp [PyData.showable], by simp [PyData.hasDict], by simp only [PyData.shown]; exact h'.2.1, by simp only [PyData.shown]; exact h'.2.2⟩, by simp [PyData.depth], by simp [PyData.canLay0, h'.1]⟩
  | lst l => exact (hd.1 l rfl).elim
  | tup l => exact (hd.2 l rfl).elim
  | _ => cases n <;> exact h.elim
theorem Rg.ok {k m : Nat} (hk : 0 < k) (hk2 : k ≤ 1920) : ∀ (n : Nat) (d : D), Rg k m n d → ∃ p, toP d = some p ∧ ShB p (rgz k m n) ∧ p.depth ≤ n ∧ p.canLay0 = true := by
  intro n
  induction n with
  | zero =>
    intro d h
    obtain ⟨p, e, h1, h2, h3⟩ := Rg.leaf hk hk2 h ⟨fun l z => by subst z; exact h.elim, fun l z => by subst z; exact h.elim⟩
    exact ⟨p, e, h1, by omega, h3⟩
  | succ n ih =>
    have key : ∀ l : List D, (∀ d ∈ l, Rg k m n d) → ∃ ps, toPL l = some ps ∧ ps.length = l.length ∧ (∀ p ∈ ps, ShB p (rgz k m n)) ∧ PyData.depthAll ps ≤ n ∧ PyData.canLayAll0 ps = true := by
      intro l
      induction l with
      | nil => exact fun _ => ⟨[], rfl, rfl, by simp, by simp [PyData.depthAll], by simp [PyData.canLayAll0]⟩
      | cons d ds ihl =>
        intro h
        obtain ⟨p, e, h1, h2, h3⟩ := ih d (h d (by simp))
        obtain ⟨ps, es, g0, g1, g2, g3⟩ := ihl fun x hx => h x (by simp [hx])
        refine ⟨p :: ps, by simp [toPL, e, es], by simp [g0], ?_, ?_, by simp [PyData.canLayAll0, h3, g3]⟩
        · intro q hq
          rcases List.mem_cons.mp hq with rfl | hq
          · exact h1
          · exact g1 q hq
        · simp only [PyData.depthAll]
          omega
    intro d h
    by_cases hd : (∀ l, d ≠ .lst l) ∧ ∀ l, d ≠ .tup l
    · obtain ⟨p, e, h1, h2, h3⟩ := Rg.leaf hk hk2 h hd
      exact ⟨p, e, h1.up (rgz_le k m (n + 1)), by omega, h3⟩
    · cases d with
      | lst l =>
        obtain ⟨ps, e, g0, g1, g2, g3⟩ := key l h.2
        have h8 := h.1
        refine ⟨.list ps, by simp [toP, e], (ShB.list g1).up ?_, by simp only [PyData.depth]; omega, by simp [PyData.canLay0, g3]⟩
        have : ps.length * (rgz k m n + 2) ≤ m * (rgz k m n + 2) := Nat.mul_le_mul_right _ (by omega)
        show 2 + ps.length * (rgz k m n + 2) ≤ k + 10 + m * (rgz k m n + 2)
        omega
      | tup l =>
        obtain ⟨ps, e, g0, g1, g2, g3⟩ := key l h.2
        have h8 := h.1
        refine ⟨.tuple ps, by simp [toP, e], (ShB.tuple g1).up ?_, by simp only [PyData.depth]; omega, by simp [PyData.canLay0, g3]⟩
        have : ps.length * (rgz k m n + 2) ≤ m * (rgz k m n + 2) := Nat.mul_le_mul_right _ (by omega)
        show 3 + ps.length * (rgz k m n + 2) ≤ k + 10 + m * (rgz k m n + 2)
        omega
      | _ => exact absurd ⟨fun l z => (nomatch z), fun l z => (nomatch z)⟩ hd
theorem repr_Rg {k m n : Nat} {d : D} (hk : 0 < k) (hk2 : k ≤ 1920) (hz : rgz k m n ≤ 16777216) (hn : n < 64) (h : Rg k m n d) : dRepr [d] = some (.str (rpD d)) ∧ PyData.strOk (rpD d) = true := by
  obtain ⟨p, e, h1, h2, h3⟩ := Rg.ok hk hk2 n d h
  have ho := okRepr_of h1 hz (by omega)
  have er : rpD d = p.shown := by unfold rpD; rw [e]
  rw [er]
  refine ⟨?_, h1.2.2.2⟩
  simp only [dRepr, e, ho, if_true]
theorem eq_Rg {k m n : Nat} {d : D} (hk : 0 < k) (hk2 : k ≤ 1920) (hn : n ≤ 4) (h : Rg k m n d) : dEq d d = some (.bl true) ∧ dNe d d = some (.bl false) := by
  obtain ⟨p, e, h1, h2, h3⟩ := Rg.ok hk hk2 n d h
  have hs : SeqAt.shaped p = true := by
    unfold SeqAt.shaped
    rw [h3, Bool.true_and]
    exact decide_eq_true (by omega)
  have hq := eqv_self_of p h3
  simp [dEq, dNe, e, hs, hq]
end Mn

namespace Mn
open PySem PySem.Spec PyProof.Rows L2
/-- a comprehension over encoded items, with a changing frame -/
theorem compLS {α β : Type} {kc : Nat} {it : Mn.Env → Option (List D × Mn.Env)} {tg : D → Mn.Env → Option Mn.Env} {x : Mn.Env → Option (Cell × Mn.Env)} {own : List Nat} (l : List β) (enc0 : β → D) (enc : α → D) (Inv : Nat → Mn.Env → List α → Prop) {ρ ρ1 : Mn.Env}
    (hit : it ρ = some (l.map enc0, ρ1)) (hn : l.length < 16777216) (h0 : Inv 0 (wipeE ρ1 own) [])
    (st : ∀ (i : Nat) (b : β) (ρ : Mn.Env) (acc : List α), l[i]? = some b → Inv i ρ acc → acc.length = i → ∃ ρ1 a k ρ2, tg (enc0 b) ρ = some ρ1 ∧ x ρ1 = some ((k, enc a), ρ2) ∧ fit kc (k, enc a) = true ∧ Inv (i + 1) (wipeE ρ2 own) (acc ++ [a])) :
    ∃ r ρ', mComp kc it tg tYesM x own ρ = some ((kc + 1, .lst (r.map enc)), ρ') ∧ r.length = l.length ∧ Inv l.length ρ' r := by
  obtain ⟨rs, ρ', e, r, h1, h2, h3⟩ := mCompL_inv (kc := kc) (tg := tg) (t := tYesM) (x := x) (own := own) (fun i ρ acc => ∃ r : List α, acc = r.map enc ∧ r.length = i ∧ Inv i ρ r) (l.map enc0) 0 (wipeE ρ1 own) [] ⟨[], rfl, rfl, h0⟩ (by
    rintro i d ρ acc hd ⟨r, rfl, hl, hi⟩
    rw [List.getElem?_map] at hd
    rw [Nat.zero_add] at hi hl ⊢
    cases q : l[i]? with
    | none => rw [q] at hd; cases hd
    | some b =>
      rw [q] at hd
      cases hd
      obtain ⟨ρ1, a, k, ρ2, e1, e2, e3, e4⟩ := st i b ρ r q hi hl
      exact ⟨ρ1, true, ρ1, e1, rfl, (nomatch ·), fun _ => ⟨_, ρ2, e2, e3, r ++ [a], by simp, by simp [hl], e4⟩⟩)
  rw [List.nil_append] at h1
  simp only [List.length_map, Nat.zero_add] at h2 h3
  refine ⟨r, ρ', ?_, h2, h3⟩
  unfold mComp
  rw [hit]
  simp only [List.length_map, lt_size, hn, if_true, e, h1]
theorem app_path1 {t rest : List (List Int)} {r0 : List Int} (h : t = r0 :: rest) (hr : r0.length < 16777216) (v : Nat) (ρ : Mn.Env) (e : ρ[v]? = some (some (2, .lst (t.map fun r => .lst (r.map D.int))))) (z : Int) :
    sApp v (plIx v plNil (pC (.int 0))) (mP (pC (.int z))) ρ = some (.nx (ρ.set v (some (2, .lst (.lst (r0.map D.int ++ [.int z]) :: rest.map fun r => .lst (r.map D.int)))))) := by
  subst h
  unfold sApp plIx plAt
  have e2 : ρ.set v none = (ρ.set v none) := rfl
  simp [e, D.at, D.put, ixN, hr, plAt, plIx]
end Mn

namespace Mn
open PySem PySem.Spec PyProof.Rows L2
/-! ### sorted of an owned list: its items move to the new one -/
theorem OwnL.perm {P : D → V → Fp → Prop} {l l' : List (D × V)} (h : l.Perm l') : ∀ {G : Fp}, OwnL P (l.map (·.1)) (l.map (·.2)) G → OwnL P (l'.map (·.1)) (l'.map (·.2)) G := by
  induction h with
  | nil => exact fun h => h
  | cons x _ ih =>
    intro G ⟨v, r, F, G', e, h1, h2, h3⟩
    simp only [List.map_cons, List.cons.injEq] at e
    obtain ⟨rfl, rfl⟩ := e
    exact ⟨_, _, F, G', rfl, h1, ih h2, h3⟩
  | swap x y l =>
    intro G ⟨v, r, F, G', e, h1, ⟨v2, r2, F2, G2, e2, k1, k2, k3⟩, h3⟩
    simp only [List.map_cons, List.cons.injEq] at e
    obtain ⟨rfl, rfl⟩ := e
    simp only [List.cons.injEq] at e2
    obtain ⟨rfl, rfl⟩ := e2
    exact ⟨_, _, F2, fun b => F b + G2 b, rfl, k1, ⟨_, _, F, G2, rfl, h1, k2, fun _ => rfl⟩, fun b => by have := h3 b; have := k3 b; show G b = F2 b + (F b + G2 b); omega⟩
  | trans _ _ ih1 ih2 => exact fun h => ih2 (ih1 h)
def leP : D × V → D × V → Bool := fun a b => leD a.1 b.1
def rSortedO (K : PySem.W.Frag) (mg : Str → Option Value) : List V → Hp → VK → Prop := fun xs H Q => ∃ (a : Addr) (l : List (D × V)) (ps : List PyData), xs = [.ref a] ∧ SqL K H a (l.map (·.2)) ∧ RepL K mg H (l.map (·.1)) (l.map (·.2)) ∧ toPL (l.map (·.1)) = some ps ∧ okSort ps = true ∧
  ∀ p : Addr, H p = none → Q (.ref p) (L2.upd H p (.lst ((l.mergeSort leP).map (·.2))))
theorem each_pairs {W : Hp} {K : PySem.W.Frag} {mg : Str → Option Value} : ∀ {l : List (D × V)} {us : List Value}, RepL K mg W (l.map (·.1)) (l.map (·.2)) → Vals (l.map (·.2)) us → PySem.W.EachIs (fun u (d : D × V) => RelV d.2 u ∧ Rep K mg W d.1 d.2) us l
  | [], _, _, r => by cases r; exact .nil
  | d :: ds, _, h, r => by
    obtain ⟨v, vr, e, h1, h2⟩ := h
    simp only [List.map_cons, List.cons.injEq] at e
    obtain ⟨rfl, rfl⟩ := e
    cases r with
    | cons r1 r2 => exact .cons ⟨r1, h1⟩ (each_pairs h2 r2)
theorem pairs_back {W : Hp} {K : PySem.W.Frag} {mg : Str → Option Value} : ∀ {l : List (D × V)} {us : List Value}, PySem.W.EachIs (fun u (d : D × V) => RelV d.2 u ∧ Rep K mg W d.1 d.2) us l → Vals (l.map (·.2)) us
  | _, _, .nil => .nil
  | _, _, .cons ⟨r1, h1⟩ t => .cons r1 (pairs_back t)
theorem call_sortedO {X : Cx} (hu : X.A.units + 65 < cLine) : CallR X (.builtin "sorted") (rSortedO X.K X.mg) := by
  intro pins s σ H xs us Q I r h
  obtain ⟨a, l, ps, rfl, hs, hrep, hl, hok, q⟩ := h
  obtain ⟨u, rfl, ru⟩ := vals1 r
  cases ru
  obtain ⟨its, rv, pl, hz⟩ := I.list hs
  obtain ⟨e1, e2⟩ := toPL_map hl
  obtain ⟨o1, o2, o3⟩ := okSort_of hok
  have each := each_pairs hrep rv
  have er : PySem.W.EachIs (fun v (b : D × V) => ∃ as, Reads s.heap v (toP0 b.1) as) its l := by
    have : ∀ {l : List (D × V)} {us : List Value}, (∀ d ∈ l, toP d.1 = some (toP0 d.1)) → PySem.W.EachIs (fun u (d : D × V) => RelV d.2 u ∧ Rep X.K X.mg H d.1 d.2) us l → PySem.W.EachIs (fun v (b : D × V) => ∃ as, Reads s.heap v (toP0 b.1) as) us l := by
      intro l
      induction l with
      | nil => intro us _ h; cases h; exact .nil
      | cons d ds ih =>
        intro us hd h
        cases h with
        | cons h1 h2 => exact .cons (Dp.reads I _ _ _ (Rep.dp d.1 d.2 _ h1.2 (hd d List.mem_cons_self)) h1.1) (ih (fun x hx => hd x (List.mem_cons_of_mem _ hx)) h2)
    exact this (fun d hd => e2 d.1 (List.mem_map.mpr ⟨d, hd, rfl⟩)) each
  have hlen : l.length ≤ sizeLine := by
    have : l.length = (l.map (·.2)).length := by simp
    rw [this]; exact hz
  have em : l.map (fun b => toP0 b.1) = ps := by rw [e1, List.map_map]; rfl
  refine PySem.W.sorted_data (enc := fun b : D × V => toP0 b.1) (bs := l) (R := fun u (d : D × V) => RelV d.2 u ∧ Rep X.K X.mg H d.1 d.2) pl.isList each er (by rw [em]; exact o1) (by rw [em]; exact o2) hlen (fun b hb => ?_) fun out ho eo => ?_
  · have := o3 (toP0 b.1) (by rw [← em]; exact List.mem_map.mpr ⟨b, hb, rfl⟩)
    omega
  · have h2 := pairs_back eo
    obtain ⟨ep, he'⟩ := PyProof.Rows.sortedAll_at s.heap its out.toArray
    have hls : (l.mergeSort leP).length = l.length := (List.mergeSort_perm l leP).length_eq
    have hly : ((l.mergeSort leP).map (·.2)).length ≤ sizeLine := by rw [List.length_map, hls]; exact hlen
    exact ⟨.ref _, L2.upd H (s.heap.objs.size + 1) (.lst ((l.mergeSort leP).map (·.2))), I.laid (t' := s.toks) (fun _ _ => PyProof.Rows.sortedAll_old) (Nat.le_succ _) ⟨hly, out, ep, h2, he'⟩, rfl, q _ (I.hok.fresh (Nat.le_succ _))⟩
def mSortO (k : Nat) (m : Env → Option (Cell × Env)) : Env → Option (Cell × Env) := fun ρ => match m ρ with
  | some ((k1, .lst l), ρ1) => (match toPL l with
    | some ps => if k + 1 ≤ k1 ∧ okSort ps = true then some ((k + 1, .lst (l.mergeSort leD)), ρ1) else none
    | none => none)
  | _ => none
section
variable {X : Cx} {e : Expr} {m : Env → Option (Cell × Env)} {k : Nat}
theorem g_sortO {x : Str} {p pos : Pos} (hu : X.A.units + 65 < cLine) (hg : Gl X x) (hm : X.mg x = none) (hv : bootBuiltins x = some (.builtin "sorted")) (he : PE X e (gS X m)) (hn : x ≠ "__name__" := by decide) (hdb : (x == ("__debug__" : Str)) = false := by decide)
    (hs : starEach (e :: []) X.env = (false, eval e X.env) :: starEach [] X.env := by rfl) (hpl : (backTo pos (starEach [] X.env)).any (·.1) = false := by rfl) : PE X (.Call (.Name x p) [e] [] pos) (gS X (mSortO k m)) :=
  PEi (pe_callB (call_sortedO hu) hg hm hv (one_arg he hs) hn hdb hs hpl) fun σ H Q ⟨B, W, ts, tc, ρ, cl, ρ', r, hl, em, q⟩ => by
    unfold mSortO at em
    split at em
    · rename_i k1 l ρ1 e1
      split at em
      · rename_i ps ep
        split at em
        · rename_i hz
          cases em
          obtain ⟨z1, z2⟩ := hz
          refine ⟨B, W, ts, tc, ρ, _, ρ', r, hl, e1, fun W1 H1 u g1 r1 => ?_⟩
          obtain ⟨W2, g2, r2⟩ := R.fit (k := k + 1) r1 (by unfold Mn.fit; simp [z1])
          obtain ⟨T, ⟨F, G, ⟨v', ev, ⟨a, vs, G1, rfl, h1, h2, h3⟩⟩, h7, h9⟩, hT⟩ := r2.ex
          cases ev
          have hlen := h2.length
          let ps2 := l.zip vs
          have f1 : ps2.map (·.1) = l := List.map_fst_zip (by omega)
          have f2 : ps2.map (·.2) = vs := List.map_snd_zip (by omega)
          have hrep : RepL X.K X.mg H1 l vs := h2.toRep fun d _ v F' _ h => Own.rep r2.sw k d v F' h fun _ _ => rfl
          refine ⟨a, ps2, ps, rfl, by rw [f2]; exact (SqX.of h1).sq, by rw [f1, f2]; exact hrep, by rw [f1]; exact ep, z2, fun p np => ?_⟩
          have hsrt : (ps2.mergeSort leP).map (·.1) = l.mergeSort leD := by
            have := List.map_mergeSort (r := leP) (s := leD) (f := fun b : D × V => b.1) (l := ps2) fun _ _ _ _ => rfl
            rw [this, f1]
          refine q W2 _ _ (g1.trans g2) ?_
          have hp := OwnL.perm (P := Own X.K X.mg W2 H1 k) (List.mergeSort_perm ps2 leP).symm (G := G1) (by rw [f1, f2]; exact h2)
          rw [hsrt] at hp
          exact RL.lst ⟨r2.sw, r2.sb, G, G1, h7, hp, fun b => ⟨by have := (hT b).1; have := h9 b; have := h3 b; show G b + G1 b ≤ 1; omega, fun hb => (hT b).2 (by have := h9 b; have := h3 b; have : G b + G1 b ≠ 0 := hb; omega)⟩⟩ np
        · cases em
      · cases em
    · cases em
end
@[simp] theorem e_mSortO {k : Nat} {m : Mn.Env → Option (Cell × Mn.Env)} {ρ : Mn.Env} : mSortO k m ρ = (match m ρ with
  | some ((k1, .lst l), ρ1) => (match toPL l with
    | some ps => if k + 1 ≤ k1 ∧ okSort ps = true then some ((k + 1, .lst (l.mergeSort leD)), ρ1) else none
    | none => none)
  | _ => none) := rfl
end Mn

namespace Mn
open PySem PySem.Spec PyProof.Rows L2
/-! ### repr of trees of numbers, texts, None, truths, lists and tuples -/
/-- numbers below 2^k, texts of at most k + 10 as shown, lists of at most so many at each level -/
def Rz (k : Nat) : List Nat → D → Prop
  | _, .int i => i.natAbs < 2 ^ k
  | _, .bl _ => True
  | _, .non => True
  | _, .str s => okStr (k + 10) s
  | m :: ms, .lst l => l.length ≤ m ∧ ∀ d ∈ l, Rz k ms d
  | m :: ms, .tup l => l.length ≤ m ∧ ∀ d ∈ l, Rz k ms d
  | _, _ => False
def rzz (k : Nat) : List Nat → Nat
  | [] => k + 10
  | m :: ms => k + 10 + m * (rzz k ms + 2)
theorem rzz_le (k : Nat) (ms : List Nat) : k + 10 ≤ rzz k ms := by
  cases ms with
  | nil => exact Nat.le_refl _
  | cons m ms => unfold rzz; omega
theorem Rz.leaf {k : Nat} {ms : List Nat} (hk : 0 < k) (hk2 : k ≤ 1920) {d : D} (h : Rz k ms d) (hd : (∀ l, d ≠ .lst l) ∧ ∀ l, d ≠ .tup l) : ∃ p, toP d = some p ∧ ShB p (k + 10) ∧ p.depth = 0 ∧ p.canLay0 = true := by
  cases d with
  | int i => exact ⟨.int i, rfl, (ShB.int (by cases ms <;> exact h) hk hk2).up (by omega), by simp [PyData.depth], by simp [PyData.canLay0]⟩
  | bl b => exact ⟨.bool b, rfl, ⟨by simp [PyData.showable], by simp [PyData.hasDict], by cases b <;> (refine Nat.le_trans ?_ (Nat.le_add_left 10 k)) <;> simp only [PyData.shown] <;> decide +kernel, by cases b <;> simp only [PyData.shown] <;> exact strOk_ofString _⟩, by simp [PyData.depth], by simp [PyData.canLay0]⟩
  | non => exact ⟨.none, rfl, ⟨by simp [PyData.showable], by simp [PyData.hasDict], by (refine Nat.le_trans ?_ (Nat.le_add_left 10 k)); simp only [PyData.shown]; decide +kernel, by simp only [PyData.shown]; exact strOk_ofString _⟩, by simp [PyData.depth], by simp [PyData.canLay0]⟩
  | str s =>
    have h' : okStr (k + 10) s := by cases ms <;> exact h
    exact ⟨.str s, rfl, ⟨by simp [PyData.showable], by simp [PyData.hasDict], by simp only [PyData.shown]; exact h'.2.1, by simp only [PyData.shown]; exact h'.2.2⟩, by simp [PyData.depth], by simp [PyData.canLay0, h'.1]⟩
  | lst l => exact (hd.1 l rfl).elim
  | tup l => exact (hd.2 l rfl).elim
  | _ => cases ms <;> exact h.elim
theorem Rz.ok {k : Nat} (hk : 0 < k) (hk2 : k ≤ 1920) : ∀ (ms : List Nat) (d : D), Rz k ms d → ∃ p, toP d = some p ∧ ShB p (rzz k ms) ∧ p.depth ≤ ms.length ∧ p.canLay0 = true := by
  intro ms
  induction ms with
  | nil =>
    intro d h
    obtain ⟨p, e, h1, h2, h3⟩ := Rz.leaf hk hk2 h ⟨fun l z => by subst z; exact h.elim, fun l z => by subst z; exact h.elim⟩
    exact ⟨p, e, h1, by omega, h3⟩
  | cons m ms ih =>
    have key : ∀ l : List D, (∀ d ∈ l, Rz k ms d) → ∃ ps, toPL l = some ps ∧ ps.length = l.length ∧ (∀ p ∈ ps, ShB p (rzz k ms)) ∧ PyData.depthAll ps ≤ ms.length ∧ PyData.canLayAll0 ps = true := by
      intro l
      induction l with
      | nil => exact fun _ => ⟨[], rfl, rfl, by simp, by simp [PyData.depthAll], by simp [PyData.canLayAll0]⟩
      | cons d ds ihl =>
        intro h
        obtain ⟨p, e, h1, h2, h3⟩ := ih d (h d (by simp))
        obtain ⟨ps, es, g0, g1, g2, g3⟩ := ihl fun x hx => h x (by simp [hx])
        refine ⟨p :: ps, by simp [toPL, e, es], by simp [g0], ?_, ?_, by simp [PyData.canLayAll0, h3, g3]⟩
        · intro q hq
          rcases List.mem_cons.mp hq with rfl | hq
          · exact h1
          · exact g1 q hq
        · simp only [PyData.depthAll]
          omega
    intro d h
    by_cases hd : (∀ l, d ≠ .lst l) ∧ ∀ l, d ≠ .tup l
    · obtain ⟨p, e, h1, h2, h3⟩ := Rz.leaf hk hk2 h hd
      exact ⟨p, e, h1.up (rzz_le k (m :: ms)), by rw [h2]; exact Nat.zero_le _, h3⟩
    · cases d with
      | lst l =>
        obtain ⟨ps, e, g0, g1, g2, g3⟩ := key l h.2
        have h8 := h.1
        refine ⟨.list ps, by simp [toP, e], (ShB.list g1).up ?_, by simp only [PyData.depth, List.length_cons]; omega, by simp [PyData.canLay0, g3]⟩
        have : ps.length * (rzz k ms + 2) ≤ m * (rzz k ms + 2) := Nat.mul_le_mul_right _ (by omega)
        show 2 + ps.length * (rzz k ms + 2) ≤ k + 10 + m * (rzz k ms + 2)
        omega
      | tup l =>
        obtain ⟨ps, e, g0, g1, g2, g3⟩ := key l h.2
        have h8 := h.1
        refine ⟨.tuple ps, by simp [toP, e], (ShB.tuple g1).up ?_, by simp only [PyData.depth, List.length_cons]; omega, by simp [PyData.canLay0, g3]⟩
        have : ps.length * (rzz k ms + 2) ≤ m * (rzz k ms + 2) := Nat.mul_le_mul_right _ (by omega)
        show 3 + ps.length * (rzz k ms + 2) ≤ k + 10 + m * (rzz k ms + 2)
        omega
      | _ => exact absurd ⟨fun l z => (nomatch z), fun l z => (nomatch z)⟩ hd
theorem repr_Rz {k : Nat} {ms : List Nat} {d : D} (hk : 0 < k) (hk2 : k ≤ 1920) (hz : rzz k ms ≤ 16777216) (hn : ms.length < 64) (h : Rz k ms d) : dRepr [d] = some (.str (rpD d)) ∧ PyData.strOk (rpD d) = true := by
  obtain ⟨p, e, h1, h2, h3⟩ := Rz.ok hk hk2 ms d h
  have ho := okRepr_of h1 hz (by omega)
  have er : rpD d = p.shown := by unfold rpD; rw [e]
  rw [er]
  refine ⟨?_, h1.2.2.2⟩
  simp only [dRepr, e, ho, if_true]
theorem eq_Rz {k : Nat} {ms : List Nat} {d : D} (hk : 0 < k) (hk2 : k ≤ 1920) (hn : ms.length ≤ 4) (h : Rz k ms d) : dEq d d = some (.bl true) ∧ dNe d d = some (.bl false) := by
  obtain ⟨p, e, h1, h2, h3⟩ := Rz.ok hk hk2 ms d h
  have hs : SeqAt.shaped p = true := by
    unfold SeqAt.shaped
    rw [h3, Bool.true_and]
    exact decide_eq_true (by omega)
  have hq := eqv_self_of p h3
  simp [dEq, dNe, e, hs, hq]
end Mn

namespace Mn
open PySem PySem.Spec PyProof.Rows L2
/-! ### sorted of squares -/
abbrev rowP (r : List Int) : PyData := .list (r.map PyData.int)
theorem alike_row (a b : List Int) : PySem.W.alike (rowP a) (rowP b) = true := by
  show PySem.W.alikeAll _ _ = true
  exact PySem.W.alike_ints a b
theorem alike_rows2 : ∀ A B : List (List Int), PySem.W.alikeAll (A.map rowP) (B.map rowP) = true
  | [], _ => by simp [PySem.W.alikeAll]
  | _ :: _, [] => by simp [PySem.W.alikeAll]
  | r :: A, s :: B => by
    show PySem.W.alikeAll (rowP r :: A.map rowP) (rowP s :: B.map rowP) = true
    rw [PySem.W.alikeAll, alike_rows2 A B, alike_row]
    rfl
theorem eqv_row (a b : List Int) : PyData.eqv (rowP a) (rowP b) = decide (a = b) := by
  simp only [PyData.eqv, eqv_IL]
theorem dataLt_row (a b : List Int) : PySem.W.dataLt (rowP a) (rowP b) = decide (a < b) := by
  show PySem.W.dataLt (.list _) (.list _) = _
  rw [PySem.W.dataLt_list]
  exact PySem.W.dataLt_ints a b
theorem rowLt_rows : ∀ A B : List (List Int), PySem.W.rowLt (A.map rowP) (B.map rowP) = decide (A < B)
  | [], [] => by
    have e : PySem.W.rowLt [] [] = false := PyProof.Rows.lex_irrefl _
    simp [e]
  | [], y :: ys => by
    have e : PySem.W.rowLt [] (rowP y :: ys.map rowP) = true := by
      unfold PySem.W.rowLt
      rw [PySem.W.toks_all_cons]
      simp only [PySem.W.keyToksAll]
      rw [PyProof.Rows.lex_diff (O := PyProof.Rows.itemOrd) (by simp)]
      rfl
    simpa using e
  | x :: xs, [] => by
    have e : PySem.W.rowLt (rowP x :: xs.map rowP) [] = false := by
      unfold PySem.W.rowLt
      rw [PySem.W.toks_all_cons]
      simp only [PySem.W.keyToksAll]
      rw [PyProof.Rows.lex_diff (O := PyProof.Rows.itemOrd) (by simp)]
      rfl
    simpa using e
  | x :: xs, y :: ys => by
    have e : PySem.W.rowLt (rowP x :: xs.map rowP) (rowP y :: ys.map rowP) = if x = y then PySem.W.rowLt (xs.map rowP) (ys.map rowP) else decide (x < y) := by
      unfold PySem.W.rowLt
      rw [PySem.W.dataLt_cons (alike_row x y), dataLt_row, eqv_row]
      by_cases h : x = y <;> simp [h]
    show PySem.W.rowLt (rowP x :: xs.map rowP) (rowP y :: ys.map rowP) = _
    rw [e]
    by_cases h : x = y
    · rw [if_pos h, rowLt_rows xs ys]
      simp [h, List.cons_lt_cons_iff]
    · rw [if_neg h]
      simp [h, List.cons_lt_cons_iff]
abbrev mxD (A : List (List Int)) : D := .lst (A.map fun r => .lst (r.map D.int))
theorem toP0_mx (A : List (List Int)) : toP0 (mxD A) = .list (A.map rowP) := by unfold toP0; rw [toP_IM]; rfl
theorem leD_mx (A B : List (List Int)) : leD (mxD A) (mxD B) = decide (A ≤ B) := by
  unfold leD
  rw [PySem.W.dataLe_eq]
  show (!PySem.W.dataLt (toP0 (mxD B)) (toP0 (mxD A))) = _
  rw [toP0_mx, toP0_mx, PySem.W.dataLt_list]
  show (!PySem.W.rowLt (B.map rowP) (A.map rowP)) = _
  rw [rowLt_rows]
  by_cases h : B < A
  · have h' : ¬ A ≤ B := fun r => List.not_lt.mpr r h
    simp [h, h']
  · have h' : A ≤ B := List.not_lt.mp h
    simp [h, h']
theorem okSort_mx (l : List (List (List Int))) : toPL (l.map mxD) = some (l.map fun A => .list (A.map rowP)) ∧ okSort (l.map fun A => PyData.list (A.map rowP)) = true := by
  refine ⟨toPL_mapL _ _ l fun A _ => toP_IM A, ?_⟩
  unfold okSort
  simp only [Bool.and_eq_true, Bool.or_eq_true, List.all_eq_true, List.mem_map]
  refine ⟨⟨?_, .inr ?_⟩, ?_⟩
  · rintro _ ⟨a, _, rfl⟩ _ ⟨b, _, rfl⟩
    show PySem.W.alikeAll _ _ = true
    exact alike_rows2 a b
  · rintro _ ⟨a, _, rfl⟩
    rfl
  · rintro _ ⟨a, _, rfl⟩
    have := depth_IM a
    simp only [PyData.depth]
    exact decide_eq_true (by show PyData.depthAll (a.map fun r => .list (r.map PyData.int)) + 1 < 60; omega)
/-- what is sorted, told by another list that is in order -/
theorem sort_mx {l l' : List (List (List Int))} (h : l.Perm l') (hs : l'.Pairwise (· ≤ ·)) : (l.map mxD).mergeSort leD = l'.map mxD := by
  have h1 : (l.map mxD).mergeSort leD = (l.mergeSort fun a b => decide (a ≤ b)).map mxD := (List.map_mergeSort fun a _ b _ => (leD_mx a b).symm).symm
  have hp : (l.mergeSort fun a b : List (List Int) => decide (a ≤ b)).Pairwise (· ≤ ·) := by
    have := List.pairwise_mergeSort (le := fun a b : List (List Int) => decide (a ≤ b)) (fun a b c h1 h2 => by
      rw [decide_eq_true_eq] at *
      exact List.le_trans h1 h2) (fun a b => by
      rw [Bool.or_eq_true, decide_eq_true_eq, decide_eq_true_eq]
      exact List.le_total a b) l
    exact this.imp fun h => of_decide_eq_true h
  rw [h1]
  congr 1
  have hq : (l.mergeSort fun a b : List (List Int) => decide (a ≤ b)).Perm l' := (List.mergeSort_perm _ _).trans h
  generalize l.mergeSort (fun a b : List (List Int) => decide (a ≤ b)) = m at hp hq
  exact List.Perm.eq_of_pairwise (le := (· ≤ ·)) (fun a b _ _ h1 h2 => List.le_antisymm h1 h2) hp hs hq
end Mn

namespace Mn
open PySem PySem.Spec PyProof.Rows L2
/-! ### xs.pop() -/
theorem OwnL.last {P : D → V → Fp → Prop} : ∀ {l : List D} {d : D} {vs : List V} {G : Fp}, OwnL P (l ++ [d]) vs G → ∃ (vs' : List V) (v : V) (F G' : Fp), vs = vs' ++ [v] ∧ P d v F ∧ OwnL P l vs' G' ∧ ∀ b, G b = F b + G' b
  | [], d, vs, G, h => by
    obtain ⟨v, r, F, G', rfl, h1, ⟨rfl, h0⟩, h3⟩ := h
    exact ⟨[], v, F, G', rfl, h1, ⟨rfl, h0⟩, h3⟩
  | x :: l, d, vs, G, h => by
    obtain ⟨v, r, F, G1, rfl, h1, h2, h3⟩ := h
    obtain ⟨vs', u, F', G', rfl, k1, k2, k3⟩ := OwnL.last h2
    exact ⟨v :: vs', u, F', fun b => F b + G' b, rfl, k1, ⟨v, vs', F, G', rfl, h1, k2, fun _ => rfl⟩, fun b => by have := h3 b; have := k3 b; show G b = F' b + (F b + G' b); omega⟩
section
variable {K : PySem.W.Frag} {mg : Str → Option Value} {B W H : Hp} {vs : List (Option V)} {cs : List (Option Cell)} {k : Nat}
theorem R.popL (r : R K mg B W H vs cs) {i : Nat} {l : List D} {d : D} (e : cs[i]? = some (some (k + 1, .lst (l ++ [d])))) :
    ∃ (p : Addr) (xs : List V) (y : V), vs[i]? = some (some (.ref p)) ∧ H p = some (.lst xs) ∧ xs[xs.length - 1]? = some y ∧ R K mg B W (L2.upd H p (.lst xs.dropLast)) (some y :: vs) (some (k, d) :: cs.set i (some (k + 1, .lst l))) := by
  obtain ⟨T, hcells, hT⟩ := r.ex
  obtain ⟨ov, F1, G, ev, ⟨u, eu, ho⟩, hs, put⟩ := hcells.focus e
  obtain ⟨p, xs, G1, rfl, h1, h2, h3⟩ := ho
  obtain ⟨xs', y, F2, G2, rfl, k1, k2, k3⟩ := OwnL.last h2
  have tot : ∀ b, T b = (if b = p then 1 else 0) + (F2 b + G2 b) + G b := fun b => by have := hs b; have := h3 b; have := k3 b; omega
  have hp : G p = 0 ∧ G2 p = 0 ∧ F2 p = 0 := by have := tot p; have := (hT p).1; rw [if_pos rfl] at *; omega
  have up : ∀ {a : Addr} {o : HO}, a ≠ p → L2.upd H p o a = H a := fun h => upd_ne h
  have c' := put W (L2.upd H p (.lst xs')) (some (.ref p)) (some (k + 1, .lst l)) (fun b => (if b = p then 1 else 0) + G2 b) (Same.refl W) (fun a ha => up fun z => by subst z; omega)
    ⟨.ref p, rfl, p, xs', _, rfl, upd_same, k2.imp fun d _ v F hF hO => Own.mono (Same.refl W) k d v F hO fun a ha => up fun z => by subst z; have := hF a; omega, fun b => rfl⟩
  subst eu
  rw [set_self ev] at c'
  have nW : ∀ {b : Addr} {o : HO}, W b = some o → b ≠ p := fun {b o} q z => by
    subst z
    have := ((hT b).2 (by have := tot b; rw [if_pos rfl] at this; omega)).1
    rw [q] at this; cases this
  have nB : ∀ {b : Addr} {o : HO}, B b = some o → b ≠ p := fun {b o} q z => by
    subst z
    have := ((hT b).2 (by have := tot b; rw [if_pos rfl] at this; omega)).2
    rw [q] at this; cases this
  have hdl : (xs' ++ [y]).dropLast = xs' := List.dropLast_concat
  have hy : Own K mg W (L2.upd H p (.lst xs')) k d y F2 := Own.mono (Same.refl W) k d y F2 k1 fun a ha => up fun z => by subst z; omega
  refine ⟨p, xs' ++ [y], y, ev, h1, by simp, ?_⟩
  rw [hdl]
  refine ⟨fun b o q => by rw [up (nW q)]; exact r.sw b o q, fun b o q => by rw [up (nB q)]; exact r.sb b o q, fun b => F2 b + ((if b = p then 1 else 0) + G2 b + G b), ⟨F2, _, ⟨y, rfl, hy⟩, c', fun _ => rfl⟩, fun b => ?_⟩
  have := tot b
  have := (hT b).1
  exact ⟨by show F2 b + ((if b = p then 1 else 0) + G2 b + G b) ≤ 1; omega, fun hb => (hT b).2 (by have : F2 b + ((if b = p then 1 else 0) + G2 b + G b) ≠ 0 := hb; omega)⟩
end
def mPop (i : Nat) : Env → Option (Cell × Env) := fun ρ => match ρ[i]? with
  | some (some (k + 1, .lst l)) => (match l.reverse with
    | d :: r => some ((k, d), ρ.set i (some (k + 1, .lst r.reverse)))
    | [] => none)
  | _ => none
section
variable {X : Cx} {a : Expr} {pos : Pos} {i : Nat}
theorem g_pop {apos cpos : Pos} (ho : PE X a (tVar i)) (hbase : attributeBase a "pop" X.env (eval a X.env) = eval a X.env := by rfl) (hline : (apos.endLine == cpos.line) = true := by rfl) :
    PE X (.Call (.Attribute a "pop" apos) [] [] cpos) (gS X (mPop i)) :=
  PEi (pe_bm0 PySem.F.plainAttrs_list PySem.F.slot_list_pop PySem.F.type_list_pop mt_pop ho hbase hline) fun σ H Q ⟨B, W, ts, tc, ρ, cl, ρ', r, hl, em, q⟩ => by
    unfold mPop at em
    split at em
    · rename_i k l ec
      split at em
      · rename_i d rr er
        cases em
        have el : l = rr.reverse ++ [d] := by
          have := congrArg List.reverse er
          rw [List.reverse_reverse, List.reverse_cons] at this
          exact this
        subst el
        obtain ⟨p, xs, y, ev, hp, hy, r2⟩ := R.popL (k := k) r (i := tc.length + i) (by rw [get_app]; exact ec)
        rw [← hl, get_app] at ev
        refine ⟨.ref p, ev, .inl ⟨rfl, xs, (SqX.of hp).sq⟩, p, xs, y, rfl, rfl, hp, hy, ?_⟩
        refine q W _ y (Gr.refl B W) ?_
        rw [set_app] at r2
        exact r2
      · cases em
    · cases em
end
@[simp] theorem e_mPop {i : Nat} {ρ : Mn.Env} : mPop i ρ = (match ρ[i]? with
  | some (some (k + 1, .lst l)) => (match l.reverse with
    | d :: r => some ((k, d), ρ.set i (some (k + 1, .lst r.reverse)))
    | [] => none)
  | _ => none) := rfl
end Mn

namespace Mn
open PySem PySem.Spec PyProof.Rows L2
/-! ### sorted(set(a list of ints)) -/
abbrev emptySet (w : World) : Obj := { cls := .type "set", dict := none, data := .set #[] 0 (.fresh 0 0 (!w.params.followText "set-order")) }
section
variable {P : Program} {w : World} {A : Around} {E : Value → Shared → Prop} {s : Shared}
theorem ints_there {xs : Array Value} {zs : List Int} (hx : IntsAre xs.toList zs) (hn : xs.size = zs.length) : ∀ (i : Nat) (v : Value), xs[i]? = some v → ∃ k t, zs[i]? = some k ∧ v = .int k t := fun i v e => by
  have lt : i < zs.length := by rw [← hn]; exact (Array.getElem?_eq_some_iff.mp e).1
  have e2 : xs.toList[i]? = some v := by rw [Array.getElem?_toList]; exact e
  obtain ⟨t, ev⟩ := IntsAre.int_at hx i v e2
  exact ⟨zs.getD i 0, t, by simp [List.getD_eq_getElem?_getD, List.getElem?_eq_getElem lt], ev⟩
/-- what set's own start does with a list -/
theorem start_list {l : Addr} {xs : Array Value} {zs : List Int} (calm : A.handled = none) (isl : s.heap.IsList l xs) (hx : IntsAre xs.toList zs) (few : zs.length + 1 < scanBound) :
    codeAny (model P w) A (.call (.builtin "set.__init__") ⟨[.ref s.heap.objs.size, .ref l], []⟩) (wants (fun r z => r = .none ∧ ∃ hp tk c, z = { s with heap := hp, toks := tk } ∧ SetR w hp s.heap.objs.size (fun j => decide (j ∈ zs)) c ∧ c ≤ zs.length ∧
      (∀ b o, s.heap.get? b = some o → hp.get? b = some o)) E) { s with heap := s.heap.push (emptySet w) } := by
  have hn : xs.size = zs.length := by have z := IntsAre.length hx; rwa [Array.length_toList] at z
  have at0 : (s.heap.push (emptySet w)).get? s.heap.objs.size = some (emptySet w) := Heap.get?_push_size _ rfl
  have ty0 : Shared.TypeIs { s with heap := s.heap.push (emptySet w) } (.ref s.heap.objs.size) "set" := ⟨_, at0, rfl⟩
  refine codeAny_call_builtin F.called_set.init.plain F.entry_set_init (check_set_init_1 ty0 ?_)
  obtain ⟨⟨oc, od, oa, os⟩, hol, hc, m, hd⟩ := isl
  simp only at hc hd
  subst hc; subst hd
  have hol2 : (s.heap.push (emptySet w)).get? l = some { cls := .type "list", dict := od, data := .seq xs m, slots := os } := Heap.get?_push_of_some _ hol
  have lt : l < s.heap.objs.size := Heap.lt_size hol
  have sz1 : (s.heap.push (emptySet w)).objs.size = s.heap.objs.size + 1 := Heap.size_push ..
  have isl0 : s.heap.IsList l xs := ⟨_, hol, rfl, m, rfl⟩
  have isl1 : (s.heap.push (emptySet w)).IsList l xs := ⟨_, hol2, rfl, m, rfl⟩
  have sub1 := F.sub_list_set
  have sub2 := F.sub_list_frozenset
  have other : (Value.type "list" == Value.type "dict") = false := by decide
  unfold Builtin.«set.__init__» noKeywords Builtin.Frozenset.updateFrom
  generalize mk : pyIter = getIt
  wp_walk
  subst mk
  refine wpAny_pyIter_list isl1 ?_
  refine wpAny_bind (wpAny_runValue ?_)
  have calm3 : A.in1.in1.handled = none := by simp [calm]
  have ne1 : l ≠ (s.heap.push (emptySet w)).objs.size := by rw [sz1]; exact Nat.ne_of_lt (Nat.lt_succ_of_lt lt)
  have apart : s.heap.objs.size ∉ [(s.heap.push (emptySet w)).objs.size, l] := by
    rw [sz1]
    simp only [List.mem_cons, List.not_mem_nil, or_false, not_or]
    exact ⟨Nat.ne_of_lt (Nat.lt_succ_self _), (Nat.ne_of_lt lt).symm⟩
  refine set_update_ints ((Walks.list calm3 _ l ne1 xs).toS) s.heap.objs.size apart zs hn few (ints_there hx hn) (xs.size - 0) 0 _ (by omega) (Nat.zero_le _) ?begin ?first ?last
  case begin => exact ⟨⟨_, Heap.get?_push_size _ rfl, rfl, rfl⟩, isl1.push _⟩
  case first =>
    exact ⟨0, Nat.le_refl 0, setR_new_at (Heap.get?_push_of_some _ at0)⟩
  case last =>
    intro z c mv hc2 hz
    obtain ⟨hp, gs, dr, tk, o2⟩ := z
    have q1 : gs = s.gens := mv.gens
    have q2 : dr = s.drawn := mv.drawn
    have q3 : o2 = s.os := mv.os
    subst q1; subst q2; subst q3
    show wpAny _ _ _ _ _ _
    refine wpAny_pure ?_
    show wpAny _ _ (ret Value.none) _ _ _
    rw [hn] at hc2
    refine wpAny_pure ⟨rfl, hp, tk, c, rfl, hz, hc2, fun b o e => ?_⟩
    have blt : b < s.heap.objs.size := Heap.lt_size e
    refine mv.heap b o ?_ (Heap.get?_push_of_some _ (Heap.get?_push_of_some _ e))
    rw [sz1]
    simp only [List.mem_cons, List.not_mem_nil, or_false, not_or]
    exact ⟨Nat.ne_of_lt blt, Nat.ne_of_lt (Nat.lt_succ_of_lt blt)⟩
theorem call_setL {l : Addr} {xs : Array Value} (zs : List Int) {Q : Value → Shared → Prop} (calm : A.handled = none) (isl : s.heap.IsList l xs) (hx : IntsAre xs.toList zs) (few : zs.length + 1 < scanBound)
    (fin : ∀ (hp : Heap) (tk c : Nat), SetR w hp s.heap.objs.size (fun j => decide (j ∈ zs)) c → c ≤ zs.length → (∀ b o, s.heap.get? b = some o → hp.get? b = some o) → Q (.ref s.heap.objs.size) { s with heap := hp, toks := tk }) :
    wpAny (model P w) A (call (.type "set") [.ref l]) Q E s := by
  obtain ⟨c0, more, mro0⟩ := F.called_set.mro
  have made0 := F.called_set.made
  have sub0 := F.called_set.sub
  refine wpAny_call (codeAny_of_tree ?_)
  show wpAny _ _ (callAny (.type "set") _) _ _ _
  refine wpAny_pure (And.intro (Code.quiet_builtin _ (by decide +kernel)) (codeAny_builtin F.entry_type_call ?_))
  rw [Around.under_plain (weight_type_call_type "set" [.ref l] []) (by rfl)]
  have nt := F.called_set.notType
  have cc := F.called_set.canCreate
  have tc1 := F.typeCall_set_1 (.ref l)
  repeat (any_goals (first | wp_step | assumption))
  refine codeAny_mono (code_set_led1 (.ref l) (E := E) (Q₁ := fun u z => u = .ref s.heap.objs.size ∧ z = { s with heap := s.heap.push (emptySet w) }) (And.intro rfl rfl)) fun r z hr => ?_
  cases r with
  | error e => exact hr
  | ok fl =>
    cases fl with
    | ret u =>
      obtain ⟨rfl, rfl⟩ := hr
      have at0 : (s.heap.push (emptySet w)).get? s.heap.objs.size = some (emptySet w) := Heap.get?_push_size _ rfl
      have ty0 : Shared.TypeIs { s with heap := s.heap.push (emptySet w) } (.ref s.heap.objs.size) "set" := ⟨_, at0, rfl⟩
      have look0 := F.called_set.init.lookup
      have bind0 := F.called_set.init.bind (.ref s.heap.objs.size)
      repeat (any_goals (first | wp_step | assumption))
      refine codeAny_mono (start_list (E := E) (by simp [calm]) isl hx few) fun r2 z2 hr2 => ?_
      cases r2 with
      | error e => exact hr2
      | ok fl2 =>
        cases fl2 with
        | ret r =>
          obtain ⟨rfl, hp, tk, c, rfl, hS, hle, kept⟩ := hr2
          repeat (any_goals (first | wp_step | assumption))
          exact fin _ _ _ hS hle kept
        | _ => exact hr2.elim
    | _ => exact hr.elim
end
end Mn

namespace Mn
open PySem PySem.Spec PyProof.Rows L2
/-! ### sorted(set(..)), read -/
def ins1 (x : Int) : List Int → List Int
  | [] => [x]
  | y :: r => if x < y then x :: y :: r else if x = y then y :: r else y :: ins1 x r
def sset : List Int → List Int
  | [] => []
  | x :: r => ins1 x (sset r)
theorem ins1_mem {x k : Int} : ∀ {l : List Int}, k ∈ ins1 x l ↔ k = x ∨ k ∈ l
  | [] => by simp [ins1]
  | y :: r => by
    unfold ins1
    split
    · simp
    · split
      · rename_i h; subst h; simp
      · rw [List.mem_cons, ins1_mem (l := r), List.mem_cons]
        constructor
        · rintro (h | h | h)
          · exact .inr (.inl h)
          · exact .inl h
          · exact .inr (.inr h)
        · rintro (h | h | h)
          · exact .inr (.inl h)
          · exact .inl h
          · exact .inr (.inr h)
theorem ins1_up {x : Int} : ∀ {l : List Int}, l.Pairwise (· < ·) → (ins1 x l).Pairwise (· < ·)
  | [], _ => by simp [ins1]
  | y :: r, h => by
    obtain ⟨h1, h2⟩ := List.pairwise_cons.mp h
    unfold ins1
    split
    · rename_i lt
      refine List.pairwise_cons.mpr ⟨fun z hz => ?_, h⟩
      rcases List.mem_cons.mp hz with e | e
      · rw [e]; exact lt
      · exact Int.lt_trans lt (h1 z e)
    · split
      · exact h
      · refine List.pairwise_cons.mpr ⟨fun z hz => ?_, ins1_up h2⟩
        rcases ins1_mem.mp hz with e | e
        · omega
        · exact h1 z e
theorem sset_mem {k : Int} : ∀ {l : List Int}, k ∈ sset l ↔ k ∈ l
  | [] => by simp [sset]
  | x :: r => by rw [sset, ins1_mem, sset_mem (l := r), List.mem_cons]
theorem sset_up : ∀ (l : List Int), (sset l).Pairwise (· < ·)
  | [] => List.Pairwise.nil
  | x :: r => ins1_up (sset_up r)
theorem up_inj : ∀ {l m : List Int}, l.Pairwise (· < ·) → m.Pairwise (· < ·) → (∀ k, k ∈ l ↔ k ∈ m) → l = m
  | [], [], _, _, _ => rfl
  | [], y :: r, _, _, h => absurd ((h y).mpr List.mem_cons_self) (by simp)
  | x :: r, [], _, _, h => absurd ((h x).mp List.mem_cons_self) (by simp)
  | x :: r, y :: t, h1, h2, h => by
    obtain ⟨a1, a2⟩ := List.pairwise_cons.mp h1
    obtain ⟨b1, b2⟩ := List.pairwise_cons.mp h2
    have e : x = y := by
      rcases List.mem_cons.mp ((h x).mp List.mem_cons_self) with z | z
      · exact z
      · rcases List.mem_cons.mp ((h y).mpr List.mem_cons_self) with z2 | z2
        · exact z2.symm
        · have := a1 y z2; have := b1 x z; omega
    subst e
    rw [up_inj a2 b2 fun k => ⟨fun hk => ?_, fun hk => ?_⟩]
    · rcases List.mem_cons.mp ((h k).mp (List.mem_cons_of_mem _ hk)) with z | z
      · have := a1 k hk; omega
      · exact z
    · rcases List.mem_cons.mp ((h k).mpr (List.mem_cons_of_mem _ hk)) with z | z
      · have := b1 k hk; omega
      · exact z
def intsD : List D → Option (List Int)
  | [] => some []
  | .int i :: r => (match intsD r with | some l => some (i :: l) | none => none)
  | _ :: _ => none
theorem intsD_of : ∀ {l : List D} {zs : List Int}, intsD l = some zs → l = zs.map D.int
  | [], _, h => by cases h; rfl
  | .int i :: r, zs, h => by
    unfold intsD at h
    split at h
    · rename_i l e
      cases h
      rw [intsD_of e, List.map_cons]
    · cases h
  | .non :: _, _, h => by cases h
  | .bl _ :: _, _, h => by cases h
  | .str _ :: _, _, h => by cases h
  | .lst _ :: _, _, h => by cases h
  | .tup _ :: _, _, h => by cases h
  | .dct _ :: _, _, h => by cases h
  | .gl _ :: _, _, h => by cases h
theorem intsD_map : ∀ (zs : List Int), intsD (zs.map D.int) = some zs
  | [] => rfl
  | z :: r => by rw [List.map_cons, intsD, intsD_map r]
theorem repL_ints {K : PySem.W.Frag} {mg : Str → Option Value} {W : Hp} : ∀ {zs : List Int} {vs : List V}, RepL K mg W (zs.map D.int) vs → vs = zs.map V.int
  | [], _, h => h
  | z :: r, vs, h => by
    obtain ⟨v, t, e, h1, h2⟩ := h
    have h1' : v = .int z := h1
    rw [e, h1', repL_ints h2]; rfl
theorem ints_repL {K : PySem.W.Frag} {mg : Str → Option Value} {W : Hp} : ∀ (zs : List Int), RepL K mg W (zs.map D.int) (zs.map V.int)
  | [] => rfl
  | z :: r => ⟨.int z, r.map V.int, rfl, rfl, ints_repL r⟩
def rSetL (K : PySem.W.Frag) (w : World) : List V → Hp → VK → Prop := fun xs H Q => ∃ (a : Addr) (zs : List Int), xs = [.ref a] ∧ SqL K H a (zs.map V.int) ∧ zs.length < 64 ∧ ∀ (p : Addr) (c : Nat), H p = none → c ≤ zs.length → Q (.ref p) (L2.upd H p (SetO w p (fun j => decide (j ∈ zs)) c))
theorem cr_setL {X : Cx} (hc : X.calm = true) : CallR X (.type "set") (rSetL X.K X.w) := by
  intro pins s σ H xs us Q I r h
  obtain ⟨a, zs, rfl, hs, few, q⟩ := h
  rw [Vals.ref1 r]
  obtain ⟨its, rv, pl, hz⟩ := I.list hs
  refine call_setL zs (I.ok.hd hc) pl.isList (by simpa using ints_of_vals rv) (by unfold scanBound; omega) fun hp tk c hS hle kept => ?_
  exact ⟨.ref s.heap.objs.size, _, I.laid (t' := tk) kept (Nat.le_refl _) (setO_new hS), rfl, q _ c (I.hok.fresh (Nat.le_refl _)) hle⟩
def mSortSet (m : Env → Option (Cell × Env)) : Env → Option (Cell × Env) := fun ρ => match m ρ with
  | some ((_, .lst l), ρ1) => (match intsD l with
    | some zs => if zs.length < 64 then some ((1, .lst ((sset zs).map D.int)), ρ1) else none
    | none => none)
  | _ => none
section
variable {X : Cx} {e : Expr} {m : Env → Option (Cell × Env)}
theorem g_sortSet {x y : Str} {p p2 q pos : Pos} (hc : X.calm = true) (hg : Gl X x) (hm : X.mg x = none) (hv : bootBuiltins x = some (.builtin "sorted")) (hg2 : Gl X y) (hm2 : X.mg y = none) (hv2 : bootBuiltins y = some (.type "set")) (he : PE X e (gS X m))
    (hn : x ≠ "__name__" := by decide) (hdb : (x == ("__debug__" : Str)) = false := by decide) (hn2 : y ≠ "__name__" := by decide) (hdb2 : (y == ("__debug__" : Str)) = false := by decide)
    (hs : starEach (e :: []) X.env = (false, eval e X.env) :: starEach [] X.env := by rfl) (hpl : (backTo q (starEach [] X.env)).any (·.1) = false := by rfl)
    (hs2 : starEach (.Call (.Name y p2) [e] [] q :: []) X.env = (false, eval (.Call (.Name y p2) [e] [] q) X.env) :: starEach [] X.env := by rfl) (hpl2 : (backTo pos (starEach [] X.env)).any (·.1) = false := by rfl) :
    PE X (.Call (.Name x p) [.Call (.Name y p2) [e] [] q] [] pos) (gS X (mSortSet m)) :=
  PEi (pe_callB (cr_sortedSet hc) hg hm hv (one_arg (pe_callTy (cr_setL hc) hg2 hm2 hv2 (one_arg he hs) hn2 hdb2 hs hpl) hs2) hn hdb hs2 hpl2) fun σ H Q ⟨B, W, ts, tc, ρ, cl, ρ', r, hl, em, qq⟩ => by
    unfold mSortSet at em
    split at em
    · rename_i k1 l ρ1 e1
      split at em
      · rename_i zs ez
        split at em
        · rename_i few
          cases em
          have el := intsD_of ez
          subst el
          refine ⟨B, W, ts, tc, ρ, _, ρ', r, hl, e1, fun W1 H1 u g1 r1 => ?_⟩
          obtain ⟨W2, g2, r2, hu⟩ := R.pop r1
          obtain ⟨a, vs, rfl, h1, h2⟩ := hu
          have ev := repL_ints h2
          subst ev
          refine ⟨a, zs, rfl, (Same.seqX r2.sw h1).sq, few, fun b c nb hle => ?_⟩
          refine ⟨b, _, c, rfl, upd_same, by omega, fun ns b2 up mem len nb2 => ?_⟩
          have en : ns = sset zs := up_inj up (sset_up zs) fun k => by rw [mem k, sset_mem]; simp
          subst en
          refine qq W2 _ _ (g1.trans g2) ?_
          exact R.newL (R.alloc r2 nb) (ints_repL _) nb2
        · cases em
      · cases em
    · cases em
end
@[simp] theorem e_mSortSet {m : Mn.Env → Option (Cell × Mn.Env)} {ρ : Mn.Env} : mSortSet m ρ = (match m ρ with
  | some ((_, .lst l), ρ1) => (match intsD l with
    | some zs => if zs.length < 64 then some ((1, .lst ((sset zs).map D.int)), ρ1) else none
    | none => none)
  | _ => none) := rfl
end Mn

namespace Mn
open PySem PySem.Spec PyProof.Rows L2
/-! ### a module's constant list or tuple of ints -/
inductive RI : List D → List Value → Prop
  | nil : RI [] []
  | cons (i : Int) (t : Tok) {ds : List D} {its : List Value} : RI ds its → RI (.int i :: ds) (.int i t :: its)
theorem RI.vals {K : PySem.W.Frag} {mg : Str → Option Value} {W : Hp} {ds : List D} {its : List Value} (h : RI ds its) : ∃ vs, Vals vs its ∧ RepL K mg W ds vs := by
  induction h with
  | nil => exact ⟨[], .nil, rfl⟩
  | cons i t _ ih =>
    obtain ⟨vs, h1, h2⟩ := ih
    exact ⟨.int i :: vs, .cons ⟨t, rfl⟩ h1, .int i, vs, rfl, rfl, h2⟩
theorem cst_lst {K : PySem.W.Frag} {mg : Str → Option Value} {W : Hp} {p : Addr} {n : Nat} {its : List Value} {ds : List D} (o : K.lookup p = some { cls := .type "list", data := .seq its.toArray n }) (h : RI ds its := by repeat constructor) (hz : its.length ≤ 1000 := by exact Nat.le_of_ble_eq_true rfl) : Rep K mg W (.lst ds) (.ref p) := by
  obtain ⟨vs, h1, h2⟩ := h.vals (K := K) (mg := mg) (W := W)
  exact ⟨p, vs, rfl, .inr ⟨its.toArray, n, o, by rw [List.size_toArray, sizeLine_eq]; omega, h1⟩, h2⟩
theorem cst_tup {K : PySem.W.Frag} {mg : Str → Option Value} {W : Hp} {p : Addr} {n : Nat} {its : List Value} {ds : List D} (o : K.lookup p = some { cls := .type "tuple", data := .seq its.toArray n }) (h : RI ds its := by repeat constructor) (hz : its.length ≤ 1000 := by exact Nat.le_of_ble_eq_true rfl) : Rep K mg W (.tup ds) (.ref p) := by
  obtain ⟨vs, h1, h2⟩ := h.vals (K := K) (mg := mg) (W := W)
  exact ⟨p, vs, rfl, .inr ⟨_, its.toArray, n, o, rfl, rfl, by rw [List.size_toArray, sizeLine_eq]; omega, h1⟩, h2⟩
end Mn

namespace Mn
open PySem PySem.Spec PyProof.Rows L2
/-! ### xs[::0 - 1] -/
section
variable {X : Cx}
abbrev backE (k1 k2 : Nat) (q1 q2 q3 : Pos) : Expr := .BinOp (.Constant (.int 0) k1 q1) .Sub (.Constant (.int 1) k2 q2) q3
theorem pe_backL {e : Expr} {te : TE} {k1 k2 : Nat} {q1 q2 q3 sp pos : Pos} (he : PE X e te) : PE X (.Subscript e (.Slice none none (some (backE k1 k2 q1 q2 q3)) sp) pos) (tRevL X.K te) := by
  refine ⟨fun pins s σ H Q I h => Subscript_ (thn (he.run pins s σ H _ I h) fun v z1 ⟨x, G1, J1, w1, a, xs, ex, hx, fin⟩ => ?_)⟩
  subst ex
  cases w1
  have stp : PO X (some (backE k1 k2 q1 q2 q3)) (tPart (tOp (rI0 fun i j => .int (i - j)) (tC (.int 0)) (tC (.int 1)))) := po_some (pe_op op_sub pe_int pe_int)
  refine wpAny_Slice (thn (po_none.run pins z1 σ G1 (fun o G => o = none ∧ G = G1) J1 ⟨rfl, rfl⟩) fun lo z2 ⟨l, G2, J2, p2, el, e2⟩ => ?_)
  subst el e2
  refine thn (po_none.run pins z2 σ G2 (fun o G => o = none ∧ G = G2) J2 ⟨rfl, rfl⟩) fun hi z3 ⟨u, G3, J3, p3, eu, e3⟩ => ?_
  subst eu e3
  refine thn (stp.run pins z3 σ G3 (fun o G => o = some (-1) ∧ G = G3) J3 ⟨0, 1, rfl, rfl, -1, rfl, rfl, rfl⟩) fun by1 z4 ⟨o, G4, J4, p4, eo, e4⟩ => ?_
  subst eo e4
  have J5 : Inv X pins σ G4 { z4 with heap := z4.heap.push { cls := .type "slice", data := .fields #[lo, hi, by1] } } := J4.kept (t' := z4.toks) (fun b ob q => Heap.get?_push_of_some _ q)
  obtain ⟨its, rel, lst, few⟩ := J5.list hx
  have len := rel.length
  show wpAny (model X.prog X.w) X.A (subscriptTail e (.Slice none none (some (backE k1 k2 q1 q2 q3)) sp) (.ref a) (.ref z4.heap.objs.size)) (EP X pins σ Q) X.xe { z4 with heap := z4.heap.push { cls := .type "slice", data := .fields #[lo, hi, by1] } }
  refine tail_any (ops := [.ref a, .ref z4.heap.objs.size]) lst.isList.typeIs (PySem.slot_list_getitem.lookup) ?_ (by with_unfolding_all rfl)
  refine wpAny_getItem_list_slice lst.isList (Heap.IsSliceOf.new _ lo hi by1) p2 p3 p4 (by decide) ?_ (by rw [List.size_toArray]; omega)
  rw [PySem.W.krv_pick]
  refine ⟨.ref _, _, J5.laid (o := .lst xs.reverse) (t' := z4.toks) (fun b ob q => Heap.get?_push_of_some _ q) (Nat.le_refl _) ?_, rfl, fin _ (J5.hok.fresh (Nat.le_refl _))⟩
  exact ⟨by rw [List.length_reverse]; exact few, _, 0, rel.reverse, Heap.get?_push_size _ rfl⟩
end
theorem RepL.rev {K : PySem.W.Frag} {mg : Str → Option Value} {W : Hp} : ∀ {l : List D} {vs : List V}, RepL K mg W l vs → RepL K mg W l.reverse vs.reverse := by
  have app : ∀ {l m : List D} {vs ws : List V}, RepL K mg W l vs → RepL K mg W m ws → RepL K mg W (l ++ m) (vs ++ ws) := by
    intro l
    induction l with
    | nil => intro m vs ws h1 h2; cases (show vs = [] from h1); exact h2
    | cons d ds ih =>
      intro m vs ws h1 h2
      obtain ⟨v, r, rfl, h3, h4⟩ := h1
      exact ⟨v, r ++ ws, rfl, h3, ih h4 h2⟩
  intro l
  induction l with
  | nil => intro vs h; cases (show vs = [] from h); exact rfl
  | cons d ds ih =>
    intro vs h
    obtain ⟨v, r, rfl, h3, h4⟩ := h
    rw [List.reverse_cons, List.reverse_cons]
    exact app (ih h4) ⟨v, [], rfl, h3, rfl⟩
def mBackL (m : Env → Option (Cell × Env)) : Env → Option (Cell × Env) := fun ρ => match m ρ with
  | some ((_, .lst l), ρ1) => some ((1, .lst l.reverse), ρ1)
  | _ => none
section
variable {X : Cx} {e : Expr} {m : Env → Option (Cell × Env)}
theorem g_backL {k1 k2 : Nat} {q1 q2 q3 sp pos : Pos} (he : PE X e (gS X m)) : PE X (.Subscript e (.Slice none none (some (backE k1 k2 q1 q2 q3)) sp) pos) (gS X (mBackL m)) :=
  PEi (pe_backL he) fun σ H Q ⟨B, W, ts, tc, ρ, cl, ρ', r, hl, em, q⟩ => by
    unfold mBackL at em
    split at em
    · rename_i k l ρ1 e1
      cases em
      refine ⟨B, W, ts, tc, ρ, _, ρ', r, hl, e1, fun W1 H1 u g1 r1 => ?_⟩
      obtain ⟨W2, g2, r2, hu⟩ := R.pop r1
      obtain ⟨a, vs, rfl, h1, h2⟩ := hu
      exact ⟨a, vs, rfl, (Same.seqX r2.sw h1).sq, fun p np => q W2 _ _ (g1.trans g2) (R.newL r2 h2.rev np)⟩
    · cases em
end
@[simp] theorem e_mBackL {m : Mn.Env → Option (Cell × Mn.Env)} {ρ : Mn.Env} : mBackL m ρ = (match m ρ with
  | some ((_, .lst l), ρ1) => some ((1, .lst l.reverse), ρ1)
  | _ => none) := rfl
/-! ### {} -/
section
variable {K : PySem.W.Frag} {mg : Str → Option Value} {B W H : Hp} {vs : List (Option V)} {cs : List (Option Cell)}
theorem R.newDct (r : R K mg B W H vs cs) {p : Addr} (np : H p = none) : R K mg B W (L2.upd H p (.dK [])) (some (.ref p) :: vs) (some (1, .dct []) :: cs) := by
  have r' := r.alloc (o := .dK []) np
  obtain ⟨T, h2, hT⟩ := r.ex
  have tp : T p = 0 := by
    by_cases z : T p = 0
    · exact z
    · exact (h2.there p z np).elim
  refine ⟨r'.sw, r'.sb, fun b => (if b = p then 1 else 0) + T b, ⟨fun b => if b = p then 1 else 0, T, ⟨.ref p, rfl, p, [], rfl, upd_same, rfl, fun _ => rfl⟩, h2.mono (Same.refl W) fun a ha => upd_ne fun z => by subst z; omega, fun _ => rfl⟩, fun b => ?_⟩
  by_cases hb : b = p
  · subst hb
    refine ⟨by show (if b = b then 1 else 0) + T b ≤ 1; rw [if_pos rfl]; omega, fun _ => ⟨?_, ?_⟩⟩
    · cases q : W b with
      | none => rfl
      | some o => have := r.sw b o q; rw [np] at this; cases this
    · cases q : B b with
      | none => rfl
      | some o => have := r.sb b o q; rw [np] at this; cases this
  · refine ⟨by show (if b = p then 1 else 0) + T b ≤ 1; rw [if_neg hb]; have := (hT b).1; omega, fun h => (hT b).2 ?_⟩
    have : (if b = p then 1 else 0) + T b ≠ 0 := h
    rw [if_neg hb] at this; omega
end
def mDct0 : Env → Option (Cell × Env) := fun ρ => some ((1, .dct []), ρ)
@[simp] theorem e_mDct0 {ρ : Mn.Env} : mDct0 ρ = some ((1, .dct []), ρ) := rfl
theorem g_dct0 {X : Cx} {pos : Pos} {m : Env → Option (Cell × Env)} (hm : m = mDct0 := by rfl) : PE X (.Dict [] [] pos) (gS X m) :=
  PEi pe_dnewK fun σ H Q ⟨B, W, ts, tc, ρ, cl, ρ', r, hl, em, q⟩ => by
    subst hm
    cases em
    exact fun p np => q W _ _ (Gr.refl B W) (R.newDct r np)
/-! ### repr of {} -/
def rReprE : List V → Hp → VK → Prop := fun xs H Q => ∃ a, xs = [.ref a] ∧ H a = some (.dK []) ∧ Q (.str (PyData.dict []).shown) H
theorem call_reprE {X : Cx} (hg : X.A.guards = some []) (hu : X.A.units + 65 < cLine) : CallR X (.builtin "repr") rReprE := by
  intro pins s σ H xs us Q I r h
  obtain ⟨a, rfl, ha, q⟩ := h
  rw [Vals.ref1 r]
  obtain ⟨_, hS, vs, kv, o, es, ep, ho, hx, hd, _, hp, _⟩ := dk_of I.hok ha
  cases kv
  have he : es.toList = [] := by
    have := hp.length
    exact List.eq_nil_of_length_eq_zero this
  have rr : Reads s.heap (.ref a) (.dict []) [a] := by
    have := Reads.dict (kvs := []) (as := []) (bs := []) ho hx.1 hd (by rw [he]; exact .nil) (by rw [he]; exact .nil)
    exact this
  have ne : a ≠ sysModules := fun z => by rw [z] at hS; simp at hS
  exact repr_of_reads' rr (by decide +kernel) (fun _ => by simp; exact fun z => ne z.symm) hg (by simp [PyData.depth, PyData.depthKv]; omega) (fun _ _ e => e) (fun h' u tk k => ⟨.str (PyData.dict []).shown, H, I.kept k, ⟨u, rfl⟩, q⟩) (by decide +kernel)
def dRepr2 : List D → Option D
  | [.dct []] => some (.str (PyData.dict []).shown)
  | ds => dRepr ds
def rRepr2 (K : PySem.W.Frag) : List V → Hp → VK → Prop := fun xs H Q => rReprD K xs H Q ∨ rReprE xs H Q
theorem call_repr2 {X : Cx} (hg : X.A.guards = some []) (hu : X.A.units + 65 < cLine) : CallR X (.builtin "repr") (rRepr2 X.K) := (call_reprD hg hu).or (call_reprE hg hu)
theorem w_repr2 {X : Cx} : OpN X dRepr2 (rRepr2 X.K) := fun H xs z us Q e hu q => by
  unfold dRepr2 at e
  split at e
  · cases e
    obtain ⟨v, r, rfl, ⟨a, kvs, rfl, h1, h2⟩, h3⟩ := hu
    cases (show r = [] from h3)
    cases (show kvs = [] from h2)
    exact .inr ⟨a, rfl, h1, q _ rfl⟩
  · exact .inl (w_repr H xs z us Q e hu q)
@[simp] theorem repr2_dct : dRepr2 [.dct []] = some (.str (PyData.dict []).shown) := rfl
@[simp] theorem repr2_lst {l : List D} : dRepr2 [.lst l] = dRepr [.lst l] := rfl
@[simp] theorem repr2_tup {l : List D} : dRepr2 [.tup l] = dRepr [.tup l] := rfl
@[simp] theorem repr2_int {i : Int} : dRepr2 [.int i] = dRepr [.int i] := rfl
@[simp] theorem repr2_str {i : Str} : dRepr2 [.str i] = dRepr [.str i] := rfl
@[simp] theorem repr2_non : dRepr2 [.non] = dRepr [.non] := rfl
@[simp] theorem repr2_bl {i : Bool} : dRepr2 [.bl i] = dRepr [.bl i] := rfl
end Mn

namespace Mn
open PySem PySem.Spec PyProof.Rows L2
/-! ### a slice of an owned list whose items are shared -/
def mSlO (i : Nat) (lo hi : GPart) : Env → Option (Cell × Env) := fun ρ => match ρ[i]? with
  | some (some _) => (match gVal lo ρ with
    | some (a, ρ2) => (match gVal hi ρ2 with
      | some (b, ρ3) => (match ρ3[i]? with
        | some (some (1, .lst l)) => some ((1, .lst (cutD l a b)), ρ3)
        | _ => none)
      | none => none)
    | none => none)
  | _ => none
section
variable {X : Cx} {e : Expr} {pos : Pos} {i : Nat}
theorem g_sliceO {lo hi : Option Expr} {l h : GPart} {p2 : Pos} (he : PE X e (tVar i)) (hl : PO X lo (gO X l)) (hh : PO X hi (gO X h)) : PE X (.Subscript e (.Slice lo hi none p2) pos) (gS X (mSlO i l h)) :=
  PEi (pe_slice sl_G he hl hh) fun σ H Q ⟨B, W, ts, tc, ρ, cl, ρ', r, hlen, em, q⟩ => by
    unfold mSlO at em
    split at em
    · rename_i c0 ec
      split at em
      · rename_i a ρ2 e2
        split at em
        · rename_i b ρ3 e3
          split at em
          · rename_i z ec3
            cases em
            obtain ⟨v, F, ev, _⟩ := r.own (i := tc.length + i) (by rw [get_app]; exact ec)
            rw [← hlen, get_app] at ev
            refine ⟨v, ev, B, W, ts, tc, ρ, a, ρ2, r, hlen, e2, fun W3 H3 g3 r3 => ⟨B, W3, ts, tc, ρ2, b, _, r3, hlen, e3, fun W4 H4 g4 r4 => ?_⟩⟩
            obtain ⟨v4, F4, ev4, p, xs, G4, rfl, h1, h2, h3⟩ := r4.own (i := tc.length + i) (by rw [get_app]; exact ec3)
            rw [← hlen, get_app, ev] at ev4
            cases ev4
            have hr : RepL X.K X.mg W4 z xs := h2.toRep fun d _ v F' _ h => h.1
            exact .inl (.inl ⟨p, xs, rfl, (SqX.of h1).sq, fun p2 np => q W4 _ _ (g3.trans g4) (r4.newL (hr.cut a b) np)⟩)
          · cases em
        · cases em
      · cases em
    · cases em
end
@[simp] theorem e_mSlO {i : Nat} {lo hi : GPart} {ρ : Mn.Env} : mSlO i lo hi ρ = (match ρ[i]? with
  | some (some _) => (match gVal lo ρ with
    | some (a, ρ2) => (match gVal hi ρ2 with
      | some (b, ρ3) => (match ρ3[i]? with
        | some (some (1, .lst l)) => some ((1, .lst (cutD l a b)), ρ3)
        | _ => none)
      | none => none)
    | none => none)
  | _ => none) := rfl
end Mn

namespace Mn
open PySem PySem.Spec PyProof.Rows L2
/-! ### targets that store: a[i], b[j] = x, y -/
def tgX (X : Cx) (js : List Nat) (f : Cell → Env → Option Env) : TG := fun v σ H Q => ∃ (B W : Hp) (ts : List (Option V)) (tc : List (Option Cell)) (ρ : Env) (c : Cell) (ρ' : Env), R X.K X.mg B W H (some v :: (ts ++ σ)) (some c :: (tc ++ ρ)) ∧ ts.length = tc.length ∧ f c ρ = some ρ' ∧
  ∀ W' H' σ', Gr B W W' → R X.K X.mg B W' H' (ts ++ σ') (tc ++ ρ') → (∀ i, i ∉ js → σ'[i]? = σ[i]?) → σ'.length = σ.length → Q σ' H'
def tgXs (X : Cx) (js : List Nat) (f : List Cell → Env → Option Env) : TGs := fun vs σ H Q => ∃ (B W : Hp) (ts : List (Option V)) (tc : List (Option Cell)) (ρ : Env) (cs : List Cell) (ρ' : Env), R X.K X.mg B W H (vs.map some ++ (ts ++ σ)) (cs.map some ++ (tc ++ ρ)) ∧ vs.length = cs.length ∧ ts.length = tc.length ∧ f cs ρ = some ρ' ∧
  ∀ W' H' σ', Gr B W W' → R X.K X.mg B W' H' (ts ++ σ') (tc ++ ρ') → (∀ i, i ∉ js → σ'[i]? = σ[i]?) → σ'.length = σ.length → Q σ' H'
def cSub (i : Nat) (fs : Env → Option (List Nat)) (g : Env → Option D) : Cell → Env → Option Env := fun c ρ => match plAt i fs ρ, g ρ with
  | some (js, c0, .lst l), some (.int k) => (match ixN l.length k with
    | some j => if fit (c0.1 - 1 - js.length) c then some (ρ.set i (some (c0.1, D.put c0.2 js (.lst (l.set j c.2))))) else none
    | none => none)
  | _, _ => none
section
variable {X : Cx} {a b e tg : Expr} {es : List Expr} {pos : Pos} {i : Nat} {fs : Env → Option (List Nat)} {g : Env → Option D} {f : Cell → Env → Option Env} {ff : List Cell → Env → Option Env} {js ks : List Nat} {pr : List Nat} {m : Env → Option (Cell × Env)}
theorem tx_of (h : PG X e (tgC X js f)) : PG X e (tgX X js f) := PGi h fun v σ H Q ⟨B, W, ts, tc, ρ, c, ρ', r, hl, e, q⟩ => ⟨B, W, ts, tc, ρ, c, ρ', r, hl, e, fun W' σ' g1 r1 => q W' H σ' g1 r1⟩
theorem tx_sub (ho : PE X a (plS X i fs)) (hb : PE X b (pS X g))
    (hsub : ∀ v, assign (.Subscript a b pos) X.env v = (do
      let ov ← holding [v] (eval a X.env)
      let iv ← holding [v, ov] (eval b X.env)
      standAt pos
      holding [v, ov, iv] (setItem ov iv v)
      release [v, ov, iv] []) := by intro _; rfl) : PG X (.Subscript a b pos) (tgX X [] (cSub i fs g)) :=
  PGi (pg_sub ho hb set_list hsub) fun v σ H Q ⟨B, W, ts, tc, ρ, c, ρ', r, hl, em, q⟩ => by
    unfold cSub at em
    split at em
    · rename_i js c0 l k ep eg
      split at em
      · rename_i j ej
        split at em
        · rename_i hf
          cases em
          obtain ⟨e1, e2, hlt, ed⟩ := plAt_some ep
          have s1 : Sta X σ H ρ := ⟨B, W, some v :: ts, some c :: tc, r, by simp [hl]⟩
          obtain ⟨m, hm⟩ : ∃ m, c0.1 = m + 1 + js.length := ⟨c0.1 - 1 - js.length, by omega⟩
          have hm2 : c0.1 - 1 - js.length = m := by omega
          rw [hm2] at hf
          obtain ⟨W2, v0, p, xs, ev, pv, hp, hx, g2, r2⟩ := R.pathSet (k := m) (d := c0.2) (js := js) r (i := tc.length + i) (by rw [← hm, get_app]; exact e1) ed (ixN_lt ej) hf
          rw [← hm, set_app] at r2
          rw [← hl, get_app] at ev
          refine ⟨ρ, js, c0, _, s1, ep, fun v' w' ev' pv' => ⟨ρ, _, s1, eg, fun u hu => ?_⟩⟩
          have e4 : v' = v0 := by rw [ev] at ev'; cases ev'; rfl
          subst e4
          cases PathV.uniq pv pv'
          exact ⟨p, xs, k, j, rfl, hu, hp, by rw [hx]; exact ej, q W2 _ σ g2 r2 (fun _ _ => rfl) rfl⟩
        · cases em
      · cases em
    · cases em
theorem tx_nil : PGs X [] (tgXs X [] csNil) := PGsi pgs_nil fun vs σ H Q ⟨B, W, ts, tc, ρ, ds, ρ', r, hv, hl, e, q⟩ => by
  unfold csNil at e
  split at e
  · cases e
    have : vs = [] := List.length_eq_zero_iff.mp hv
    subst this
    exact ⟨rfl, q W H σ (Gr.refl B W) r (fun _ _ => rfl) rfl⟩
  · cases e
theorem tx_cons (h1 : PG X e (tgX X js f)) (h2 : PGs X es (tgXs X ks ff)) (hs : (assignEach (e :: es) X.env).map (·.2) = assign e X.env :: (assignEach es X.env).map (·.2) := by rfl) : PGs X (e :: es) (tgXs X (js ++ ks) (csCons f ff)) :=
  PGsi (pgs_cons h1 h2 hs) fun vs σ H Q ⟨B, W, ts, tc, ρ, ds, ρ', r, hv, hl, e, q⟩ => by
    unfold csCons at e
    split at e
    · rename_i d rr
      split at e
      · rename_i ρ1 e1
        cases vs with
        | nil => simp at hv
        | cons v vr =>
          have hv' : vr.length = rr.length := by simpa using hv
          refine ⟨v, vr, rfl, B, W, vr.map some ++ ts, rr.map some ++ tc, ρ, d, ρ1, ?_, by simp [hv', hl], e1, fun W1 H1 σ1 g1 r1 k1 l1 => ?_⟩
          · simpa using r
          · exact ⟨B, W1, ts, tc, ρ1, rr, ρ', by simpa using r1, hv', hl, e, fun W2 H2 σ2 g2 r2 k2 l2 => q W2 H2 σ2 (g1.trans g2) r2 (fun i hi => (k2 i fun z => hi (List.mem_append_right _ z)).trans (k1 i fun z => hi (List.mem_append_left _ z))) (l2.trans l1)⟩
      · cases e
    · cases e
theorem tx_tup {k n : Nat} (hc : X.calm = true) (h : PGs X es (tgXs X js ff)) (hn : (assignEach es X.env).length = n := by rfl) (hst : (assignEach es X.env).findIdx? (·.1) = none := by rfl) : PG X (.Tuple es k pos) (tgX X js (cTup n ff)) :=
  PGi (pg_tup hc h hn hst) fun v σ H Q ⟨B, W, ts, tc, ρ, d, ρ', r, hl, e, q⟩ => by
    obtain ⟨k0, x⟩ := d
    unfold cTup at e
    simp only at e
    split at e
    · rename_i l
      split at e
      · rename_i hlen
        obtain ⟨a, xs, rfl, h1, h2, h3⟩ := R.untup r
        exact ⟨a, xs, rfl, h1, by rw [h2]; exact hlen, B, W, ts, tc, ρ, _, ρ', by rw [List.map_map]; exact h3, by simp [h2], hl, e, q⟩
      · cases e
    · cases e
theorem s_asgX (hg : PG X tg (tgX X js f)) (he : PE X e (gS X m)) (hd : ∀ j ∈ js, j ∉ pr) (hs : swapsWithSole [tg] e pos.line X.env = pure false := by rfl) (hw : swappedStores [tg] e X.env = pure none := by rfl)
    (h1 : (assignEach [tg] X.env).map (·.2) = [assign tg X.env] := by rfl) : PS X (.Assign [tg] e pos) (sS X pr (sAsgT m f)) :=
  PSi (ps_asg he hg hs hw h1) fun Dn σ H ⟨B, W, ρ, o, r, em, q⟩ => by
    unfold sAsgT at em
    split at em
    · rename_i c ρ1 e1
      split at em
      · rename_i ρ2 e2
        cases em
        exact ⟨B, W, [], [], ρ, c, ρ1, r, rfl, e1, fun W1 H1 v g1 r1 => ⟨B, W1, [], [], ρ1, c, ρ2, r1, rfl, e2, fun W2 H2 σ' g2 r' k' l' => q W2 H2 σ' (g1.trans g2) r' (Pr.refl.off k' hd)⟩⟩
      · cases em
    · cases em
end
@[simp] theorem e_cSub {i : Nat} {fs : Mn.Env → Option (List Nat)} {g : Mn.Env → Option D} {c : Cell} {ρ : Mn.Env} : cSub i fs g c ρ = (match plAt i fs ρ, g ρ with
  | some (js, c0, .lst l), some (.int k) => (match ixN l.length k with
    | some j => if fit (c0.1 - 1 - js.length) c then some (ρ.set i (some (c0.1, D.put c0.2 js (.lst (l.set j c.2))))) else none
    | none => none)
  | _, _ => none) := rfl
end Mn

namespace Mn
open PySem PySem.Spec PyProof.Rows L2
/-! ### xs.index(y), xs[::-1] -/
def dIndexAt (l : List D) (d : D) : Option Nat := match toPL l, toP d with
  | some ps, some p => if SeqAt.shaped p && SeqAt.shaped (.list ps) then ps.findIdx? (fun z => PyData.eqv z p) else none
  | _, _ => none
def mIndex (m n : Env → Option (Cell × Env)) : Env → Option (Cell × Env) := fun ρ => match m ρ with
  | some ((_, .lst l), ρ1) => (match n ρ1 with
    | some (c, ρ2) => (match dIndexAt l c.2 with
      | some j => some ((0, .int (j : Int)), ρ2)
      | none => none)
    | none => none)
  | _ => none
section
variable {X : Cx} {a e : Expr} {m n : Env → Option (Cell × Env)}
theorem g_index {apos cpos : Pos} (hu : X.A.units + 65 < cLine) (ho : PE X a (gS X m)) (he : PE X e (gS X n))
    (hbase : attributeBase a "index" X.env (eval a X.env) = eval a X.env := by rfl)
    (hfew : ((backTo cpos (starEach [e] X.env)).all (fun x => !x.1) && (backToKw cpos (keywordEach [] X.env)).all (fun x => x.1.isSome)
      && decide ([e].length + ([] : List Keyword).length + (if ([] : List Keyword).isEmpty then 0 else 1) < 30)) = true := by rfl)
    (hline : (apos.endLine == cpos.line) = true := by rfl) (hs : starEach [e] X.env = (false, eval e X.env) :: starEach [] X.env := by rfl) (hplain : (backTo cpos (starEach [] X.env)).any (·.1) = false := by rfl) :
    PE X (.Call (.Attribute a "index" apos) [e] [] cpos) (gS X (mIndex m n)) :=
  PEi (pe_bm PySem.F.plainAttrs_list PySem.F.slot_list_index PySem.F.type_list_index (mt_indexD hu) ho (pa_cons he pa_nil hs) hbase hfew hline hs hplain) fun σ H Q ⟨B, W, ts, tc, ρ, cl, ρ', r, hl, em, q⟩ => by
    unfold mIndex at em
    split at em
    · rename_i k l ρ1 e1
      split at em
      · rename_i c ρ2 e2
        split at em
        · rename_i j hj
          cases em
          refine ⟨B, W, ts, tc, ρ, _, ρ1, r, hl, e1, fun W1 H1 u g1 r1 => ?_⟩
          obtain ⟨W2, g2, r2, hu2⟩ := R.pop r1
          have hu3 := hu2
          obtain ⟨a0, vs, rfl, h1, h2⟩ := hu2
          refine ⟨.inl ⟨rfl, vs, (Same.seqX r2.sw h1).sq⟩, B, W2, ts, tc, ρ1, c, _, r2, hl, e2, fun W3 H3 v g3 r3 => ?_⟩
          obtain ⟨W4, g4, r4, hv⟩ := R.pop r3
          have ha : Rep X.K X.mg H3 (.lst l) (.ref a0) := Rep.mono r4.sw _ _ (Rep.mono (g3.sm.trans g4.sm) _ _ hu3)
          have hv3 : Rep X.K X.mg H3 c.2 v := Rep.mono r4.sw _ _ hv
          unfold dIndexAt at hj
          split at hj
          · rename_i ps pp eps ep
            split at hj
            · rename_i hsh
              rw [Bool.and_eq_true] at hsh
              obtain ⟨hlt, hz, hno⟩ := List.findIdx?_eq_some_iff_getElem.mp hj
              refine ⟨a0, v, pp, ps, j, ps[j], rfl, rfl, Rep.dp _ _ _ ha (by simp only [toP, eps]), Rep.dp _ _ _ hv3 ep, hsh.2, hsh.1, List.getElem?_eq_getElem hlt, hz, fun i z' hi ez => ?_, q W4 H3 _ (((g1.trans g2).trans g3).trans g4) (r4.push0 rfl)⟩
              have hi2 : i < ps.length := by omega
              rw [List.getElem?_eq_getElem hi2] at ez
              cases ez
              have := hno i hi
              simpa using this
            · cases hj
          · cases hj
        · cases em
      · cases em
    · cases em
end
@[simp] theorem e_mIndex {m n : Mn.Env → Option (Cell × Mn.Env)} {ρ : Mn.Env} : mIndex m n ρ = (match m ρ with
  | some ((_, .lst l), ρ1) => (match n ρ1 with
    | some (c, ρ2) => (match dIndexAt l c.2 with
      | some j => some ((0, .int (j : Int)), ρ2)
      | none => none)
    | none => none)
  | _ => none) := rfl
end Mn

namespace PySem.W
open PySem PySem.Spec PyProof.Rows
section
variable {prog : Program} {w : World} {A : Around} {E : Value → Shared → Prop} {s : Shared}
theorem mn_tup2 (s : Shared) (a b : Value) : (s.heap.push { cls := .type "tuple", data := .seq #[a, b] }).IsTuple s.heap.objs.size #[a, b] :=
  ⟨_, Heap.get?_push_size _ rfl, rfl, 0, rfl⟩

theorem mn_max_two {a b : Value} {x y : PyData} {as : List Addr} {Q : Value → Shared → Prop} (calm : A.handled = none) (rd : ReadsAll s.heap [a, b] [x, y] as) (al : AlikeAll [x, y]) (room : A.units + 1 + PyData.depthAll [x, y] < cLine)
    (fin : ∀ hp tk, (∀ c o, s.heap.get? c = some o → hp.get? c = some o) → Q (if dataLt x y = true then b else a) { s with heap := hp, toks := tk }) :
    wpAny (model prog w) A (call (.builtin "max") [a, b]) Q E s := by
  have nm : (toString "max" ++ toString ".loop" : String) = "max.loop" := by decide
  have k0 : ∀ c o, s.heap.get? c = some o → (s.heap.push { cls := .type "tuple", data := .seq #[a, b] }).get? c = some o := fun c o e => Heap.get?_push_of_some _ e
  have rd1 := ReadsAll.keeps k0 rd
  refine call_function_tree F.kind_max F.plain_max F.entry_max (F.args_max2 a b) ?_
  show wpAny _ _ (Builtin.Builtins.bindParams "max" ["key", "default"] 0 (Args.mk [] []) >>= fun _ => _) _ _ _
  apply wpAny_bind
  apply wpAny_of_eq (show Builtin.Builtins.bindParams "max" ["key", "default"] 0 (Args.mk [] []) = pure [none, none] from rfl)
  show wpAny _ _ (newTuple [a, b] >>= fun _ => _) _ _ _
  apply wpAny_bind
  refine wpAny_newObj_type ?_
  apply wpAny_bind
  refine iter_tupleW (s := { s with heap := s.heap.push { cls := .type "tuple", data := .seq #[a, b] } }) (A := A.in1) calm (mn_tup2 s a b) fun z ez walk start inside apart kept => ?_
  have k1 : ∀ c o, s.heap.get? c = some o → z.heap.get? c = some o := fun c o e => kept c o (k0 c o e)
  apply wpAny_bind
  refine wpAny_newObj_type ?_
  have fresh : z.heap.objs.size ∉ [(s.heap.push { cls := .type "tuple", data := .seq #[a, b] }).objs.size, s.heap.objs.size] := fun hm => Nat.lt_irrefl _ (inside _ hm)
  rw [nm]
  apply wpAny_pure
  refine ⟨plainId_quiet F.plain_max_loop _, codeAny_max_loop_firstH walk (s.heap.push { cls := .type "tuple", data := .seq #[a, b] }) apart _ (show CmpIn prog w A.in1 .Gt (s.heap.push { cls := .type "tuple", data := .seq #[a, b] }) (fun i v => #[a, b][i]? = some v) (fun i j => dataLt ([x, y].getD j .none) ([x, y].getD i .none)) from cmpIn_gt (s := { s with heap := s.heap.push { cls := .type "tuple", data := .seq #[a, b] } }) (vs := #[a, b]) rd1 al room) z.heap.objs.size fresh (fresh_in kept) [] (Nat.succ_pos 1) (fun c o e => Heap.get?_push_of_some _ (kept c o e))
    (walk.frame 0 z _ z.toks start (Nat.le_refl _) fun c _ o e => Heap.get?_push_of_some _ e) (Heap.get?_push_size _ rfl) fun v z' item mv => ?_⟩
  obtain ⟨hp, tk, rfl, k2⟩ := moved_old ez rfl (Moved.drop_new (tk := z.toks) mv (Nat.le_refl _))
  have := fin hp tk fun c o e => k2 c o (k0 c o e)
  have same : (if dataLt x y = true then b else a) = v := by
    cases hc : dataLt x y
    · have he : (#[a, b] : Array Value)[argBest (fun i j => dataLt ([x, y].getD j .none) ([x, y].getD i .none)) 1]? = some v := item
      simp only [argBest, List.getD_cons_zero, List.getD_cons_succ, hc] at he
      exact Option.some.inj he
    · have he : (#[a, b] : Array Value)[argBest (fun i j => dataLt ([x, y].getD j .none) ([x, y].getD i .none)) 1]? = some v := item
      simp only [argBest, List.getD_cons_zero, List.getD_cons_succ, hc] at he
      exact Option.some.inj he
  rw [same] at this
  exact this

theorem mn_min_two {a b : Value} {x y : PyData} {as : List Addr} {Q : Value → Shared → Prop} (calm : A.handled = none) (rd : ReadsAll s.heap [a, b] [x, y] as) (al : AlikeAll [x, y]) (room : A.units + 1 + PyData.depthAll [x, y] < cLine)
    (fin : ∀ hp tk, (∀ c o, s.heap.get? c = some o → hp.get? c = some o) → Q (if dataLt y x = true then b else a) { s with heap := hp, toks := tk }) :
    wpAny (model prog w) A (call (.builtin "min") [a, b]) Q E s := by
  have nm : (toString "min" ++ toString ".loop" : String) = "min.loop" := by decide
  have k0 : ∀ c o, s.heap.get? c = some o → (s.heap.push { cls := .type "tuple", data := .seq #[a, b] }).get? c = some o := fun c o e => Heap.get?_push_of_some _ e
  have rd1 := ReadsAll.keeps k0 rd
  refine call_function_tree F.kind_min F.plain_min F.entry_min (F.args_min2 a b) ?_
  show wpAny _ _ (Builtin.Builtins.bindParams "min" ["key", "default"] 0 (Args.mk [] []) >>= fun _ => _) _ _ _
  apply wpAny_bind
  apply wpAny_of_eq (show Builtin.Builtins.bindParams "min" ["key", "default"] 0 (Args.mk [] []) = pure [none, none] from rfl)
  show wpAny _ _ (newTuple [a, b] >>= fun _ => _) _ _ _
  apply wpAny_bind
  refine wpAny_newObj_type ?_
  apply wpAny_bind
  refine iter_tupleW (s := { s with heap := s.heap.push { cls := .type "tuple", data := .seq #[a, b] } }) (A := A.in1) calm (mn_tup2 s a b) fun z ez walk start inside apart kept => ?_
  have k1 : ∀ c o, s.heap.get? c = some o → z.heap.get? c = some o := fun c o e => kept c o (k0 c o e)
  apply wpAny_bind
  refine wpAny_newObj_type ?_
  have fresh : z.heap.objs.size ∉ [(s.heap.push { cls := .type "tuple", data := .seq #[a, b] }).objs.size, s.heap.objs.size] := fun hm => Nat.lt_irrefl _ (inside _ hm)
  rw [nm]
  apply wpAny_pure
  refine ⟨plainId_quiet F.plain_min_loop _, codeAny_min_loop_firstH walk (s.heap.push { cls := .type "tuple", data := .seq #[a, b] }) apart _ (show CmpIn prog w A.in1 .Lt (s.heap.push { cls := .type "tuple", data := .seq #[a, b] }) (fun i v => #[a, b][i]? = some v) (fun i j => dataLt ([x, y].getD i .none) ([x, y].getD j .none)) from cmpIn_lt (s := { s with heap := s.heap.push { cls := .type "tuple", data := .seq #[a, b] } }) (vs := #[a, b]) rd1 al room) z.heap.objs.size fresh (fresh_in kept) [] (Nat.succ_pos 1) (fun c o e => Heap.get?_push_of_some _ (kept c o e))
    (walk.frame 0 z _ z.toks start (Nat.le_refl _) fun c _ o e => Heap.get?_push_of_some _ e) (Heap.get?_push_size _ rfl) fun v z' item mv => ?_⟩
  obtain ⟨hp, tk, rfl, k2⟩ := moved_old ez rfl (Moved.drop_new (tk := z.toks) mv (Nat.le_refl _))
  have := fin hp tk fun c o e => k2 c o (k0 c o e)
  have same : (if dataLt y x = true then b else a) = v := by
    cases hc : dataLt y x
    · have he : (#[a, b] : Array Value)[argBest (fun i j => dataLt ([x, y].getD i .none) ([x, y].getD j .none)) 1]? = some v := item
      simp only [argBest, List.getD_cons_zero, List.getD_cons_succ, hc] at he
      exact Option.some.inj he
    · have he : (#[a, b] : Array Value)[argBest (fun i j => dataLt ([x, y].getD i .none) ([x, y].getD j .none)) 1]? = some v := item
      simp only [argBest, List.getD_cons_zero, List.getD_cons_succ, hc] at he
      exact Option.some.inj he
  rw [same] at this
  exact this

end
end PySem.W

namespace Mn
open PySem PySem.Spec PyProof.Rows L2
/-! ### max, min of two pairs of ints; max of three ints -/
theorem dataLt_pr (a b c d : Int) : PySem.W.dataLt (.tuple [.int a, .int b]) (.tuple [.int c, .int d]) = decide ([a, b] < [c, d]) := by
  rw [PySem.W.dataLt_tuple]
  exact PySem.W.dataLt_ints [a, b] [c, d]
theorem alike_pr (a b c d : Int) : PySem.W.AlikeAll [.tuple [.int a, .int b], .tuple [.int c, .int d]] := by
  refine ⟨fun x hx y hy => ?_, fun x hx => ?_⟩
  · rcases List.mem_cons.mp hx with rfl | hx <;> rcases List.mem_cons.mp hy with rfl | hy
    · rfl
    · cases List.mem_singleton.mp hy; rfl
    · cases List.mem_singleton.mp hx; rfl
    · cases List.mem_singleton.mp hx; cases List.mem_singleton.mp hy; rfl
  · rcases List.mem_cons.mp hx with rfl | hx
    · exact fun h => nomatch h
    · cases List.mem_singleton.mp hx; exact fun h => nomatch h
def dMaxT : List D → Option Cell
  | [.tup [.int a, .int b], .tup [.int c, .int d]] => some (0, if [a, b] < [c, d] then .tup [.int c, .int d] else .tup [.int a, .int b])
  | _ => none
def dMinT : List D → Option Cell
  | [.tup [.int a, .int b], .tup [.int c, .int d]] => some (0, if [c, d] < [a, b] then .tup [.int c, .int d] else .tup [.int a, .int b])
  | _ => none
def rMaxT (X : Cx) : List V → Hp → VK → Prop := fun xs H Q => ∃ (x y : V) (a b c d : Int), xs = [x, y] ∧ Dp X.K H x (.tuple [.int a, .int b]) ∧ Dp X.K H y (.tuple [.int c, .int d]) ∧ Q (if [a, b] < [c, d] then y else x) H
def rMinT (X : Cx) : List V → Hp → VK → Prop := fun xs H Q => ∃ (x y : V) (a b c d : Int), xs = [x, y] ∧ Dp X.K H x (.tuple [.int a, .int b]) ∧ Dp X.K H y (.tuple [.int c, .int d]) ∧ Q (if [c, d] < [a, b] then y else x) H
def dMax3 : List D → Option D
  | [.int i, .int j, .int k] => some (.int (max (max i j) k))
  | _ => none
section
variable {X : Cx}
theorem call_maxT (hu : X.A.units + 65 < cLine) (hc : X.calm = true) : CallR X (.builtin "max") (rMaxT X) := by
  intro pins s σ H xs us Q I r h
  obtain ⟨x, y, a, b, c, d, rfl, hx, hy, q⟩ := h
  obtain ⟨u, v, rfl, r1, r2⟩ := vals2 r
  obtain ⟨as, e1⟩ := Dp.reads I _ _ _ hx r1
  obtain ⟨bs, e2⟩ := Dp.reads I _ _ _ hy r2
  refine PySem.W.mn_max_two (I.ok.hd hc) (.cons e1 (.cons e2 .nil)) (alike_pr a b c d) (by simp [PyData.depthAll, PyData.depth]; omega) fun hp tk k => ⟨_, H, I.kept k, ?_, q⟩
  rw [dataLt_pr]
  by_cases h : [a, b] < [c, d]
  · rw [if_pos h, if_pos (decide_eq_true h)]; exact r2
  · rw [if_neg h, if_neg (by rw [decide_eq_false h]; decide)]; exact r1
theorem call_minT (hu : X.A.units + 65 < cLine) (hc : X.calm = true) : CallR X (.builtin "min") (rMinT X) := by
  intro pins s σ H xs us Q I r h
  obtain ⟨x, y, a, b, c, d, rfl, hx, hy, q⟩ := h
  obtain ⟨u, v, rfl, r1, r2⟩ := vals2 r
  obtain ⟨as, e1⟩ := Dp.reads I _ _ _ hx r1
  obtain ⟨bs, e2⟩ := Dp.reads I _ _ _ hy r2
  refine PySem.W.mn_min_two (I.ok.hd hc) (.cons e1 (.cons e2 .nil)) (alike_pr a b c d) (by simp [PyData.depthAll, PyData.depth]; omega) fun hp tk k => ⟨_, H, I.kept k, ?_, q⟩
  rw [dataLt_pr]
  by_cases h : [c, d] < [a, b]
  · rw [if_pos h, if_pos (decide_eq_true h)]; exact r2
  · rw [if_neg h, if_neg (by rw [decide_eq_false h]; decide)]; exact r1
theorem w_maxT : OpF1 X dMaxT (rMaxT X) := fun B W H vs cs xs c us Q e r hu q => by
  unfold dMaxT at e
  split at e
  · cases e
    obtain ⟨u, v, rfl, h1, h2⟩ := repL2 hu
    refine ⟨u, v, _, _, _, _, rfl, Rep.dp _ _ _ (Rep.mono r.sw _ _ h1) rfl, Rep.dp _ _ _ (Rep.mono r.sw _ _ h2) rfl, q W H _ (Gr.refl B W) (r.push0 ?_)⟩
    split
    · exact h2
    · exact h1
  · cases e
theorem w_minT : OpF1 X dMinT (rMinT X) := fun B W H vs cs xs c us Q e r hu q => by
  unfold dMinT at e
  split at e
  · cases e
    obtain ⟨u, v, rfl, h1, h2⟩ := repL2 hu
    refine ⟨u, v, _, _, _, _, rfl, Rep.dp _ _ _ (Rep.mono r.sw _ _ h1) rfl, Rep.dp _ _ _ (Rep.mono r.sw _ _ h2) rfl, q W H _ (Gr.refl B W) (r.push0 ?_)⟩
    split
    · exact h2
    · exact h1
  · cases e
theorem w_max3 : OpN X dMax3 (rNuC3 nuMax3) := fun H xs z us Q e hu q => by
  unfold dMax3 at e
  split at e
  · cases e
    obtain ⟨u, us', rfl, h1, h2⟩ := hu
    obtain ⟨v, w', rfl, h3, h4⟩ := repL2 h2
    cases (show u = _ from h1); cases (show v = _ from h3); cases (show w' = _ from h4)
    rename_i i j k
    refine ⟨_, _, _, .int (max (max i j) k), rfl, ?_, q _ rfl⟩
    have h1 : nuMax2 (V.int i) (V.int j) = some (V.int (max i j)) := by
      show some (if decide (i < j) = true then V.int j else V.int i) = _
      by_cases h : i < j
      · rw [if_pos (decide_eq_true h), show max i j = j by omega]
      · rw [if_neg (by rw [decide_eq_false h]; decide), show max i j = i by omega]
    have h2 : nuMax2 (V.int (max i j)) (V.int k) = some (V.int (max (max i j) k)) := by
      show some (if decide (max i j < k) = true then V.int k else V.int (max i j)) = _
      by_cases h : max i j < k
      · rw [if_pos (decide_eq_true h), show max (max i j) k = k by omega]
      · rw [if_neg (by rw [decide_eq_false h]; decide), show max (max i j) k = max i j by omega]
    show (nuMax2 (V.int i) (V.int j)).bind _ = _
    rw [h1]
    exact h2
  · cases e
end
@[simp] theorem e_max3 {i j k : Int} : dMax3 [.int i, .int j, .int k] = some (.int (max (max i j) k)) := rfl
end Mn

namespace Mn
open PySem PySem.Spec PyProof.Rows L2
/-! ### encodings whose equality is Python's == -/
structure EncOk {α : Type} [DecidableEq α] (e : α → D) (p : α → PyData) (dep : Nat) : Prop where
  tp : ∀ a, toP (e a) = some (p a)
  lay : ∀ a, (p a).canLay0 = true
  dp : ∀ a, (p a).depth ≤ dep
  ev : ∀ a b, PyData.eqv (p a) (p b) = decide (a = b)
section
variable {α : Type} [DecidableEq α] {e : α → D} {p : α → PyData} {k : Nat}
theorem EncOk.shaped (h : EncOk e p k) (hk : k ≤ 64) (a : α) : SeqAt.shaped (p a) = true := by
  unfold SeqAt.shaped
  rw [h.lay a, Bool.true_and]
  exact decide_eq_true (Nat.le_trans (h.dp a) hk)
theorem EncOk.eq (h : EncOk e p k) (hk : k ≤ 64) (a b : α) : dEq (e a) (e b) = some (.bl (decide (a = b))) := by
  simp only [dEq, h.tp, h.shaped hk, h.ev, Bool.and_self, if_true]
theorem EncOk.ne (h : EncOk e p k) (hk : k ≤ 64) (a b : α) : dNe (e a) (e b) = some (.bl (!decide (a = b))) := by
  simp only [dNe, h.tp, h.shaped hk, h.ev, Bool.and_self, if_true]
theorem EncOk.layAll (h : EncOk e p k) : ∀ l : List α, PyData.canLayAll0 (l.map p) = true
  | [] => rfl
  | a :: l => by rw [List.map_cons]; simp only [PyData.canLayAll0, h.lay a, h.layAll l, Bool.and_self]
theorem EncOk.dpAll (h : EncOk e p k) : ∀ l : List α, PyData.depthAll (l.map p) ≤ k
  | [] => Nat.zero_le _
  | a :: l => by
    rw [List.map_cons]
    simp only [PyData.depthAll]
    have := h.dp a
    have := h.dpAll l
    omega
theorem EncOk.evAll (h : EncOk e p k) : ∀ l m : List α, PyData.eqvAll (l.map p) (m.map p) = decide (l = m)
  | [], [] => by simp [PyData.eqvAll]
  | [], _ :: _ => by simp [PyData.eqvAll]
  | _ :: _, [] => by simp [PyData.eqvAll]
  | a :: l, b :: m => by
    rw [List.map_cons, List.map_cons]
    simp only [PyData.eqvAll, h.ev, h.evAll l m, List.cons.injEq]
    by_cases q : a = b <;> simp [q]
theorem EncOk.list (h : EncOk e p k) : EncOk (fun l : List α => .lst (l.map e)) (fun l => .list (l.map p)) (k + 1) where
  tp l := by
    have : toPL (l.map e) = some (l.map p) := toPL_mapL _ _ l fun a _ => h.tp a
    simp only [toP, this]
  lay l := by simp only [PyData.canLay0]; exact h.layAll l
  dp l := by
    have := h.dpAll l
    simp only [PyData.depth]
    omega
  ev l m := by simp only [PyData.eqv]; exact h.evAll l m
theorem EncOk.index (h : EncOk e p k) (hk : k < 64) {l : List α} {a : α} (ha : a ∈ l) : ∃ j, dIndexAt (l.map e) (e a) = some j ∧ l[j]? = some a := by
  have h1 := h.list.shaped (by omega) l
  have h2 : toPL (l.map e) = some (l.map p) := toPL_mapL _ _ l fun a _ => h.tp a
  have h3 : ∀ l : List α, a ∈ l → ∃ j, (l.map p).findIdx? (fun z => PyData.eqv z (p a)) = some j ∧ l[j]? = some a := by
    intro l
    induction l with
    | nil => intro hm; cases hm
    | cons b r ih =>
      intro hm
      rw [List.map_cons, List.findIdx?_cons, h.ev]
      by_cases q : b = a
      · exact ⟨0, by rw [if_pos (decide_eq_true q)], by rw [q]; rfl⟩
      · obtain ⟨j, h1, h2⟩ := ih (by
          rcases List.mem_cons.mp hm with z | z
          · exact absurd z.symm q
          · exact z)
        refine ⟨j + 1, ?_, h2⟩
        rw [if_neg (by rw [decide_eq_false q]; decide), h1]
        rfl
  obtain ⟨j, h4, h5⟩ := h3 l ha
  refine ⟨j, ?_, h5⟩
  unfold dIndexAt
  rw [h2, h.tp a]
  simp only [h1, h.shaped (by omega) a, Bool.and_self, if_true]
  exact h4
end
theorem enc_int : EncOk D.int PyData.int 0 where
  tp _ := rfl
  lay _ := rfl
  dp _ := Nat.le_refl _
  ev a b := by simp only [PyData.eqv]; by_cases q : a = b <;> simp [q]
theorem enc_bool : EncOk D.bl PyData.bool 0 where
  tp _ := rfl
  lay _ := rfl
  dp _ := Nat.le_refl _
  ev a b := by simp only [PyData.eqv]; by_cases q : a = b <;> simp [q]
theorem enc_pair : EncOk (fun t : Int × Int => D.tup [.int t.1, .int t.2]) (fun t => .tuple [.int t.1, .int t.2]) 1 where
  tp _ := rfl
  lay _ := rfl
  dp _ := by simp [PyData.depth, PyData.depthAll]
  ev a b := by
    simp only [PyData.eqv, PyData.eqvAll]
    by_cases q1 : a.1 = b.1 <;> by_cases q2 : a.2 = b.2 <;> simp [q1, q2, Prod.ext_iff]
theorem enc_tell : EncOk (fun t : Int × Int × Bool × Int => D.tup [.int t.1, .int t.2.1, .bl t.2.2.1, .int t.2.2.2]) (fun t => .tuple [.int t.1, .int t.2.1, .bool t.2.2.1, .int t.2.2.2]) 1 where
  tp _ := rfl
  lay _ := rfl
  dp _ := by simp [PyData.depth, PyData.depthAll]
  ev a b := by
    simp only [PyData.eqv, PyData.eqvAll]
    by_cases q1 : a.1 = b.1 <;> by_cases q2 : a.2.1 = b.2.1 <;> by_cases q3 : a.2.2.1 = b.2.2.1 <;> by_cases q4 : a.2.2.2 = b.2.2.2 <;> simp [q1, q2, q3, q4, Prod.ext_iff]
end Mn

namespace Mn
open PySem PySem.Spec PyProof.Rows L2
abbrev topS (i : Nat) : Stmt := PySem.Challenge.pw_wordsquares_k14_whole_symbols_and_counts.main.body.getD i (.Pass ⟨0, 0, 0, 0⟩)
/-! _law_both -/
abbrev s__law_both : Stmt := topS 44
abbrev N__law_both : List Str := ["_law_one", "_law_other", "_law_found", "_law_low", "_law_many", "_law_at", "_law_have"]
theorem sc__law_both : FnScope N__law_both ["_law_one", "_law_other"] (defScope s__law_both) := ⟨rfl, rfl, rfl, by decide +kernel, rfl, by decide +kernel, by decide +kernel⟩
noncomputable def m__law_both : Mn.Env → Option Out :=
  (sSeq (sAsg 2 (mFz (mBinF dMulG (mLst 0 (mCons 0 (mP (pC (.int 0))) mNil)) (mP (pC (.int 64))))))
    (sSeq (sFor (iEnumM (mCons 0 (mO (oVar 0)) mNil)) (tTupT 2 (tsCons (tName 3) (tsCons (tName 4) tsNil))) (sIf (mtP (pB (pBin dGt (pVar 4) (pC (.int 0))))) (sAsg 2 (mFz (mComp 0 (iEnumM (mCons 0 (mO (oVar 2)) mNil)) (tTupT 2 (tsCons (tName 5) (tsCons (tName 6) tsNil))) tYesM (mP (pBin dAdd (pVar 6) (pBin dMul (pVar 4) (pBin dIx (pVar 1) (pBin dMod (pCall dInt (pCons (pBin dSub (pVar 5) (pVar 3)) pNil)) (pC (.int 64))))))) [5, 6]))) sNx))
    (sRet (mO (oVar 2)))))
noncomputable def F__law_both : Fp0 := run0 7 m__law_both
theorem b__law_both {P : Program} {w : World} {K : PySem.W.Frag} {mg : Str → Option Value} {base : Heap} {fa : Addr} (z_enumerate : mg "enumerate" = none) (z_int : mg "int" = none) : Body P w K mg base N__law_both "_law_both" s__law_both fa 0 [] m__law_both := fun cdv A outer s H hr hgd =>
  (s_cons (s_asg sc__law_both.nd rfl (.inl rfl) (by decide) (g_fz (g_mul (g_lst (g_acons (g_p p_int) g_anil)) (g_p p_int))))
    (s_cons (s_for PassesOwn.never rfl (i_enum (by rfl) z_enumerate (g_acons (g_o (o_var (pv 0))) g_anil)) (tg_tup rfl (tg_cons (tg_name sc__law_both.nd rfl (.inr rfl)) (tg_cons (tg_name sc__law_both.nd rfl (.inr rfl)) tg_nil))) (s_one (s_if (gt_p (t_cmp op_gt w_cmp2 (p_var (pv 4)) p_int (nomark _))) (s_one (s_setComp0 (own := [("_law_at", 5), ("_law_have", 6)]) rfl sc__law_both.nd rfl rfl (by decide) (by rfl) (i_enum (by rfl) z_enumerate (g_acons (g_o (o_var (pv 2))) g_anil)) (blkOk_by (N := N__law_both) (sc := (defScope s__law_both)) (own := [("_law_at", 5), ("_law_have", 6)]) (by decide +kernel)) (fun _ _ _ _ _ => (tg_tup rfl (tg_cons (tg_name sc__law_both.nd rfl (.inl rfl)) (tg_cons (tg_name sc__law_both.nd rfl (.inl rfl)) tg_nil)))) (fun _ _ _ _ _ => (g_p (p_add (p_var (pv 6)) (p_mul (p_var (pv 4)) (p_ix ix_seq w_ix (p_var (pv 1)) (p_mod (p_callTy call_int1 w_int (by rfl) z_int PyProof.Rows.boot_int (p_acons (p_sub (p_var (pv 5)) (p_var (pv 3))) p_anil)) p_int) (fun _ _ => rfl)))))) (by decide))) s_nil)) (by decide))
    (s_one (s_ret (g_o (o_var (pv 2)))))))
/-! _law_power -/
abbrev s__law_power : Stmt := topS 38
abbrev N__law_power : List Str := ["_law_many", "_law_found", "_law_turn"]
theorem sc__law_power : FnScope N__law_power ["_law_many"] (defScope s__law_power) := ⟨rfl, rfl, rfl, by decide +kernel, rfl, by decide +kernel, by decide +kernel⟩
noncomputable def m__law_power : Mn.Env → Option Out :=
  (sSeq (sAsg 1 (mP (pC (.int 1))))
    (sSeq (sFor (iRange (mCons 0 (mO (oVar 0)) mNil)) (tName 2) (sAsg 1 (mFz (mBinF dAddG (mO (oVar 1)) (mO (oVar 1))))))
    (sRet (mO (oVar 1)))))
noncomputable def F__law_power : Fp0 := run0 3 m__law_power
theorem b__law_power {P : Program} {w : World} {K : PySem.W.Frag} {mg : Str → Option Value} {base : Heap} {fa : Addr} (z_range : mg "range" = none) : Body P w K mg base N__law_power "_law_power" s__law_power fa 0 [] m__law_power := fun cdv A outer s H hr hgd =>
  (s_cons (s_asg sc__law_power.nd rfl (.inl rfl) (by decide) (g_p p_int))
    (s_cons (s_for PassesOwn.never rfl (i_range1 (by rfl) z_range (g_acons (g_o (o_var (pv 0))) g_anil) (h1 := (len_cons len_nil))) (tg_name sc__law_power.nd rfl (.inl rfl)) (s_one (s_asg sc__law_power.nd rfl (.inl rfl) (by decide) (g_fz (g_add (g_o (o_var (pv 1))) (g_o (o_var (pv 1))))))) (by decide))
    (s_one (s_ret (g_o (o_var (pv 1)))))))
/-! _law_counted -/
abbrev s__law_counted : Stmt := topS 43
abbrev N__law_counted : List Str := ["_law_scale", "_law_kind", "_law_found", "_law_low", "_law_at", "_law_high"]
theorem sc__law_counted : FnScope N__law_counted ["_law_scale", "_law_kind"] (defScope s__law_counted) := ⟨rfl, rfl, rfl, by decide +kernel, rfl, by decide +kernel, by decide +kernel⟩
noncomputable def m__law_counted : Mn.Env → Option Out :=
  (sSeq (sAsg 2 (mBinF dMulG (mLst 0 (mCons 0 (mP (pC (.int 0))) mNil)) (mP (pC (.int 64)))))
    (sSeq (sFor (iRange (mCons 0 (mP (pC (.int 64))) mNil)) (tName 3) (sIf (mtP (pB (pBin dEq (pBin dMod (pCall dInt (pCons (pVar 1) pNil)) (pC (.int 2))) (pC (.int 1))))) (sSeq (sAsg 4 (mFz (mBin dMod (mCallF (ofN dInt) (mCons 0 (mBinF dMulG (mBinF dMulG (mBinF dMulG (mCall 1 F__law_power (mCons 0 (mO (oVar 0)) mNil)) (mO (oVar 1))) (mO (oVar 3))) (mO (oVar 3))) mNil)) (mP (pC (.int 64))))))
    (sSet 2 plNil (pVar 4) (mP (pBin dAdd (pBin dIx (pVar 2) (pVar 4)) (pC (.int 1)))))) (sFor (iRange (mCons 0 (mP (pC (.int 64))) mNil)) (tName 5) (sSeq (sAsg 4 (mFz (mBin dMod (mCallF (ofN dInt) (mCons 0 (mBinF dMulG (mCall 1 F__law_power (mCons 0 (mO (oVar 0)) mNil)) (mP (pBin dAdd (pBin dAdd (pBin dMul (pBin dMul (pVar 1) (pVar 3)) (pVar 3)) (pBin dMul (pBin dMul (pC (.int 2)) (pVar 3)) (pVar 5))) (pBin dMul (pBin dMul (pVar 1) (pVar 5)) (pVar 5))))) mNil)) (mP (pC (.int 64))))))
    (sSet 2 plNil (pVar 4) (mP (pBin dAdd (pBin dIx (pVar 2) (pVar 4)) (pC (.int 1)))))))))
    (sRet (mMv 2))))
noncomputable def F__law_counted : Fp0 := run0 6 m__law_counted
theorem b__law_counted {P : Program} {w : World} {K : PySem.W.Frag} {mg : Str → Option Value} {base : Heap} {fa : Addr} (h__law_power : FnAt P w K mg base 1 "_law_power" 1 (sp0 K mg 1 F__law_power)) (z_int : mg "int" = none) (z_range : mg "range" = none) : Body P w K mg base N__law_counted "_law_counted" s__law_counted fa 1 [] m__law_counted := fun cdv A outer s H hr hgd =>
  (s_cons (s_asg sc__law_counted.nd rfl (.inl rfl) (by decide) (g_mul (g_lst (g_acons (g_p p_int) g_anil)) (g_p p_int)))
    (s_cons (s_for PassesOwn.never rfl (i_range1 (by rfl) z_range (g_acons (g_p p_int) g_anil) (h1 := (len_cons len_nil))) (tg_name sc__law_counted.nd rfl (.inl rfl)) (s_one (s_if (gt_p (t_cmp (op_eqD (hu64 hr)) w_eq (p_mod (p_callTy call_int1 w_int (by rfl) z_int PyProof.Rows.boot_int (p_acons (p_var (pv 1)) p_anil)) p_int) p_int (nomark _))) (s_cons (s_asg sc__law_counted.nd rfl (.inl rfl) (by decide) (g_fz (g_mod (g_callTy call_int1 (w_of w_int) (by rfl) z_int PyProof.Rows.boot_int (g_acons (g_mul (g_mul (g_mul (g_call h__law_power hr hgd (by rfl) (g_acons (g_o (o_var (pv 0))) g_anil)) (g_o (o_var (pv 1)))) (g_o (o_var (pv 3)))) (g_o (o_var (pv 3)))) g_anil)) (g_p p_int))))
    (s_one (s_set (pl_var (pv 2)) (p_var (pv 4)) (g_p (p_add (p_ix ix_seq w_ix (p_var (pv 2)) (p_var (pv 4)) (fun _ _ => rfl)) p_int))))) (s_one (s_for PassesOwn.never rfl (i_range1 (by rfl) z_range (g_acons (g_p p_int) g_anil) (h1 := (len_cons len_nil))) (tg_name sc__law_counted.nd rfl (.inl rfl)) (s_cons (s_asg sc__law_counted.nd rfl (.inl rfl) (by decide) (g_fz (g_mod (g_callTy call_int1 (w_of w_int) (by rfl) z_int PyProof.Rows.boot_int (g_acons (g_mul (g_call h__law_power hr hgd (by rfl) (g_acons (g_o (o_var (pv 0))) g_anil)) (g_p (p_add (p_add (p_mul (p_mul (p_var (pv 1)) (p_var (pv 3))) (p_var (pv 3))) (p_mul (p_mul p_int (p_var (pv 3))) (p_var (pv 5)))) (p_mul (p_mul (p_var (pv 1)) (p_var (pv 5))) (p_var (pv 5)))))) g_anil)) (g_p p_int))))
    (s_one (s_set (pl_var (pv 2)) (p_var (pv 4)) (g_p (p_add (p_ix ix_seq w_ix (p_var (pv 2)) (p_var (pv 4)) (fun _ _ => rfl)) p_int))))) (by decide))))) (by decide))
    (s_one (s_ret (g_mv (pv 2))))))
/-! _law_unknowns -/
abbrev s__law_unknowns : Stmt := topS 32
abbrev N__law_unknowns : List Str := ["_law_pieces_here", "_law_scale", "_law_kind"]
theorem sc__law_unknowns : FnScope N__law_unknowns ["_law_pieces_here"] (defScope s__law_unknowns) := ⟨rfl, rfl, rfl, by decide +kernel, rfl, by decide +kernel, by decide +kernel⟩
noncomputable def m__law_unknowns : Mn.Env → Option Out :=
  (sRet (mCallF (ofN dSum) (mCons 0 (mComp 0 (iSeq (mO (oVar 0))) (tTupT 2 (tsCons (tName 1) (tsCons (tName 2) tsNil))) tYesM (mP (pBin dSub (pC (.int 2)) (pBin dMod (pCall dInt (pCons (pVar 2) pNil)) (pC (.int 2))))) [1, 2]) mNil)))
noncomputable def F__law_unknowns : Fp0 := run0 3 m__law_unknowns
theorem b__law_unknowns {P : Program} {w : World} {K : PySem.W.Frag} {mg : Str → Option Value} {base : Heap} {fa : Addr} (z_int : mg "int" = none) (z_sum : mg "sum" = none) : Body P w K mg base N__law_unknowns "_law_unknowns" s__law_unknowns fa 0 [] m__law_unknowns := fun cdv A outer s H hr hgd =>
  (s_one (s_ret (g_callB (cr_sum rfl) (w_of w_sum) (by rfl) z_sum PyProof.Rows.boot_sum (g_acons (g_comp (own := [("_law_scale", 1), ("_law_kind", 2)]) rfl sc__law_unknowns.nd (i_seq (g_o (o_var (pv 0)))) (blkOk_by (N := N__law_unknowns) (sc := (defScope s__law_unknowns)) (own := [("_law_scale", 1), ("_law_kind", 2)]) (by decide +kernel)) (fun _ _ _ _ _ => (tg_tup rfl (tg_cons (tg_name sc__law_unknowns.nd rfl (.inl rfl)) (tg_cons (tg_name sc__law_unknowns.nd rfl (.inl rfl)) tg_nil)))) (fun _ _ _ _ _ => (g_p (p_sub p_int (p_mod (p_callTy call_int1 w_int (by rfl) z_int PyProof.Rows.boot_int (p_acons (p_var (pv 2)) p_anil)) p_int)))) (by decide)) g_anil))))
/-! _law_counts -/
abbrev s__law_counts : Stmt := topS 45
abbrev N__law_counts : List Str := ["_law_pieces_here", "_law_size_here", "_law_found", "_law_scale", "_law_kind", "_law_turn", "_law_many"]
theorem sc__law_counts : FnScope N__law_counts ["_law_pieces_here", "_law_size_here"] (defScope s__law_counts) := ⟨rfl, rfl, rfl, by decide +kernel, rfl, by decide +kernel, by decide +kernel⟩
noncomputable def m__law_counts : Mn.Env → Option Out :=
  (sSeq (sAsg 2 (mFz (mBinF dAddG (mLst 0 (mCons 0 (mP (pC (.int 1))) mNil)) (mBinF dMulG (mLst 0 (mCons 0 (mP (pC (.int 0))) mNil)) (mP (pC (.int 63)))))))
    (sSeq (sFor (iSeq (mO (oVar 0))) (tTupT 2 (tsCons (tName 3) (tsCons (tName 4) tsNil))) (sAsg 2 (mFz (mCall 2 F__law_both (mCons 0 (mO (oVar 2)) (mCons 0 (mCall 2 F__law_counted (mCons 0 (mO (oVar 3)) (mCons 0 (mO (oVar 4)) mNil))) mNil))))))
    (sSeq (sFor (iRange (mCons 0 (mBin dSub (mO (oVar 1)) (mCall 1 F__law_unknowns (mCons 0 (mO (oVar 0)) mNil))) mNil)) (tName 5) (sAsg 2 (mFz (mComp 0 (iSeq (mO (oVar 2))) (tName 6) tYesM (mP (pBin dMul (pC (.int 64)) (pVar 6))) [6]))))
    (sRet (mO (oVar 2))))))
noncomputable def F__law_counts : Fp0 := run0 7 m__law_counts
theorem b__law_counts {P : Program} {w : World} {K : PySem.W.Frag} {mg : Str → Option Value} {base : Heap} {fa : Addr} (h__law_both : FnAt P w K mg base 2 "_law_both" 2 (sp0 K mg 2 F__law_both)) (h__law_counted : FnAt P w K mg base 2 "_law_counted" 2 (sp0 K mg 2 F__law_counted)) (h__law_unknowns : FnAt P w K mg base 2 "_law_unknowns" 1 (sp0 K mg 1 F__law_unknowns)) (z_range : mg "range" = none) : Body P w K mg base N__law_counts "_law_counts" s__law_counts fa 2 [] m__law_counts := fun cdv A outer s H hr hgd =>
  (s_cons (s_asg sc__law_counts.nd rfl (.inl rfl) (by decide) (g_fz (g_add (g_lst (g_acons (g_p p_int) g_anil)) (g_mul (g_lst (g_acons (g_p p_int) g_anil)) (g_p p_int)))))
    (s_cons (s_for PassesOwn.never rfl (i_seq (g_o (o_var (pv 0)))) (tg_tup rfl (tg_cons (tg_name sc__law_counts.nd rfl (.inl rfl)) (tg_cons (tg_name sc__law_counts.nd rfl (.inl rfl)) tg_nil))) (s_one (s_asg sc__law_counts.nd rfl (.inl rfl) (by decide) (g_fz (g_call h__law_both hr hgd (by rfl) (g_acons (g_o (o_var (pv 2))) (g_acons (g_call h__law_counted hr hgd (by rfl) (g_acons (g_o (o_var (pv 3))) (g_acons (g_o (o_var (pv 4))) g_anil))) g_anil)))))) (by decide))
    (s_cons (s_for PassesOwn.never rfl (i_range1 (by rfl) z_range (g_acons (g_sub (g_o (o_var (pv 1))) (g_call h__law_unknowns hr hgd (by rfl) (g_acons (g_o (o_var (pv 0))) g_anil))) g_anil) (h1 := (len_cons len_nil))) (tg_name sc__law_counts.nd rfl (.inl rfl)) (s_one (s_setComp0 (own := [("_law_many", 6)]) rfl sc__law_counts.nd rfl rfl (by decide) (by rfl) (i_seq (g_o (o_var (pv 2)))) (blkOk_by (N := N__law_counts) (sc := (defScope s__law_counts)) (own := [("_law_many", 6)]) (by decide +kernel)) (fun _ _ _ _ _ => (tg_name sc__law_counts.nd rfl (.inl rfl))) (fun _ _ _ _ _ => (g_p (p_mul p_int (p_var (pv 6))))) (by decide))) (by decide))
    (s_one (s_ret (g_o (o_var (pv 2))))))))
/-! _law_cell -/
abbrev s__law_cell : Stmt := topS 27
abbrev N__law_cell : List Str := ["_law_script", "_law_index"]
theorem sc__law_cell : FnScope N__law_cell ["_law_script", "_law_index"] (defScope s__law_cell) := ⟨rfl, rfl, rfl, by decide +kernel, rfl, by decide +kernel, by decide +kernel⟩
noncomputable def m__law_cell : Mn.Env → Option Out :=
  (sSeq (sIf (mtP (pB (pBin dLt (pVar 1) (pCall dLen (pCons (pVar 0) pNil))))) (sRet (mO (oIx (oVar 0) (pVar 1)))) sNx)
    (sRet (mBin dMod (mCallF (ofN dSum) (mCons 0 (mSl (mO (oVar 0)) none (some (mP (pC (.int 1))))) mNil)) (mP (pC (.int 1000003))))))
noncomputable def F__law_cell : Fp0 := run0 2 m__law_cell
theorem b__law_cell {P : Program} {w : World} {K : PySem.W.Frag} {mg : Str → Option Value} {base : Heap} {fa : Addr} (z_len : mg "len" = none) (z_sum : mg "sum" = none) : Body P w K mg base N__law_cell "_law_cell" s__law_cell fa 0 [] m__law_cell := fun cdv A outer s H hr hgd =>
  (s_cons (s_if (gt_p (t_cmp op_lt w_cmp2 (p_var (pv 1)) (p_callB call_lenS w_len (by rfl) z_len PySem.boot_len (p_acons (p_var (pv 0)) p_anil)) (nomark _))) (s_one (s_ret (g_o (o_ix (o_var (pv 0)) (p_var (pv 1)) (fun _ _ => rfl))))) s_nil)
    (s_one (s_ret (g_mod (g_callB (cr_sum rfl) (w_of w_sum) (by rfl) z_sum PyProof.Rows.boot_sum (g_acons (g_slice (g_o (o_var (pv 0))) go_none (go_some (g_p p_int))) g_anil)) (g_p p_int)))))
/-! _law_generator -/
abbrev s__law_generator : Stmt := topS 28
abbrev N__law_generator : List Str := ["_law_script", "_law_index", "_law_seed"]
theorem sc__law_generator : FnScope N__law_generator ["_law_script", "_law_index"] (defScope s__law_generator) := ⟨rfl, rfl, rfl, by decide +kernel, rfl, by decide +kernel, by decide +kernel⟩
noncomputable def m__law_generator : Mn.Env → Option Out :=
  (sSeq (sAsg 2 (mFz (mCall 2 F__law_cell (mCons 0 (mO (oVar 0)) (mCons 0 (mO (oVar 1)) mNil)))))
    (sRet (mLst 0 (mCons 0 (mP (pBin dMod (pCall dInt (pCons (pCall dMaxL (pCons (pBin dSub (pVar 2) (pBin dPow (pC (.int 10)) (pC (.int 18)))) (pCons (pC (.int 0)) pNil))) pNil)) (pBin dPow (pBin dPow (pC (.int 10)) (pC (.int 60))) (pC (.int 10))))) (mCons 0 (mP (pBin dMod (pCall dInt (pCons (pVar 2) pNil)) (pC (.int 2147483647)))) (mCons 0 (mP (pBin dMul (pC (.int 1000)) (pVar 1))) mNil))))))
noncomputable def F__law_generator : Fp0 := run0 3 m__law_generator
theorem b__law_generator {P : Program} {w : World} {K : PySem.W.Frag} {mg : Str → Option Value} {base : Heap} {fa : Addr} (h__law_cell : FnAt P w K mg base 1 "_law_cell" 2 (sp0 K mg 2 F__law_cell)) (z_int : mg "int" = none) (z_max : mg "max" = none) : Body P w K mg base N__law_generator "_law_generator" s__law_generator fa 1 [] m__law_generator := fun cdv A outer s H hr hgd =>
  (s_cons (s_asg sc__law_generator.nd rfl (.inl rfl) (by decide) (g_fz (g_call h__law_cell hr hgd (by rfl) (g_acons (g_o (o_var (pv 0))) (g_acons (g_o (o_var (pv 1))) g_anil)))))
    (s_one (s_ret (g_lst (g_acons (g_p (p_mod (p_callTy call_int1 w_int (by rfl) z_int PyProof.Rows.boot_int (p_acons (p_callB (call_maxG rfl) w_maxL (by rfl) z_max PyProof.Rows.boot_max (p_acons (p_sub (p_var (pv 2)) (p_pow p_int p_int)) (p_acons p_int p_anil))) p_anil)) (p_pow (p_pow p_int p_int) p_int))) (g_acons (g_p (p_mod (p_callTy call_int1 w_int (by rfl) z_int PyProof.Rows.boot_int (p_acons (p_var (pv 2)) p_anil)) p_int)) (g_acons (g_p (p_mul p_int (p_var (pv 1)))) g_anil)))))))
/-! _law_hash -/
abbrev s__law_hash : Stmt := topS 25
abbrev N__law_hash : List Str := ["_law_seed", "_law_index", "_law_mixed"]
theorem sc__law_hash : FnScope N__law_hash ["_law_seed", "_law_index"] (defScope s__law_hash) := ⟨rfl, rfl, rfl, by decide +kernel, rfl, by decide +kernel, by decide +kernel⟩
noncomputable def m__law_hash : Mn.Env → Option Out :=
  (sSeq (sAsg 2 (mP (pBin dMod (pCall dInt (pCons (pBin dAdd (pBin dAdd (pBin dAdd (pBin dMul (pVar 0) (pC (.int 1140671))) (pBin dMul (pBin dMul (pC (.int 27644437)) (pVar 1)) (pVar 1))) (pBin dMul (pC (.int 131)) (pVar 1))) (pC (.int 19))) pNil)) (pC (.int 2147483629)))))
    (sSeq (sAsg 2 (mP (pBin dMod (pCall dInt (pCons (pBin dAdd (pBin dAdd (pBin dMul (pVar 2) (pVar 2)) (pBin dMul (pC (.int 62089)) (pVar 1))) (pC (.int 32416187))) pNil)) (pC (.int 2147483587)))))
    (sRet (mP (pBin dMod (pCall dInt (pCons (pBin dMul (pVar 2) (pC (.int 48271))) pNil)) (pC (.int 2147483647)))))))
noncomputable def F__law_hash : Fp0 := run0 3 m__law_hash
theorem b__law_hash {P : Program} {w : World} {K : PySem.W.Frag} {mg : Str → Option Value} {base : Heap} {fa : Addr} (z_int : mg "int" = none) : Body P w K mg base N__law_hash "_law_hash" s__law_hash fa 0 [] m__law_hash := fun cdv A outer s H hr hgd =>
  (s_cons (s_asg sc__law_hash.nd rfl (.inl rfl) (by decide) (g_p (p_mod (p_callTy call_int1 w_int (by rfl) z_int PyProof.Rows.boot_int (p_acons (p_add (p_add (p_add (p_mul (p_var (pv 0)) p_int) (p_mul (p_mul p_int (p_var (pv 1))) (p_var (pv 1)))) (p_mul p_int (p_var (pv 1)))) p_int) p_anil)) p_int)))
    (s_cons (s_asg sc__law_hash.nd rfl (.inl rfl) (by decide) (g_p (p_mod (p_callTy call_int1 w_int (by rfl) z_int PyProof.Rows.boot_int (p_acons (p_add (p_add (p_mul (p_var (pv 2)) (p_var (pv 2))) (p_mul p_int (p_var (pv 1)))) p_int) p_anil)) p_int)))
    (s_one (s_ret (g_p (p_mod (p_callTy call_int1 w_int (by rfl) z_int PyProof.Rows.boot_int (p_acons (p_mul (p_var (pv 2)) p_int) p_anil)) p_int))))))
/-! _law_random -/
abbrev s__law_random : Stmt := topS 26
abbrev N__law_random : List Str := ["_law_generator_here", "_law_bound", "_law_drawn", "_law_turn"]
theorem sc__law_random : FnScope N__law_random ["_law_generator_here", "_law_bound"] (defScope s__law_random) := ⟨rfl, rfl, rfl, by decide +kernel, rfl, by decide +kernel, by decide +kernel⟩
noncomputable def m__law_random : Mn.Env → Option Out :=
  (sSeq (sIf (mtP (pB (pBin dGt (pBin dIx (pVar 0) (pC (.int 0))) (pC (.int 0))))) (sSeq (sAsg 2 (mP (pBin dMod (pCall dInt (pCons (pBin dIx (pVar 0) (pC (.int 0))) pNil)) (pVar 1))))
    (sSeq (sSet 0 plNil (pC (.int 0)) (mP (pBin dDiv (pBin dIx (pVar 0) (pC (.int 0))) (pVar 1))))
    (sRet (mO (oVar 2))))) sNx)
    (sSeq (sAsg 2 (mP (pC (.int 0))))
    (sSeq (sFor (iRange (mCons 0 (mP (pBin dAdd (pC (.int 1)) (pBin dDiv (pUn dBits (pVar 1)) (pC (.int 30))))) mNil)) (tName 3) (sSeq (sSet 0 plNil (pC (.int 2)) (mP (pBin dAdd (pBin dIx (pVar 0) (pC (.int 2))) (pC (.int 1)))))
    (sAsg 2 (mFz (mBinF dAddG (mP (pBin dMul (pVar 2) (pC (.int 2147483587)))) (mCall 2 F__law_hash (mCons 0 (mO (oIx (oVar 0) (pC (.int 1)))) (mCons 0 (mO (oIx (oVar 0) (pC (.int 2)))) mNil))))))))
    (sRet (mP (pBin dMod (pCall dInt (pCons (pVar 2) pNil)) (pVar 1)))))))
noncomputable def F__law_random : Fp1 := run1 4 m__law_random
theorem b__law_random {P : Program} {w : World} {K : PySem.W.Frag} {mg : Str → Option Value} {base : Heap} {fa : Addr} (h__law_hash : FnAt P w K mg base 1 "_law_hash" 2 (sp0 K mg 2 F__law_hash)) (z_int : mg "int" = none) (z_range : mg "range" = none) : Body P w K mg base N__law_random "_law_random" s__law_random fa 1 [0] m__law_random := fun cdv A outer s H hr hgd =>
  (s_cons (s_if (gt_p (t_cmp op_gt w_cmp2 (p_ix ix_seq w_ix (p_var (pv 0)) p_int (fun _ _ => rfl)) p_int (nomark _))) (s_cons (s_asg sc__law_random.nd rfl (.inl rfl) (by decide) (g_p (p_mod (p_callTy call_int1 w_int (by rfl) z_int PyProof.Rows.boot_int (p_acons (p_ix ix_seq w_ix (p_var (pv 0)) p_int (fun _ _ => rfl)) p_anil)) (p_var (pv 1)))))
    (s_cons (s_set (pl_var (pv 0)) p_int (g_p (p_div (p_ix ix_seq w_ix (p_var (pv 0)) p_int (fun _ _ => rfl)) (p_var (pv 1)))))
    (s_one (s_ret (g_o (o_var (pv 2))))))) s_nil)
    (s_cons (s_asg sc__law_random.nd rfl (.inl rfl) (by decide) (g_p p_int))
    (s_cons (s_for PassesOwn.never rfl (i_range1 (by rfl) z_range (g_acons (g_p (p_add p_int (p_div (p_bits (p_var (pv 1))) p_int))) g_anil) (h1 := (len_cons len_nil))) (tg_name sc__law_random.nd rfl (.inl rfl)) (s_cons (s_set (pl_var (pv 0)) p_int (g_p (p_add (p_ix ix_seq w_ix (p_var (pv 0)) p_int (fun _ _ => rfl)) p_int)))
    (s_one (s_asg sc__law_random.nd rfl (.inl rfl) (by decide) (g_fz (g_add (g_p (p_mul (p_var (pv 2)) p_int)) (g_call h__law_hash hr hgd (by rfl) (g_acons (g_o (o_ix (o_var (pv 0)) p_int (fun _ _ => rfl))) (g_acons (g_o (o_ix (o_var (pv 0)) p_int (fun _ _ => rfl))) g_anil)))))))) (by decide))
    (s_one (s_ret (g_p (p_mod (p_callTy call_int1 w_int (by rfl) z_int PyProof.Rows.boot_int (p_acons (p_var (pv 2)) p_anil)) (p_var (pv 1)))))))))
/-! _law_size -/
abbrev s__law_size : Stmt := topS 29
abbrev N__law_size : List Str := ["_law_generator_here", "_law_least", "_law_most"]
theorem sc__law_size : FnScope N__law_size ["_law_generator_here", "_law_least", "_law_most"] (defScope s__law_size) := ⟨rfl, rfl, rfl, by decide +kernel, rfl, by decide +kernel, by decide +kernel⟩
noncomputable def m__law_size : Mn.Env → Option Out :=
  (sRet (mBinF dAddG (mO (oVar 1)) (mCallI 2 F__law_random 0 (mCons 0 (mP (pBin dAdd (pBin dSub (pVar 2) (pVar 1)) (pC (.int 1)))) mNil))))
noncomputable def F__law_size : Fp1 := run1 3 m__law_size
theorem b__law_size {P : Program} {w : World} {K : PySem.W.Frag} {mg : Str → Option Value} {base : Heap} {fa : Addr} (h__law_random : FnAt P w K mg base 2 "_law_random" 2 (sp1 K mg 2 F__law_random)) : Body P w K mg base N__law_size "_law_size" s__law_size fa 2 [0] m__law_size := fun cdv A outer s H hr hgd =>
  (s_one (s_ret (g_add (g_o (o_var (pv 1))) (g_callI h__law_random hr hgd (by rfl) (pv 0) (g_acons (g_p (p_add (p_sub (p_var (pv 2)) (p_var (pv 1))) p_int)) g_anil)))))
/-! _law_pieces -/
abbrev s__law_pieces : Stmt := topS 31
abbrev N__law_pieces : List Str := ["_law_generator_here", "_law_most", "_law_scales_here", "_law_found", "_law_left", "_law_turn", "_law_kind"]
theorem sc__law_pieces : FnScope N__law_pieces ["_law_generator_here", "_law_most", "_law_scales_here"] (defScope s__law_pieces) := ⟨rfl, rfl, rfl, by decide +kernel, rfl, by decide +kernel, by decide +kernel⟩
noncomputable def m__law_pieces : Mn.Env → Option Out :=
  (sSeq (sPar2 3 4 (mLst 0 mNil) (mFz (mCallI 3 F__law_size 0 (mCons 0 (mP (pC (.int 0))) (mCons 0 (mO (oVar 1)) mNil)))))
    (sSeq (sFor (iRange (mCons 0 (mP (pC (.int 6))) mNil)) (tName 5) (sIf (mtP (pB (pBin dGt (pVar 4) (pC (.int 0))))) (sSeq (sAsg 6 (mFz (mIx (mLst 0 (mCons 0 (mP (pC (.int 0))) (mCons 0 (mP (pC (.int 1))) (mCons 0 (mP (pC (.int 2))) (mCons 0 (mP (pC (.int 3))) (mCons 0 (mP (pC (.int 5))) (mCons 0 (mP (pC (.int 7))) (mCons 0 (mP (pC (.int 1))) (mCons 0 (mP (pC (.int 3))) (mCons 0 (mP (pC (.int 5))) (mCons 0 (mP (pC (.int 7))) mNil))))))))))) (mCallI 2 F__law_random 0 (mCons 0 (mP (pC (.int 10))) mNil)))))
    (sSeq (sAsg 6 (mFz (mIf (mtP (ptAnd (pB (pBin dEq (pBin dMod (pCall dInt (pCons (pVar 6) pNil)) (pC (.int 2))) (pC (.int 0)))) (pB (pBin dEq (pVar 4) (pC (.int 1)))))) (mP (pBin dAdd (pVar 6) (pC (.int 1)))) (mO (oVar 6)))))
    (sSeq (sApp0 3 (mTup 0 (mCons 0 (mIx (mO (oVar 2)) (mCallI 2 F__law_random 0 (mCons 0 (mP (pCall dLen (pCons (pVar 2) pNil))) mNil))) (mCons 0 (mO (oVar 6)) mNil))))
    (sAsg 4 (mP (pBin dAdd (pBin dSub (pVar 4) (pC (.int 2))) (pBin dMod (pCall dInt (pCons (pVar 6) pNil)) (pC (.int 2))))))))) sNx))
    (sRet (mCallF dSorted (mCons 0 (mSh 3) mNil)))))
noncomputable def F__law_pieces : Fp1 := run1 7 m__law_pieces
theorem b__law_pieces {P : Program} {w : World} {K : PySem.W.Frag} {mg : Str → Option Value} {base : Heap} {fa : Addr} (h__law_random : FnAt P w K mg base 3 "_law_random" 2 (sp1 K mg 2 F__law_random)) (h__law_size : FnAt P w K mg base 3 "_law_size" 3 (sp1 K mg 3 F__law_size)) (z_int : mg "int" = none) (z_len : mg "len" = none) (z_range : mg "range" = none) (z_sorted : mg "sorted" = none) : Body P w K mg base N__law_pieces "_law_pieces" s__law_pieces fa 3 [0] m__law_pieces := fun cdv A outer s H hr hgd =>
  (s_cons (s_par2 rfl sc__law_pieces.nd rfl rfl (by decide) rfl rfl (by decide) (by decide) (g_lst g_anil) (g_fz (g_callI h__law_size hr hgd (by rfl) (pv 0) (g_acons (g_p p_int) (g_acons (g_o (o_var (pv 1))) g_anil)))) (by rfl))
    (s_cons (s_for PassesOwn.never rfl (i_range1 (by rfl) z_range (g_acons (g_p p_int) g_anil) (h1 := (len_cons len_nil))) (tg_name sc__law_pieces.nd rfl (.inl rfl)) (s_one (s_if (gt_p (t_cmp op_gt w_cmp2 (p_var (pv 4)) p_int (nomark _))) (s_cons (s_asg sc__law_pieces.nd rfl (.inl rfl) (by decide) (g_fz (g_ix (g_lst (g_acons (g_p p_int) (g_acons (g_p p_int) (g_acons (g_p p_int) (g_acons (g_p p_int) (g_acons (g_p p_int) (g_acons (g_p p_int) (g_acons (g_p p_int) (g_acons (g_p p_int) (g_acons (g_p p_int) (g_acons (g_p p_int) g_anil))))))))))) (g_callI h__law_random hr hgd (by rfl) (pv 0) (g_acons (g_p p_int) g_anil)) (fun _ _ => rfl))))
    (s_cons (s_asg sc__law_pieces.nd rfl (.inl rfl) (by decide) (g_fz (g_if (gt_p (PW.pt (t_and (t_cmp (op_eqD (hu64 hr)) w_eq (p_mod (p_callTy call_int1 w_int (by rfl) z_int PyProof.Rows.boot_int (p_acons (p_var (pv 6)) p_anil)) p_int) p_int (nomark _)) (t_and1 (t_cmp (op_eqD (hu64 hr)) w_eq (p_var (pv 4)) p_int (nomark _)))))) (g_p (p_add (p_var (pv 6)) p_int)) (g_o (o_var (pv 6))))))
    (s_cons (s_app0 (pv 3) (g_tup (g_acons (g_ix (g_o (o_var (pv 2))) (g_callI h__law_random hr hgd (by rfl) (pv 0) (g_acons (g_p (p_callB call_lenS w_len (by rfl) z_len PySem.boot_len (p_acons (p_var (pv 2)) p_anil))) g_anil)) (fun _ _ => rfl)) (g_acons (g_o (o_var (pv 6))) g_anil))))
    (s_one (s_asg sc__law_pieces.nd rfl (.inl rfl) (by decide) (g_p (p_add (p_sub (p_var (pv 4)) p_int) (p_mod (p_callTy call_int1 w_int (by rfl) z_int PyProof.Rows.boot_int (p_acons (p_var (pv 6)) p_anil)) p_int)))))))) s_nil)) (by decide))
    (s_one (s_ret (g_callB (call_sortedG (hu65 hr)) w_sorted (by rfl) z_sorted PyProof.Rows.boot_sorted (g_acons (g_sh (pv 3)) g_anil))))))
/-! _law_mate -/
abbrev s__law_mate : Stmt := topS 46
abbrev N__law_mate : List Str := ["_law_generator_here", "_law_pieces_here", "_law_way", "_law_at", "_law_scale", "_law_kind", "_law_left", "_law_squares", "_law_mate_here", "_law_rest", "_law_low", "_law_high", "_law_step", "_law_grown_here", "_law_item", "_law_spot"]
theorem sc__law_mate : FnScope N__law_mate ["_law_generator_here", "_law_pieces_here"] (defScope s__law_mate) := ⟨rfl, rfl, rfl, by decide +kernel, rfl, by decide +kernel, by decide +kernel⟩
noncomputable def m__law_mate : Mn.Env → Option Out :=
  (sSeq (sPar2 2 3 (mFz (mCallI 2 F__law_random 0 (mCons 0 (mP (pC (.int 4))) mNil))) (mFz (mCallI 2 F__law_random 0 (mCons 0 (mP (pCall dMaxL (pCons (pCall dLen (pCons (pVar 1) pNil)) (pCons (pC (.int 1)) pNil)))) mNil))))
    (sSeq (sIf (mtOr (mtP (pB (pBin dEq (pVar 2) (pC (.int 0))))) (mtV (mBin dEq (mO (oVar 1)) (mLst 0 mNil)))) (sRet (mCallI 3 F__law_pieces 0 (mCons 0 (mP (pC (.int 3))) (mCons 0 (mLst 0 (mCons 0 (mP (pC (.int 0))) (mCons 0 (mP (pC (.int 1))) (mCons 0 (mP (pC (.int 2))) mNil)))) mNil)))) sNx)
    (sSeq (sAsgT (mO (oIx (oVar 1) (pVar 3))) (cTup 2 (csCons (cName0 4) (csCons (cName0 5) csNil))))
    (sSeq (sAsg 6 (mFz (mBinF dAddG (mSl (mO (oVar 1)) none (some (mP (pVar 3)))) (mSl (mO (oVar 1)) (some (mP (pBin dAdd (pVar 3) (pC (.int 1))))) none))))
    (sSeq (sIf (mtP (pB (pBin dEq (pVar 2) (pC (.int 1))))) (sRet (mCallF dSorted (mCons 0 (mBinF dAddG (mO (oVar 6)) (mLst 0 (mCons 0 (mTup 0 (mCons 0 (mO (oVar 4)) (mCons 0 (mIx (mLst 0 (mCons 0 (mP (pC (.int 2))) (mCons 0 (mP (pC (.int 5))) (mCons 0 (mP (pC (.int 0))) (mCons 0 (mP (pC (.int 7))) (mCons 0 (mP (pC (.int 3))) (mCons 0 (mP (pC (.int 1))) (mCons 0 (mP (pC (.int 3))) (mCons 0 (mP (pC (.int 3))) mNil))))))))) (mO (oVar 5))) mNil))) mNil))) mNil))) sNx)
    (sSeq (sAsg 7 (mFz (mComp 0 (iSeq (mO (oVar 6))) (tName 14) (mtP (pB (pBin dEq (pBin dMod (pCall dInt (pCons (pBin dIx (pVar 14) (pC (.int 1))) pNil)) (pC (.int 2))) (pC (.int 1))))) (mO (oVar 14)) [14])))
    (sSeq (sIf (mtOr (mtP (pB (pBin dEq (pBin dMod (pCall dInt (pCons (pVar 5) pNil)) (pC (.int 2))) (pC (.int 0))))) (mtV (mBin dEq (mO (oVar 7)) (mLst 0 mNil)))) (sRet (mCallF dSorted (mCons 0 (mBinF dAddG (mO (oVar 6)) (mLst 0 (mCons 0 (mTup 0 (mCons 0 (mO (oVar 4)) (mCons 0 (mIx (mLst 0 (mCons 0 (mP (pC (.int 2))) (mCons 0 (mP (pC (.int 5))) (mCons 0 (mP (pC (.int 0))) (mCons 0 (mP (pC (.int 7))) (mCons 0 (mP (pC (.int 3))) (mCons 0 (mP (pC (.int 1))) (mCons 0 (mP (pC (.int 3))) (mCons 0 (mP (pC (.int 3))) mNil))))))))) (mO (oVar 5))) mNil))) mNil))) mNil))) sNx)
    (sSeq (sAsg 8 (mFz (mIx (mO (oVar 7)) (mCallI 2 F__law_random 0 (mCons 0 (mP (pCall dLen (pCons (pVar 7) pNil))) mNil)))))
    (sSeq (sAsg 9 (mFz (mComp 0 (iEnumM (mCons 0 (mO (oVar 6)) mNil)) (tTupT 2 (tsCons (tName 15) (tsCons (tName 14) tsNil))) (mtV (mBin dNe (mO (oVar 15)) (mIndex (mO (oVar 6)) (mO (oVar 8))))) (mO (oVar 14)) [15, 14])))
    (sSeq (sPar2 10 11 (mFz (mCallF dMinT (mCons 0 (mTup 0 (mCons 0 (mO (oVar 4)) (mCons 0 (mO (oVar 5)) mNil))) (mCons 0 (mO (oVar 8)) mNil)))) (mFz (mCallF dMaxT (mCons 0 (mTup 0 (mCons 0 (mO (oVar 4)) (mCons 0 (mO (oVar 5)) mNil))) (mCons 0 (mO (oVar 8)) mNil)))))
    (sSeq (sAsg 12 (mFz (mIx (mLst 0 (mCons 0 (mP (pC (.int 4))) (mCons 0 (mP (pC (.int 2))) (mCons 0 (mP (pC (.int 4))) mNil)))) (mP (pBin dSub (pBin dIx (pVar 11) (pC (.int 0))) (pBin dIx (pVar 10) (pC (.int 0))))))))
    (sSeq (sAsg 13 (mP (pBin dMod (pCall dInt (pCons (pBin dAdd (pBin dIx (pVar 10) (pC (.int 1))) (pBin dMul (pVar 12) (pBin dIx (pVar 11) (pC (.int 1))))) pNil)) (pC (.int 8)))))
    (sRet (mCallF dSorted (mCons 0 (mBinF dAddG (mO (oVar 9)) (mLst 0 (mCons 0 (mTup 0 (mCons 0 (mO (oIx (oVar 10) (pC (.int 0)))) (mCons 0 (mO (oVar 13)) mNil))) (mCons 0 (mTup 0 (mCons 0 (mO (oIx (oVar 11) (pC (.int 0)))) (mCons 0 (mP (pBin dMod (pCall dInt (pCons (pBin dMul (pBin dMul (pBin dIx (pVar 10) (pC (.int 1))) (pBin dIx (pVar 11) (pC (.int 1)))) (pVar 13)) pNil)) (pC (.int 8)))) mNil))) mNil)))) mNil)))))))))))))))
noncomputable def F__law_mate : Fp1 := run1 16 m__law_mate
theorem b__law_mate {P : Program} {w : World} {K : PySem.W.Frag} {mg : Str → Option Value} {base : Heap} {fa : Addr} (h__law_pieces : FnAt P w K mg base 4 "_law_pieces" 3 (sp1 K mg 3 F__law_pieces)) (h__law_random : FnAt P w K mg base 4 "_law_random" 2 (sp1 K mg 2 F__law_random)) (z_enumerate : mg "enumerate" = none) (z_int : mg "int" = none) (z_len : mg "len" = none) (z_max : mg "max" = none) (z_min : mg "min" = none) (z_sorted : mg "sorted" = none) : Body P w K mg base N__law_mate "_law_mate" s__law_mate fa 4 [0] m__law_mate := fun cdv A outer s H hr hgd =>
  (s_cons (s_par2 rfl sc__law_mate.nd rfl rfl (by decide) rfl rfl (by decide) (by decide) (g_fz (g_callI h__law_random hr hgd (by rfl) (pv 0) (g_acons (g_p p_int) g_anil))) (g_fz (g_callI h__law_random hr hgd (by rfl) (pv 0) (g_acons (g_p (p_callB (call_maxG rfl) w_maxL (by rfl) z_max PyProof.Rows.boot_max (p_acons (p_callB call_lenS w_len (by rfl) z_len PySem.boot_len (p_acons (p_var (pv 1)) p_anil)) (p_acons p_int p_anil)))) g_anil))) (by rfl))
    (s_cons (s_if (PW.pt (gt_or (gt_p (t_cmp (op_eqD (hu64 hr)) w_eq (p_var (pv 2)) p_int (nomark _))) (gt_or1 (gt_cmp (op_eqD (hu64 hr)) w_eq (g_o (o_var (pv 1))) (g_lst g_anil) (nomark _))))) (s_one (s_ret (g_callI h__law_pieces hr hgd (by rfl) (pv 0) (g_acons (g_p p_int) (g_acons (g_lst (g_acons (g_p p_int) (g_acons (g_p p_int) (g_acons (g_p p_int) g_anil)))) g_anil))))) s_nil)
    (s_cons (s_asgT (tc_tup rfl (tc_cons (tc_name0 sc__law_mate.nd rfl (.inl rfl)) (tc_cons (tc_name0 sc__law_mate.nd rfl (.inl rfl)) tc_nil))) (g_o (o_ix (o_var (pv 1)) (p_var (pv 3)) (fun _ _ => rfl))) (by decide))
    (s_cons (s_asg sc__law_mate.nd rfl (.inr rfl) (by decide) (g_fz (g_add (g_slice (g_o (o_var (pv 1))) go_none (go_some (g_p (p_var (pv 3))))) (g_slice (g_o (o_var (pv 1))) (go_some (g_p (p_add (p_var (pv 3)) p_int))) go_none))))
    (s_cons (s_if (gt_p (t_cmp (op_eqD (hu64 hr)) w_eq (p_var (pv 2)) p_int (nomark _))) (s_one (s_ret (g_callB (call_sortedG (hu65 hr)) w_sorted (by rfl) z_sorted PyProof.Rows.boot_sorted (g_acons (g_add (g_o (o_var (pv 6))) (g_lst (g_acons (g_tup (g_acons (g_o (o_var (pv 4))) (g_acons (g_ix (g_lst (g_acons (g_p p_int) (g_acons (g_p p_int) (g_acons (g_p p_int) (g_acons (g_p p_int) (g_acons (g_p p_int) (g_acons (g_p p_int) (g_acons (g_p p_int) (g_acons (g_p p_int) g_anil))))))))) (g_o (o_var (pv 5))) (fun _ _ => rfl)) g_anil))) g_anil))) g_anil)))) s_nil)
    (s_cons (s_setCompIf0 (own := [("_law_item", 14)]) rfl sc__law_mate.nd rfl rfl (by decide) (by rfl) (i_seq (g_o (o_var (pv 6)))) (blkOk_by (N := N__law_mate) (sc := (defScope s__law_mate)) (own := [("_law_item", 14)]) (by decide +kernel)) (fun _ _ _ _ _ => (tg_name sc__law_mate.nd rfl (.inl rfl))) (fun _ _ _ _ _ => (gt_p (t_cmp (op_eqD (hu64 hr)) w_eq (p_mod (p_callTy call_int1 w_int (by rfl) z_int PyProof.Rows.boot_int (p_acons (p_ix ix_seq w_ix (p_var (pv 14)) p_int (fun _ _ => rfl)) p_anil)) p_int) p_int (nomark _)))) (fun _ _ _ _ _ => (g_o (o_var (pv 14)))) (by decide))
    (s_cons (s_if (PW.pt (gt_or (gt_p (t_cmp (op_eqD (hu64 hr)) w_eq (p_mod (p_callTy call_int1 w_int (by rfl) z_int PyProof.Rows.boot_int (p_acons (p_var (pv 5)) p_anil)) p_int) p_int (nomark _))) (gt_or1 (gt_cmp (op_eqD (hu64 hr)) w_eq (g_o (o_var (pv 7))) (g_lst g_anil) (nomark _))))) (s_one (s_ret (g_callB (call_sortedG (hu65 hr)) w_sorted (by rfl) z_sorted PyProof.Rows.boot_sorted (g_acons (g_add (g_o (o_var (pv 6))) (g_lst (g_acons (g_tup (g_acons (g_o (o_var (pv 4))) (g_acons (g_ix (g_lst (g_acons (g_p p_int) (g_acons (g_p p_int) (g_acons (g_p p_int) (g_acons (g_p p_int) (g_acons (g_p p_int) (g_acons (g_p p_int) (g_acons (g_p p_int) (g_acons (g_p p_int) g_anil))))))))) (g_o (o_var (pv 5))) (fun _ _ => rfl)) g_anil))) g_anil))) g_anil)))) s_nil)
    (s_cons (s_asg sc__law_mate.nd rfl (.inr rfl) (by decide) (g_fz (g_ix (g_o (o_var (pv 7))) (g_callI h__law_random hr hgd (by rfl) (pv 0) (g_acons (g_p (p_callB call_lenS w_len (by rfl) z_len PySem.boot_len (p_acons (p_var (pv 7)) p_anil))) g_anil)) (fun _ _ => rfl))))
    (s_cons (s_setCompIf0 (own := [("_law_spot", 15), ("_law_item", 14)]) rfl sc__law_mate.nd rfl rfl (by decide) (by rfl) (i_enum (by rfl) z_enumerate (g_acons (g_o (o_var (pv 6))) g_anil)) (blkOk_by (N := N__law_mate) (sc := (defScope s__law_mate)) (own := [("_law_spot", 15), ("_law_item", 14)]) (by decide +kernel)) (fun _ _ _ _ _ => (tg_tup rfl (tg_cons (tg_name sc__law_mate.nd rfl (.inl rfl)) (tg_cons (tg_name sc__law_mate.nd rfl (.inl rfl)) tg_nil)))) (fun _ _ _ _ _ => (gt_cmp (op_neD (hu64 hr)) w_ne (g_o (o_var (pv 15))) (g_index (hu65 hr) (g_o (o_var (pv 6))) (g_o (o_var (pv 8)))) (nomark _))) (fun _ _ _ _ _ => (g_o (o_var (pv 14)))) (by decide))
    (s_cons (s_par2 rfl sc__law_mate.nd rfl rfl (by decide) rfl rfl (by decide) (by decide) (g_fz (g_callB (call_minT (hu65 hr) rfl) w_minT (by rfl) z_min PyProof.Rows.boot_min (g_acons (g_tup (g_acons (g_o (o_var (pv 4))) (g_acons (g_o (o_var (pv 5))) g_anil))) (g_acons (g_o (o_var (pv 8))) g_anil)))) (g_fz (g_callB (call_maxT (hu65 hr) rfl) w_maxT (by rfl) z_max PyProof.Rows.boot_max (g_acons (g_tup (g_acons (g_o (o_var (pv 4))) (g_acons (g_o (o_var (pv 5))) g_anil))) (g_acons (g_o (o_var (pv 8))) g_anil)))) (by rfl))
    (s_cons (s_asg sc__law_mate.nd rfl (.inl rfl) (by decide) (g_fz (g_ix (g_lst (g_acons (g_p p_int) (g_acons (g_p p_int) (g_acons (g_p p_int) g_anil)))) (g_p (p_sub (p_ix ix_seq w_ix (p_var (pv 11)) p_int (fun _ _ => rfl)) (p_ix ix_seq w_ix (p_var (pv 10)) p_int (fun _ _ => rfl)))) (fun _ _ => rfl))))
    (s_cons (s_asg sc__law_mate.nd rfl (.inl rfl) (by decide) (g_p (p_mod (p_callTy call_int1 w_int (by rfl) z_int PyProof.Rows.boot_int (p_acons (p_add (p_ix ix_seq w_ix (p_var (pv 10)) p_int (fun _ _ => rfl)) (p_mul (p_var (pv 12)) (p_ix ix_seq w_ix (p_var (pv 11)) p_int (fun _ _ => rfl)))) p_anil)) p_int)))
    (s_one (s_ret (g_callB (call_sortedG (hu65 hr)) w_sorted (by rfl) z_sorted PyProof.Rows.boot_sorted (g_acons (g_add (g_o (o_var (pv 9))) (g_lst (g_acons (g_tup (g_acons (g_o (o_ix (o_var (pv 10)) p_int (fun _ _ => rfl))) (g_acons (g_o (o_var (pv 13))) g_anil))) (g_acons (g_tup (g_acons (g_o (o_ix (o_var (pv 11)) p_int (fun _ _ => rfl))) (g_acons (g_p (p_mod (p_callTy call_int1 w_int (by rfl) z_int PyProof.Rows.boot_int (p_acons (p_mul (p_mul (p_ix ix_seq w_ix (p_var (pv 10)) p_int (fun _ _ => rfl)) (p_ix ix_seq w_ix (p_var (pv 11)) p_int (fun _ _ => rfl))) (p_var (pv 13))) p_anil)) p_int)) g_anil))) g_anil)))) g_anil))))))))))))))))
/-! _law_same -/
abbrev s__law_same : Stmt := topS 30
abbrev N__law_same : List Str := ["_law_one_told", "_law_other_told"]
theorem sc__law_same : FnScope N__law_same ["_law_one_told", "_law_other_told"] (defScope s__law_same) := ⟨rfl, rfl, rfl, by decide +kernel, rfl, by decide +kernel, by decide +kernel⟩
noncomputable def m__law_same : Mn.Env → Option Out :=
  (sRet (mP (pBin dEq (pCall dRepr (pCons (pVar 0) pNil)) (pCall dRepr (pCons (pVar 1) pNil)))))
noncomputable def F__law_same : Fp0 := run0 2 m__law_same
theorem b__law_same {P : Program} {w : World} {K : PySem.W.Frag} {mg : Str → Option Value} {base : Heap} {fa : Addr} (z_repr : mg "repr" = none) : Body P w K mg base N__law_same "_law_same" s__law_same fa 0 [] m__law_same := fun cdv A outer s H hr hgd =>
  (s_one (s_ret (g_p (p_cmp (op_eqD (hu64 hr)) w_eq (p_callB (call_reprD hgd (hu65 hr)) w_repr (by rfl) z_repr PyProof.Rows.boot_repr (p_acons (p_var (pv 0)) p_anil)) (p_callB (call_reprD hgd (hu65 hr)) w_repr (by rfl) z_repr PyProof.Rows.boot_repr (p_acons (p_var (pv 1)) p_anil)) (nomark _)))))
/-! _law_odd -/
abbrev s__law_odd : Stmt := topS 33
abbrev N__law_odd : List Str := ["_law_pieces_here", "_law_scale", "_law_item", "_law_kind"]
theorem sc__law_odd : FnScope N__law_odd ["_law_pieces_here", "_law_scale"] (defScope s__law_odd) := ⟨rfl, rfl, rfl, by decide +kernel, rfl, by decide +kernel, by decide +kernel⟩
noncomputable def m__law_odd : Mn.Env → Option Out :=
  (sRet (mBin dNe (mComp 0 (iSeq (mO (oVar 0))) (tTupT 2 (tsCons (tName 2) (tsCons (tName 3) tsNil))) (mtP (ptAnd (pB (pBin dEq (pVar 2) (pVar 1))) (pB (pBin dEq (pBin dMod (pCall dInt (pCons (pVar 3) pNil)) (pC (.int 2))) (pC (.int 1)))))) (mO (oVar 3)) [2, 3]) (mLst 0 mNil)))
noncomputable def F__law_odd : Fp0 := run0 4 m__law_odd
theorem b__law_odd {P : Program} {w : World} {K : PySem.W.Frag} {mg : Str → Option Value} {base : Heap} {fa : Addr} (z_int : mg "int" = none) : Body P w K mg base N__law_odd "_law_odd" s__law_odd fa 0 [] m__law_odd := fun cdv A outer s H hr hgd =>
  (s_one (s_ret (g_cmp (op_neD (hu64 hr)) w_ne (g_compIf (own := [("_law_item", 2), ("_law_kind", 3)]) rfl sc__law_odd.nd (i_seq (g_o (o_var (pv 0)))) (blkOk_by (N := N__law_odd) (sc := (defScope s__law_odd)) (own := [("_law_item", 2), ("_law_kind", 3)]) (by decide +kernel)) (fun _ _ _ _ _ => (tg_tup rfl (tg_cons (tg_name sc__law_odd.nd rfl (.inl rfl)) (tg_cons (tg_name sc__law_odd.nd rfl (.inl rfl)) tg_nil)))) (fun _ _ _ _ _ => (gt_p (PW.pt (t_and (t_cmp (op_eqD (hu64 hr)) w_eq (p_var (pv 2)) (p_var (pv 1)) (nomark _)) (t_and1 (t_cmp (op_eqD (hu64 hr)) w_eq (p_mod (p_callTy call_int1 w_int (by rfl) z_int PyProof.Rows.boot_int (p_acons (p_var (pv 3)) p_anil)) p_int) p_int (nomark _))))))) (fun _ _ _ _ _ => (g_o (o_var (pv 3)))) (by decide)) (g_lst g_anil) (nomark _))))
/-! _law_scales -/
abbrev s__law_scales : Stmt := topS 36
abbrev N__law_scales : List Str := ["_law_pieces_here", "_law_scale", "_law_kind"]
theorem sc__law_scales : FnScope N__law_scales ["_law_pieces_here"] (defScope s__law_scales) := ⟨rfl, rfl, rfl, by decide +kernel, rfl, by decide +kernel, by decide +kernel⟩
noncomputable def m__law_scales : Mn.Env → Option Out :=
  (sRet (mSortSet (mComp 0 (iSeq (mO (oVar 0))) (tTupT 2 (tsCons (tName 1) (tsCons (tName 2) tsNil))) tYesM (mO (oVar 1)) [1, 2])))
noncomputable def F__law_scales : Fp0 := run0 3 m__law_scales
theorem b__law_scales {P : Program} {w : World} {K : PySem.W.Frag} {mg : Str → Option Value} {base : Heap} {fa : Addr} (z_set : mg "set" = none) (z_sorted : mg "sorted" = none) : Body P w K mg base N__law_scales "_law_scales" s__law_scales fa 0 [] m__law_scales := fun cdv A outer s H hr hgd =>
  (s_one (s_ret (g_sortSet (by rfl) (by rfl) z_sorted PyProof.Rows.boot_sorted (by rfl) z_set PyProof.Rows.boot_set (g_comp (own := [("_law_scale", 1), ("_law_kind", 2)]) rfl sc__law_scales.nd (i_seq (g_o (o_var (pv 0)))) (blkOk_by (N := N__law_scales) (sc := (defScope s__law_scales)) (own := [("_law_scale", 1), ("_law_kind", 2)]) (by decide +kernel)) (fun _ _ _ _ _ => (tg_tup rfl (tg_cons (tg_name sc__law_scales.nd rfl (.inl rfl)) (tg_cons (tg_name sc__law_scales.nd rfl (.inl rfl)) tg_nil)))) (fun _ _ _ _ _ => (g_o (o_var (pv 1)))) (by decide)))))
/-! _law_sign -/
abbrev s__law_sign : Stmt := topS 34
abbrev N__law_sign : List Str := ["_law_pieces_here", "_law_scale", "_law_found", "_law_item", "_law_kind"]
theorem sc__law_sign : FnScope N__law_sign ["_law_pieces_here", "_law_scale"] (defScope s__law_sign) := ⟨rfl, rfl, rfl, by decide +kernel, rfl, by decide +kernel, by decide +kernel⟩
noncomputable def m__law_sign : Mn.Env → Option Out :=
  (sSeq (sAsg 2 (mP (pC (.int 1))))
    (sSeq (sFor (iSeq (mO (oVar 0))) (tTupT 2 (tsCons (tName 3) (tsCons (tName 4) tsNil))) (sIf (mtAnd (mtP (pB (pBin dEq (pVar 3) (pVar 1)))) (mtV (mBin dInG (mO (oVar 4)) (mLst 0 (mCons 0 (mP (pC (.int 2))) (mCons 0 (mP (pC (.int 3))) (mCons 0 (mP (pC (.int 5))) mNil))))))) (sAsg 2 (mP (pBin dSub (pC (.int 0)) (pVar 2)))) sNx))
    (sRet (mO (oVar 2)))))
noncomputable def F__law_sign : Fp0 := run0 5 m__law_sign
theorem b__law_sign {P : Program} {w : World} {K : PySem.W.Frag} {mg : Str → Option Value} {base : Heap} {fa : Addr}  : Body P w K mg base N__law_sign "_law_sign" s__law_sign fa 0 [] m__law_sign := fun cdv A outer s H hr hgd =>
  (s_cons (s_asg sc__law_sign.nd rfl (.inl rfl) (by decide) (g_p p_int))
    (s_cons (s_for PassesOwn.never rfl (i_seq (g_o (o_var (pv 0)))) (tg_tup rfl (tg_cons (tg_name sc__law_sign.nd rfl (.inl rfl)) (tg_cons (tg_name sc__law_sign.nd rfl (.inl rfl)) tg_nil))) (s_one (s_if (PW.pt (gt_and (gt_p (t_cmp (op_eqD (hu64 hr)) w_eq (p_var (pv 3)) (p_var (pv 1)) (nomark _))) (gt_and1 (gt_cmp (op_inG (hu65 hr)) w_inG (g_o (o_var (pv 4))) (g_lst (g_acons (g_p p_int) (g_acons (g_p p_int) (g_acons (g_p p_int) g_anil)))) (by with_unfolding_all rfl))))) (s_one (s_asg sc__law_sign.nd rfl (.inl rfl) (by decide) (g_p (p_sub p_int (p_var (pv 2)))))) s_nil)) (by decide))
    (s_one (s_ret (g_o (o_var (pv 2)))))))
/-! _law_sum -/
abbrev s__law_sum : Stmt := topS 35
abbrev N__law_sum : List Str := ["_law_pieces_here", "_law_scale", "_law_item", "_law_kind"]
theorem sc__law_sum : FnScope N__law_sum ["_law_pieces_here", "_law_scale"] (defScope s__law_sum) := ⟨rfl, rfl, rfl, by decide +kernel, rfl, by decide +kernel, by decide +kernel⟩
noncomputable def m__law_sum : Mn.Env → Option Out :=
  (sRet (mCallF (ofN dSum) (mCons 0 (mComp 0 (iSeq (mO (oVar 0))) (tTupT 2 (tsCons (tName 2) (tsCons (tName 3) tsNil))) (mtP (ptAnd (pB (pBin dEq (pVar 2) (pVar 1))) (pB (pBin dEq (pBin dMod (pCall dInt (pCons (pVar 3) pNil)) (pC (.int 2))) (pC (.int 1)))))) (mO (oVar 3)) [2, 3]) mNil)))
noncomputable def F__law_sum : Fp0 := run0 4 m__law_sum
theorem b__law_sum {P : Program} {w : World} {K : PySem.W.Frag} {mg : Str → Option Value} {base : Heap} {fa : Addr} (z_int : mg "int" = none) (z_sum : mg "sum" = none) : Body P w K mg base N__law_sum "_law_sum" s__law_sum fa 0 [] m__law_sum := fun cdv A outer s H hr hgd =>
  (s_one (s_ret (g_callB (cr_sum rfl) (w_of w_sum) (by rfl) z_sum PyProof.Rows.boot_sum (g_acons (g_compIf (own := [("_law_item", 2), ("_law_kind", 3)]) rfl sc__law_sum.nd (i_seq (g_o (o_var (pv 0)))) (blkOk_by (N := N__law_sum) (sc := (defScope s__law_sum)) (own := [("_law_item", 2), ("_law_kind", 3)]) (by decide +kernel)) (fun _ _ _ _ _ => (tg_tup rfl (tg_cons (tg_name sc__law_sum.nd rfl (.inl rfl)) (tg_cons (tg_name sc__law_sum.nd rfl (.inl rfl)) tg_nil)))) (fun _ _ _ _ _ => (gt_p (PW.pt (t_and (t_cmp (op_eqD (hu64 hr)) w_eq (p_var (pv 2)) (p_var (pv 1)) (nomark _)) (t_and1 (t_cmp (op_eqD (hu64 hr)) w_eq (p_mod (p_callTy call_int1 w_int (by rfl) z_int PyProof.Rows.boot_int (p_acons (p_var (pv 3)) p_anil)) p_int) p_int (nomark _))))))) (fun _ _ _ _ _ => (g_o (o_var (pv 3)))) (by decide)) g_anil))))
/-! _law_symbol -/
abbrev s__law_symbol : Stmt := topS 37
abbrev N__law_symbol : List Str := ["_law_pieces_here", "_law_size_here", "_law_scales_here", "_law_chains", "_law_scale", "_law_signs", "_law_last", "_law_at", "_law_low", "_law_here", "_law_number", "_law_joined", "_law_chain", "_law_told", "_law_own", "_law_item"]
theorem sc__law_symbol : FnScope N__law_symbol ["_law_pieces_here", "_law_size_here"] (defScope s__law_symbol) := ⟨rfl, rfl, rfl, by decide +kernel, rfl, by decide +kernel, by decide +kernel⟩
noncomputable def m__law_symbol : Mn.Env → Option Out :=
  (sSeq (sPar2 2 3 (mFz (mCall 1 F__law_scales (mCons 0 (mO (oVar 0)) mNil))) (mLst 1 mNil))
    (sSeq (sAsg 5 (mComp 0 (iSeq (mO (oVar 2))) (tName 4) tYesM (mCall 2 F__law_sign (mCons 0 (mO (oVar 0)) (mCons 0 (mO (oVar 4)) mNil))) [4]))
    (sSeq (sFor (iSeq (mO (oVar 2))) (tName 4) (sIf (mtTr (mCall 2 F__law_odd (mCons 0 (mO (oVar 0)) (mCons 0 (mO (oVar 4)) mNil)))) (sIf (mtAnd (mtThaw (mtV (mBin dNe (mO (oVar 3)) (mLst 0 mNil)))) (mtP (pB (pBin dEq (pBin dIx (pBin dIx (pVar 3) (pBin dSub (pCall dLen (pCons (pVar 3) pNil)) (pC (.int 1)))) (pC (.int 1))) (pBin dSub (pVar 4) (pC (.int 1))))))) (sSeq (sAsg 6 (mPop 3))
    (sApp0 3 (mLst 0 (mCons 0 (mO (oIx (oVar 6) (pC (.int 0)))) (mCons 0 (mO (oVar 4)) (mCons 0 (mBinF dAddG (mO (oIx (oVar 6) (pC (.int 2)))) (mCall 2 F__law_sum (mCons 0 (mO (oVar 0)) (mCons 0 (mO (oVar 4)) mNil)))) mNil)))))) (sApp0 3 (mLst 0 (mCons 0 (mO (oVar 4)) (mCons 0 (mO (oVar 4)) (mCons 0 (mCall 2 F__law_sum (mCons 0 (mO (oVar 0)) (mCons 0 (mO (oVar 4)) mNil))) mNil)))))) sNx))
    (sSeq (sFor (iRange (mCons 0 (mP (pBin dSub (pCall dLen (pCons (pVar 2) pNil)) (pC (.int 1)))) (mCons 0 (mP (pC (.int 0))) (mCons 0 (mP (pUn dNeg (pC (.int 1)))) mNil)))) (tName 7) (sSeq (sPar2 8 9 (mO (oIx (oVar 2) (pBin dSub (pVar 7) (pC (.int 1))))) (mO (oIx (oVar 2) (pVar 7))))
    (sSeq (sAsg 11 (mFz (mComp 0 (iRange (mCons 0 (mO (oVar 8)) (mCons 0 (mP (pCall dMinL (pCons (pVar 9) (pCons (pBin dAdd (pVar 8) (pC (.int 4))) pNil)))) mNil))) (tName 10) tYesM (mOr (mCall 2 F__law_odd (mCons 0 (mO (oVar 0)) (mCons 0 (mO (oVar 10)) mNil))) (mCall 2 F__law_odd (mCons 0 (mO (oVar 0)) (mCons 0 (mP (pBin dAdd (pVar 10) (pC (.int 1)))) mNil)))) [10])))
    (sIf (mtP (ptAnd (pB (pBin dEq (pBin dIx (pVar 5) (pVar 7)) (pUn dNeg (pC (.int 1))))) (pB (pBin dNotInG (pC (.bl false)) (pVar 11))))) (sSeq (sAsgT (mTup 0 (mCons 0 (mP (pC (.int 1))) (mCons 0 (mP (pBin dSub (pC (.int 0)) (pBin dIx (pVar 5) (pBin dSub (pVar 7) (pC (.int 1)))))) mNil))) (cTup 2 (csCons (cSub 5 plNil (pVar 7)) (csCons (cSub 5 plNil (pBin dSub (pVar 7) (pC (.int 1)))) csNil))))
    (sFor (iRange (mCons 0 (mO (oVar 8)) (mCons 0 (mO (oVar 9)) mNil))) (tName 10) (sForM 3 12 (sIf (mtP (ptOr (pB (pChain dLe dLe (pBin dIx (pVar 12) (pC (.int 0))) (pVar 10) (pBin dIx (pVar 12) (pC (.int 1))))) (pB (pChain dLe dLe (pBin dIx (pVar 12) (pC (.int 0))) (pBin dAdd (pVar 10) (pC (.int 1))) (pBin dIx (pVar 12) (pC (.int 1))))))) (sSet 12 plNil (pC (.int 2)) (mP (pBin dAdd (pBin dIx (pVar 12) (pC (.int 2))) (pC (.int 4))))) sNx)))) sNx))))
    (sSeq (sAsg 13 (mLst 0 mNil))
    (sSeq (sFor (iEnumM (mCons 0 (mO (oVar 2)) mNil)) (tTupT 2 (tsCons (tName 7) (tsCons (tName 4) tsNil))) (sSeq (sAsg 14 (mFz (mComp 0 (iSeq (mO (oVar 0))) (tName 15) (mtP (pB (pBin dEq (pBin dIx (pVar 15) (pC (.int 0))) (pVar 4)))) (mO (oVar 15)) [15])))
    (sApp0 13 (mTup 0 (mCons 0 (mO (oVar 4)) (mCons 0 (mCall 1 F__law_unknowns (mCons 0 (mO (oVar 14)) mNil)) (mCons 0 (mCall 2 F__law_odd (mCons 0 (mO (oVar 0)) (mCons 0 (mO (oVar 4)) mNil))) (mCons 0 (mO (oIx (oVar 5) (pVar 7))) mNil))))))))
    (sRet (mTup 0 (mCons 0 (mSh 13) (mCons 0 (mThaw (mComp 1 (iSeq (mO (oVar 3))) (tName 12) tYesM (mTup 0 (mCons 0 (mO (oIx (oVar 12) (pC (.int 0)))) (mCons 0 (mP (pBin dMod (pCall dInt (pCons (pBin dIx (pVar 12) (pC (.int 2))) pNil)) (pC (.int 8)))) mNil))) [12])) (mCons 0 (mBin dSub (mO (oVar 1)) (mCall 1 F__law_unknowns (mCons 0 (mO (oVar 0)) mNil))) mNil)))))))))))
noncomputable def F__law_symbol : Fp0 := run0 16 m__law_symbol
theorem b__law_symbol {P : Program} {w : World} {K : PySem.W.Frag} {mg : Str → Option Value} {base : Heap} {fa : Addr} (h__law_odd : FnAt P w K mg base 1 "_law_odd" 2 (sp0 K mg 2 F__law_odd)) (h__law_scales : FnAt P w K mg base 1 "_law_scales" 1 (sp0 K mg 1 F__law_scales)) (h__law_sign : FnAt P w K mg base 1 "_law_sign" 2 (sp0 K mg 2 F__law_sign)) (h__law_sum : FnAt P w K mg base 1 "_law_sum" 2 (sp0 K mg 2 F__law_sum)) (h__law_unknowns : FnAt P w K mg base 1 "_law_unknowns" 1 (sp0 K mg 1 F__law_unknowns)) (z_enumerate : mg "enumerate" = none) (z_int : mg "int" = none) (z_len : mg "len" = none) (z_min : mg "min" = none) (z_range : mg "range" = none) : Body P w K mg base N__law_symbol "_law_symbol" s__law_symbol fa 1 [] m__law_symbol := fun cdv A outer s H hr hgd =>
  (s_cons (s_par2 rfl sc__law_symbol.nd rfl rfl (by decide) rfl rfl (by decide) (by decide) (g_fz (g_call h__law_scales hr hgd (by rfl) (g_acons (g_o (o_var (pv 0))) g_anil))) (g_lst g_anil) (by rfl))
    (s_cons (s_setComp (own := [("_law_scale", 4)]) rfl sc__law_symbol.nd rfl rfl (by decide) (by rfl) (i_seq (g_o (o_var (pv 2)))) (blkOk_by (N := N__law_symbol) (sc := (defScope s__law_symbol)) (own := [("_law_scale", 4)]) (by decide +kernel)) (fun _ _ _ _ _ => (tg_name sc__law_symbol.nd rfl (.inl rfl))) (fun _ _ _ _ _ => (g_call h__law_sign hr hgd (by rfl) (g_acons (g_o (o_var (pv 0))) (g_acons (g_o (o_var (pv 4))) g_anil)))) (by decide))
    (s_cons (s_for PassesOwn.never rfl (i_seq (g_o (o_var (pv 2)))) (tg_name sc__law_symbol.nd rfl (.inr rfl)) (s_one (s_if (gt_truth (g_call h__law_odd hr hgd (by rfl) (g_acons (g_o (o_var (pv 0))) (g_acons (g_o (o_var (pv 4))) g_anil)))) (s_one (s_if (PW.pt (gt_and (gt_thaw (gt_cmp (op_neD (hu64 hr)) w_ne (g_o (o_var (pv 3))) (g_lst g_anil) (nomark _))) (gt_and1 (gt_p (t_cmp (op_eqD (hu64 hr)) w_eq (p_ix ix_seq w_ix (p_ix ix_seq w_ix (p_var (pv 3)) (p_sub (p_callB call_lenS w_len (by rfl) z_len PySem.boot_len (p_acons (p_var (pv 3)) p_anil)) p_int) (fun _ _ => rfl)) p_int (fun _ _ => rfl)) (p_sub (p_var (pv 4)) p_int) (nomark _)))))) (s_cons (s_asg sc__law_symbol.nd rfl (.inl rfl) (by decide) (g_pop (pv 3)))
    (s_one (s_app0 (pv 3) (g_lst (g_acons (g_o (o_ix (o_var (pv 6)) p_int (fun _ _ => rfl))) (g_acons (g_o (o_var (pv 4))) (g_acons (g_add (g_o (o_ix (o_var (pv 6)) p_int (fun _ _ => rfl))) (g_call h__law_sum hr hgd (by rfl) (g_acons (g_o (o_var (pv 0))) (g_acons (g_o (o_var (pv 4))) g_anil)))) g_anil))))))) (s_one (s_app0 (pv 3) (g_lst (g_acons (g_o (o_var (pv 4))) (g_acons (g_o (o_var (pv 4))) (g_acons (g_call h__law_sum hr hgd (by rfl) (g_acons (g_o (o_var (pv 0))) (g_acons (g_o (o_var (pv 4))) g_anil))) g_anil)))))))) s_nil)) (by decide))
    (s_cons (s_for PassesOwn.never rfl (i_range3 (by rfl) z_range (g_acons (g_p (p_sub (p_callB call_lenS w_len (by rfl) z_len PySem.boot_len (p_acons (p_var (pv 2)) p_anil)) p_int)) (g_acons (g_p p_int) (g_acons (g_p (p_neg p_int)) g_anil))) (h1 := (len_cons (len_cons (len_cons len_nil))))) (tg_name sc__law_symbol.nd rfl (.inl rfl)) (s_cons (s_par2 rfl sc__law_symbol.nd rfl rfl (by decide) rfl rfl (by decide) (by decide) (g_o (o_ix (o_var (pv 2)) (p_sub (p_var (pv 7)) p_int) (fun _ _ => rfl))) (g_o (o_ix (o_var (pv 2)) (p_var (pv 7)) (fun _ _ => rfl))) (by rfl))
    (s_cons (s_setComp0 (own := [("_law_number", 10)]) rfl sc__law_symbol.nd rfl rfl (by decide) (by rfl) (i_range2 (by rfl) z_range (g_acons (g_o (o_var (pv 8))) (g_acons (g_p (p_callB (call_minG rfl) w_minL (by rfl) z_min PyProof.Rows.boot_min (p_acons (p_var (pv 9)) (p_acons (p_add (p_var (pv 8)) p_int) p_anil)))) g_anil)) (h1 := (len_cons (len_cons len_nil)))) (blkOk_by (N := N__law_symbol) (sc := (defScope s__law_symbol)) (own := [("_law_number", 10)]) (by decide +kernel)) (fun _ _ _ _ _ => (tg_name sc__law_symbol.nd rfl (.inl rfl))) (fun _ _ _ _ _ => (g_or (g_call h__law_odd hr hgd (by rfl) (g_acons (g_o (o_var (pv 0))) (g_acons (g_o (o_var (pv 10))) g_anil))) (g_one (g_call h__law_odd hr hgd (by rfl) (g_acons (g_o (o_var (pv 0))) (g_acons (g_p (p_add (p_var (pv 10)) p_int)) g_anil)))))) (by decide))
    (s_one (s_if (gt_p (PW.pt (t_and (t_cmp (op_eqD (hu64 hr)) w_eq (p_ix ix_seq w_ix (p_var (pv 5)) (p_var (pv 7)) (fun _ _ => rfl)) (p_neg p_int) (nomark _)) (t_and1 (t_cmp (op_notInG (hu65 hr)) w_notInG p_bl (p_var (pv 11)) (by with_unfolding_all rfl)))))) (s_cons (s_asgX (tx_tup rfl (tx_cons (tx_sub (pl_var (pv 5)) (p_var (pv 7))) (tx_cons (tx_sub (pl_var (pv 5)) (p_sub (p_var (pv 7)) p_int)) tx_nil))) (g_tup (g_acons (g_p p_int) (g_acons (g_p (p_sub p_int (p_ix ix_seq w_ix (p_var (pv 5)) (p_sub (p_var (pv 7)) p_int) (fun _ _ => rfl)))) g_anil))) (by decide))
    (s_one (s_for PassesOwn.never rfl (i_range2 (by rfl) z_range (g_acons (g_o (o_var (pv 8))) (g_acons (g_o (o_var (pv 9))) g_anil)) (h1 := (len_cons (len_cons len_nil)))) (tg_name sc__law_symbol.nd rfl (.inl rfl)) (s_one (s_forM PassesOwn.never rfl (pv 3) (pg_name sc__law_symbol.nd rfl (.inl rfl)) (s_one (s_if (gt_p (PW.pt (t_or (t_chain op_le op_le w_cmp2 w_cmp2 (p_ix ix_seq w_ix (p_var (pv 12)) p_int (fun _ _ => rfl)) (p_var (pv 10)) (p_ix ix_seq w_ix (p_var (pv 12)) p_int (fun _ _ => rfl))) (t_or1 (t_chain op_le op_le w_cmp2 w_cmp2 (p_ix ix_seq w_ix (p_var (pv 12)) p_int (fun _ _ => rfl)) (p_add (p_var (pv 10)) p_int) (p_ix ix_seq w_ix (p_var (pv 12)) p_int (fun _ _ => rfl))))))) (s_one (s_set (pl_var (pv 12)) p_int (g_p (p_add (p_ix ix_seq w_ix (p_var (pv 12)) p_int (fun _ _ => rfl)) p_int)))) s_nil)) (by decide))) (by decide)))) s_nil)))) (by decide))
    (s_cons (s_asg sc__law_symbol.nd rfl (.inl rfl) (by decide) (g_lst g_anil))
    (s_cons (s_for PassesOwn.never rfl (i_enum (by rfl) z_enumerate (g_acons (g_o (o_var (pv 2))) g_anil)) (tg_tup rfl (tg_cons (tg_name sc__law_symbol.nd rfl (.inl rfl)) (tg_cons (tg_name sc__law_symbol.nd rfl (.inr rfl)) tg_nil))) (s_cons (s_setCompIf0 (own := [("_law_item", 15)]) rfl sc__law_symbol.nd rfl rfl (by decide) (by rfl) (i_seq (g_o (o_var (pv 0)))) (blkOk_by (N := N__law_symbol) (sc := (defScope s__law_symbol)) (own := [("_law_item", 15)]) (by decide +kernel)) (fun _ _ _ _ _ => (tg_name sc__law_symbol.nd rfl (.inl rfl))) (fun _ _ _ _ _ => (gt_p (t_cmp (op_eqD (hu64 hr)) w_eq (p_ix ix_seq w_ix (p_var (pv 15)) p_int (fun _ _ => rfl)) (p_var (pv 4)) (nomark _)))) (fun _ _ _ _ _ => (g_o (o_var (pv 15)))) (by decide))
    (s_one (s_app0 (pv 13) (g_tup (g_acons (g_o (o_var (pv 4))) (g_acons (g_call h__law_unknowns hr hgd (by rfl) (g_acons (g_o (o_var (pv 14))) g_anil)) (g_acons (g_call h__law_odd hr hgd (by rfl) (g_acons (g_o (o_var (pv 0))) (g_acons (g_o (o_var (pv 4))) g_anil))) (g_acons (g_o (o_ix (o_var (pv 5)) (p_var (pv 7)) (fun _ _ => rfl))) g_anil)))))))) (by decide))
    (s_one (s_ret (g_tup (g_acons (g_sh (pv 13)) (g_acons (g_thaw (g_comp (own := [("_law_chain", 12)]) rfl sc__law_symbol.nd (i_seq (g_o (o_var (pv 3)))) (blkOk_by (N := N__law_symbol) (sc := (defScope s__law_symbol)) (own := [("_law_chain", 12)]) (by decide +kernel)) (fun _ _ _ _ _ => (tg_name sc__law_symbol.nd rfl (.inl rfl))) (fun _ _ _ _ _ => (g_tup (g_acons (g_o (o_ix (o_var (pv 12)) p_int (fun _ _ => rfl))) (g_acons (g_p (p_mod (p_callTy call_int1 w_int (by rfl) z_int PyProof.Rows.boot_int (p_acons (p_ix ix_seq w_ix (p_var (pv 12)) p_int (fun _ _ => rfl)) p_anil)) p_int)) g_anil)))) (by decide))) (g_acons (g_sub (g_o (o_var (pv 1))) (g_call h__law_unknowns hr hgd (by rfl) (g_acons (g_o (o_var (pv 0))) g_anil))) g_anil))))))))))))
/-! is_whole -/
abbrev s_is_whole : Stmt := topS 7
abbrev N_is_whole : List Str := ["value"]
theorem sc_is_whole : FnScope N_is_whole ["value"] (defScope s_is_whole) := ⟨rfl, rfl, rfl, by decide +kernel, rfl, by decide +kernel, by decide +kernel⟩
noncomputable def m_is_whole : Mn.Env → Option Out :=
  (sRet (mP (pAnd (pUn (dIsi "int") (pVar 0)) (pUn dNot (pUn (dIsi "bool") (pVar 0))))))
noncomputable def F_is_whole : Fp0 := run0 1 m_is_whole
theorem b_is_whole {P : Program} {w : World} {K : PySem.W.Frag} {mg : Str → Option Value} {base : Heap} {fa : Addr} (z_bool : mg "bool" = none) (z_int : mg "int" = none) (z_isinstance : mg "isinstance" = none) : Body P w K mg base N_is_whole "is_whole" s_is_whole fa 0 [] m_is_whole := fun cdv A outer s H hr hgd =>
  (s_one (s_ret (g_p (p_and (p_isi (T := "int") (by decide) (p_var (pv 0)) (by rfl) z_isinstance PyProof.Rows.boot_isinstance (by rfl) z_int PyProof.Rows.boot_int) (p_one (p_not (p_isi (T := "bool") (by decide) (p_var (pv 0)) (by rfl) z_isinstance PyProof.Rows.boot_isinstance (by rfl) z_bool PyProof.Rows.boot_bool)))))))
/-! is_between -/
abbrev s_is_between : Stmt := topS 8
abbrev N_is_between : List Str := ["value", "low", "high"]
theorem sc_is_between : FnScope N_is_between ["value", "low", "high"] (defScope s_is_between) := ⟨rfl, rfl, rfl, by decide +kernel, rfl, by decide +kernel, by decide +kernel⟩
noncomputable def m_is_between : Mn.Env → Option Out :=
  (sSeq (sIf (mtNot (mtTr (mCall 1 F_is_whole (mCons 0 (mO (oVar 0)) mNil)))) (sRet (mP (pC (.bl false)))) sNx)
    (sRet (mP (pAnd (pOr (pBin dIsG (pVar 1) (pC .non)) (pBin dGe (pVar 0) (pVar 1))) (pOr (pBin dIsG (pVar 2) (pC .non)) (pBin dLe (pVar 0) (pVar 2)))))))
noncomputable def F_is_between : Fp0 := run0 3 m_is_between
theorem b_is_between {P : Program} {w : World} {K : PySem.W.Frag} {mg : Str → Option Value} {base : Heap} {fa : Addr} (h_is_whole : FnAt P w K mg base 1 "is_whole" 1 (sp0 K mg 1 F_is_whole)) : Body P w K mg base N_is_between "is_between" s_is_between fa 1 [] m_is_between := fun cdv A outer s H hr hgd =>
  (s_cons (s_if (gt_not (gt_truth (g_call h_is_whole hr hgd (by rfl) (g_acons (g_o (o_var (pv 0))) g_anil)))) (s_one (s_ret (g_p p_bl))) s_nil)
    (s_one (s_ret (g_p (p_and (p_or (p_cmp op_isG w_isG (p_var (pv 1)) p_non (nomark _)) (p_one (p_cmp op_ge w_cmp2 (p_var (pv 0)) (p_var (pv 1)) (nomark _)))) (p_one (p_or (p_cmp op_isG w_isG (p_var (pv 2)) p_non (nomark _)) (p_one (p_cmp op_le w_cmp2 (p_var (pv 0)) (p_var (pv 2)) (nomark _))))))))))
/-! is_piece -/
abbrev s_is_piece : Stmt := topS 9
abbrev N_is_piece : List Str := ["value"]
theorem sc_is_piece : FnScope N_is_piece ["value"] (defScope s_is_piece) := ⟨rfl, rfl, rfl, by decide +kernel, rfl, by decide +kernel, by decide +kernel⟩
noncomputable def m_is_piece : Mn.Env → Option Out :=
  (sSeq (sIf (mtOr (mtP (ptNot (pTr (pUn (dIsi "tuple") (pVar 0))))) (mtOr (mtP (pB (pBin dNe (pCall dLen (pCons (pVar 0) pNil)) (pC (.int 2))))) (mtNot (mtTr (mCall 3 F_is_between (mCons 0 (mO (oIx (oVar 0) (pC (.int 0)))) (mCons 0 (mP (pC (.int 0))) (mCons 0 (mP (pC .non)) mNil)))))))) (sRet (mP (pC (.bl false)))) sNx)
    (sRet (mAnd (mCall 1 F_is_whole (mCons 0 (mO (oIx (oVar 0) (pC (.int 1)))) mNil)) (mP (pBin dInG (pBin dIx (pVar 0) (pC (.int 1))) (pC (.lst [(.int 0), (.int 1), (.int 2), (.int 3), (.int 5), (.int 7)])))))))
noncomputable def F_is_piece : Fp0 := run0 1 m_is_piece
theorem b_is_piece {P : Program} {w : World} {K : PySem.W.Frag} {mg : Str → Option Value} {base : Heap} {fa : Addr} (c_KINDS : ∃ a, mg "KINDS" = some (.ref a) ∧ ∀ W, Rep K mg W (.lst [(.int 0), (.int 1), (.int 2), (.int 3), (.int 5), (.int 7)]) (.ref a)) (h_is_between : FnAt P w K mg base 2 "is_between" 3 (sp0 K mg 3 F_is_between)) (h_is_whole : FnAt P w K mg base 2 "is_whole" 1 (sp0 K mg 1 F_is_whole)) (z_isinstance : mg "isinstance" = none) (z_len : mg "len" = none) (z_tuple : mg "tuple" = none) : Body P w K mg base N_is_piece "is_piece" s_is_piece fa 2 [] m_is_piece := fun cdv A outer s H hr hgd =>
  (s_cons (s_if (PW.pt (gt_or (gt_p (t_not (t_truth (p_isi (T := "tuple") (by decide) (p_var (pv 0)) (by rfl) z_isinstance PyProof.Rows.boot_isinstance (by rfl) z_tuple PyProof.Rows.boot_tuple)))) (gt_or (gt_p (t_cmp (op_neD (hu64 hr)) w_ne (p_callB call_lenS w_len (by rfl) z_len PySem.boot_len (p_acons (p_var (pv 0)) p_anil)) p_int (nomark _))) (gt_or1 (gt_not (gt_truth (g_call h_is_between hr hgd (by rfl) (g_acons (g_o (o_ix (o_var (pv 0)) p_int (fun _ _ => rfl))) (g_acons (g_p p_int) (g_acons (g_p p_non) g_anil)))))))))) (s_one (s_ret (g_p p_bl))) s_nil)
    (s_one (s_ret (g_and (g_call h_is_whole hr hgd (by rfl) (g_acons (g_o (o_ix (o_var (pv 0)) p_int (fun _ _ => rfl))) g_anil)) (g_one (g_p (p_cmp (op_inG (hu65 hr)) w_inG (p_ix ix_seq w_ix (p_var (pv 0)) p_int (fun _ _ => rfl)) (p_glv (v := .ref c_KINDS.choose) (by rfl) c_KINDS.choose_spec.1 rfl c_KINDS.choose_spec.2) (by with_unfolding_all rfl))))))))
/-! is_piece_list -/
abbrev s_is_piece_list : Stmt := topS 10
abbrev N_is_piece_list : List Str := ["value", "item", "_", "kind"]
theorem sc_is_piece_list : FnScope N_is_piece_list ["value"] (defScope s_is_piece_list) := ⟨rfl, rfl, rfl, by decide +kernel, rfl, by decide +kernel, by decide +kernel⟩
noncomputable def m_is_piece_list : Mn.Env → Option Out :=
  (sSeq (sIf (mtOr (mtP (ptNot (pTr (pUn (dIsi "list") (pVar 0))))) (mtV (mBin dNe (mComp 0 (iSeq (mO (oVar 0))) (tName 1) (mtNot (mtTr (mCall 1 F_is_piece (mCons 0 (mO (oVar 1)) mNil)))) (mO (oVar 1)) [1]) (mLst 0 mNil)))) (sRet (mP (pC (.bl false)))) sNx)
    (sRet (mAnd (mBin dEq (mO (oVar 0)) (mCallF dSorted (mCons 0 (mO (oVar 0)) mNil))) (mBin dLe (mCallF (ofN dSum) (mCons 0 (mComp 0 (iSeq (mO (oVar 0))) (tTupT 2 (tsCons (tName 2) (tsCons (tName 3) tsNil))) tYesM (mP (pBin dSub (pC (.int 2)) (pBin dMod (pVar 3) (pC (.int 2))))) [2, 3]) mNil)) (mO (oK (.int 6)))))))
noncomputable def F_is_piece_list : Fp0 := run0 4 m_is_piece_list
theorem b_is_piece_list {P : Program} {w : World} {K : PySem.W.Frag} {mg : Str → Option Value} {base : Heap} {fa : Addr} (c_MOST_UNKNOWNS : ∃ t, mg "MOST_UNKNOWNS" = some (.int 6 t)) (h_is_piece : FnAt P w K mg base 3 "is_piece" 1 (sp0 K mg 1 F_is_piece)) (z_isinstance : mg "isinstance" = none) (z_list : mg "list" = none) (z_sorted : mg "sorted" = none) (z_sum : mg "sum" = none) : Body P w K mg base N_is_piece_list "is_piece_list" s_is_piece_list fa 3 [] m_is_piece_list := fun cdv A outer s H hr hgd =>
  (s_cons (s_if (PW.pt (gt_or (gt_p (t_not (t_truth (p_isi (T := "list") (by decide) (p_var (pv 0)) (by rfl) z_isinstance PyProof.Rows.boot_isinstance (by rfl) z_list PyProof.Rows.boot_list)))) (gt_or1 (gt_cmp (op_neD (hu64 hr)) w_ne (g_compIf (own := [("item", 1)]) rfl sc_is_piece_list.nd (i_seq (g_o (o_var (pv 0)))) (blkOk_by (N := N_is_piece_list) (sc := (defScope s_is_piece_list)) (own := [("item", 1)]) (by decide +kernel)) (fun _ _ _ _ _ => (tg_name sc_is_piece_list.nd rfl (.inl rfl))) (fun _ _ _ _ _ => (gt_not (gt_truth (g_call h_is_piece hr hgd (by rfl) (g_acons (g_o (o_var (pv 1))) g_anil))))) (fun _ _ _ _ _ => (g_o (o_var (pv 1)))) (by decide)) (g_lst g_anil) (nomark _))))) (s_one (s_ret (g_p p_bl))) s_nil)
    (s_one (s_ret (g_and (g_cmp (op_eqD (hu64 hr)) w_eq (g_o (o_var (pv 0))) (g_callB (call_sortedG (hu65 hr)) w_sorted (by rfl) z_sorted PyProof.Rows.boot_sorted (g_acons (g_o (o_var (pv 0))) g_anil)) (nomark _)) (g_one (g_cmp op_le w_cmp2 (g_callB (cr_sum rfl) (w_of w_sum) (by rfl) z_sum PyProof.Rows.boot_sum (g_acons (g_comp (own := [("_", 2), ("kind", 3)]) rfl sc_is_piece_list.nd (i_seq (g_o (o_var (pv 0)))) (blkOk_by (N := N_is_piece_list) (sc := (defScope s_is_piece_list)) (own := [("_", 2), ("kind", 3)]) (by decide +kernel)) (fun _ _ _ _ _ => (tg_tup rfl (tg_cons (tg_name sc_is_piece_list.nd rfl (.inl rfl)) (tg_cons (tg_name sc_is_piece_list.nd rfl (.inl rfl)) tg_nil)))) (fun _ _ _ _ _ => (g_p (p_sub p_int (p_mod (p_var (pv 3)) p_int)))) (by decide)) g_anil)) (g_o (o_glv (v := .int 6) (by rfl) c_MOST_UNKNOWNS.choose_spec ⟨_, rfl⟩ (fun _ => rfl))) (nomark _)))))))
/-! check_pieces -/
abbrev s_check_pieces : Stmt := topS 11
abbrev N_check_pieces : List Str := ["pieces"]
theorem sc_check_pieces : FnScope N_check_pieces ["pieces"] (defScope s_check_pieces) := ⟨rfl, rfl, rfl, by decide +kernel, rfl, by decide +kernel, by decide +kernel⟩
noncomputable def m_check_pieces : Mn.Env → Option Out :=
  (sIf (mtNot (mtTr (mCall 1 F_is_piece_list (mCons 0 (mO (oVar 0)) mNil)))) sNo sNx)
noncomputable def F_check_pieces : Fp0 := run0 1 m_check_pieces
theorem b_check_pieces {P : Program} {w : World} {K : PySem.W.Frag} {mg : Str → Option Value} {base : Heap} {fa : Addr} (h_is_piece_list : FnAt P w K mg base 4 "is_piece_list" 1 (sp0 K mg 1 F_is_piece_list)) : Body P w K mg base N_check_pieces "check_pieces" s_check_pieces fa 4 [] m_check_pieces := fun cdv A outer s H hr hgd =>
  (s_one (s_if (gt_not (gt_truth (g_call h_is_piece_list hr hgd (by rfl) (g_acons (g_o (o_var (pv 0))) g_anil)))) ss_no s_nil))
/-! chained -/
abbrev s_chained : Stmt := topS 16
abbrev N_chained : List Str := ["scales", "told", "numbers", "firsts", "at", "scale"]
theorem sc_chained : FnScope N_chained ["scales", "told"] (defScope s_chained) := ⟨rfl, rfl, rfl, by decide +kernel, rfl, by decide +kernel, by decide +kernel⟩
noncomputable def m_chained : Mn.Env → Option Out :=
  (sSeq (sPar2 2 3 (mLst 0 mNil) (mLst 0 mNil))
    (sSeq (sFor (iEnumM (mCons 0 (mO (oVar 0)) mNil)) (tTupT 2 (tsCons (tName 4) (tsCons (tName 5) tsNil))) (sIf (mtP (ptNot (pTr (pBin dIx (pBin dIx (pVar 1) (pVar 4)) (pC (.int 1)))))) (sApp0 2 (mP (pC .non))) (sIf (mtP (ptAnd (pB (pBin dGt (pVar 4) (pC (.int 0)))) (ptAnd (pB (pBin dEq (pBin dIx (pVar 0) (pBin dSub (pVar 4) (pC (.int 1)))) (pBin dSub (pVar 5) (pC (.int 1))))) (pTr (pBin dIx (pBin dIx (pVar 1) (pBin dSub (pVar 4) (pC (.int 1)))) (pC (.int 1))))))) (sApp0 2 (mO (oIx (oVar 2) (pBin dSub (pVar 4) (pC (.int 1)))))) (sSeq (sApp0 2 (mP (pCall dLen (pCons (pVar 3) pNil))))
    (sApp0 3 (mO (oVar 5)))))))
    (sRet (mTup 0 (mCons 0 (mSh 2) (mCons 0 (mSh 3) mNil))))))
noncomputable def F_chained : Fp0 := run0 6 m_chained
theorem b_chained {P : Program} {w : World} {K : PySem.W.Frag} {mg : Str → Option Value} {base : Heap} {fa : Addr} (z_enumerate : mg "enumerate" = none) (z_len : mg "len" = none) : Body P w K mg base N_chained "chained" s_chained fa 0 [] m_chained := fun cdv A outer s H hr hgd =>
  (s_cons (s_par2 rfl sc_chained.nd rfl rfl (by decide) rfl rfl (by decide) (by decide) (g_lst g_anil) (g_lst g_anil) (by rfl))
    (s_cons (s_for PassesOwn.never rfl (i_enum (by rfl) z_enumerate (g_acons (g_o (o_var (pv 0))) g_anil)) (tg_tup rfl (tg_cons (tg_name sc_chained.nd rfl (.inl rfl)) (tg_cons (tg_name sc_chained.nd rfl (.inl rfl)) tg_nil))) (s_one (s_if (gt_p (t_not (t_truth (p_ix ix_seq w_ix (p_ix ix_seq w_ix (p_var (pv 1)) (p_var (pv 4)) (fun _ _ => rfl)) p_int (fun _ _ => rfl))))) (s_one (s_app0 (pv 2) (g_p p_non))) (s_one (s_if (gt_p (PW.pt (t_and (t_cmp op_gt w_cmp2 (p_var (pv 4)) p_int (nomark _)) (t_and (t_cmp (op_eqD (hu64 hr)) w_eq (p_ix ix_seq w_ix (p_var (pv 0)) (p_sub (p_var (pv 4)) p_int) (fun _ _ => rfl)) (p_sub (p_var (pv 5)) p_int) (nomark _)) (t_and1 (t_truth (p_ix ix_seq w_ix (p_ix ix_seq w_ix (p_var (pv 1)) (p_sub (p_var (pv 4)) p_int) (fun _ _ => rfl)) p_int (fun _ _ => rfl)))))))) (s_one (s_app0 (pv 2) (g_o (o_ix (o_var (pv 2)) (p_sub (p_var (pv 4)) p_int) (fun _ _ => rfl))))) (s_cons (s_app0 (pv 2) (g_p (p_callB call_lenS w_len (by rfl) z_len PySem.boot_len (p_acons (p_var (pv 3)) p_anil))))
    (s_one (s_app0 (pv 3) (g_o (o_var (pv 5)))))))))) (by decide))
    (s_one (s_ret (g_tup (g_acons (g_sh (pv 2)) (g_acons (g_sh (pv 3)) g_anil)))))))
/-! step_chains -/
abbrev s_step_chains : Stmt := topS 19
abbrev N_step_chains : List Str := ["scales", "told", "numbers", "at"]
theorem sc_step_chains : FnScope N_step_chains ["scales", "told", "numbers", "at"] (defScope s_step_chains) := ⟨rfl, rfl, rfl, by decide +kernel, rfl, by decide +kernel, by decide +kernel⟩
noncomputable def m_step_chains : Mn.Env → Option Out :=
  (sSeq (sIf (mtP (pB (pBin dEq (pBin dSub (pBin dIx (pVar 0) (pVar 3)) (pBin dIx (pVar 0) (pBin dSub (pVar 3) (pC (.int 1))))) (pC (.int 2))))) (sRet (mLst 0 (mCons 0 (mO (oIx (oVar 2) (pBin dSub (pVar 3) (pC (.int 1))))) (mCons 0 (mO (oIx (oVar 2) (pVar 3))) mNil)))) sNx)
    (sRet (mLst 0 (mCons 0 (mIf (mtP (pTr (pBin dIx (pBin dIx (pVar 1) (pVar 3)) (pC (.int 1))))) (mO (oIx (oVar 2) (pVar 3))) (mO (oIx (oVar 2) (pBin dSub (pVar 3) (pC (.int 1)))))) mNil))))
noncomputable def F_step_chains : Fp0 := run0 4 m_step_chains
theorem b_step_chains {P : Program} {w : World} {K : PySem.W.Frag} {mg : Str → Option Value} {base : Heap} {fa : Addr}  : Body P w K mg base N_step_chains "step_chains" s_step_chains fa 0 [] m_step_chains := fun cdv A outer s H hr hgd =>
  (s_cons (s_if (gt_p (t_cmp (op_eqD (hu64 hr)) w_eq (p_sub (p_ix ix_seq w_ix (p_var (pv 0)) (p_var (pv 3)) (fun _ _ => rfl)) (p_ix ix_seq w_ix (p_var (pv 0)) (p_sub (p_var (pv 3)) p_int) (fun _ _ => rfl))) p_int (nomark _))) (s_one (s_ret (g_lst (g_acons (g_o (o_ix (o_var (pv 2)) (p_sub (p_var (pv 3)) p_int) (fun _ _ => rfl))) (g_acons (g_o (o_ix (o_var (pv 2)) (p_var (pv 3)) (fun _ _ => rfl))) g_anil))))) s_nil)
    (s_one (s_ret (g_lst (g_acons (g_if (gt_p (t_truth (p_ix ix_seq w_ix (p_ix ix_seq w_ix (p_var (pv 1)) (p_var (pv 3)) (fun _ _ => rfl)) p_int (fun _ _ => rfl)))) (g_o (o_ix (o_var (pv 2)) (p_var (pv 3)) (fun _ _ => rfl))) (g_o (o_ix (o_var (pv 2)) (p_sub (p_var (pv 3)) p_int) (fun _ _ => rfl)))) g_anil)))))
/-! tellings -/
abbrev s_tellings : Stmt := topS 15
abbrev N_tellings : List Str := ["pieces", "scale", "scales", "found", "kinds", "odd_ones", "sign", "_", "item", "kind"]
theorem sc_tellings : FnScope N_tellings ["pieces"] (defScope s_tellings) := ⟨rfl, rfl, rfl, by decide +kernel, rfl, by decide +kernel, by decide +kernel⟩
noncomputable def m_tellings : Mn.Env → Option Out :=
  (sSeq (sAsg 2 (mFz (mSortSet (mComp 0 (iSeq (mO (oVar 0))) (tTupT 2 (tsCons (tName 1) (tsCons (tName 7) tsNil))) tYesM (mO (oVar 1)) [1, 7]))))
    (sSeq (sAsg 3 (mLst 0 mNil))
    (sSeq (sFor (iSeq (mO (oVar 2))) (tName 1) (sSeq (sAsg 4 (mFz (mComp 0 (iSeq (mO (oVar 0))) (tTupT 2 (tsCons (tName 8) (tsCons (tName 9) tsNil))) (mtP (pB (pBin dEq (pVar 8) (pVar 1)))) (mO (oVar 9)) [8, 9])))
    (sSeq (sAsg 5 (mFz (mComp 0 (iSeq (mO (oVar 4))) (tName 9) (mtP (pB (pBin dEq (pBin dMod (pVar 9) (pC (.int 2))) (pC (.int 1))))) (mO (oVar 9)) [9])))
    (sSeq (sAsg 6 (mFz (mIf (mtV (mBin dEq (mBin dMod (mCallF (ofN dLen) (mCons 0 (mComp 0 (iSeq (mO (oVar 4))) (tName 9) (mtP (pB (pBin dInG (pVar 9) (pC (.tup [(.int 2), (.int 3), (.int 5)]))))) (mO (oVar 9)) [9]) mNil)) (mP (pC (.int 2)))) (mP (pC (.int 1))))) (mP (pUn dNeg (pC (.int 1)))) (mP (pC (.int 1))))))
    (sApp0 3 (mLst 0 (mCons 0 (mP (pBin dAdd (pCall dLen (pCons (pVar 5) pNil)) (pBin dMul (pC (.int 2)) (pBin dSub (pCall dLen (pCons (pVar 4) pNil)) (pCall dLen (pCons (pVar 5) pNil)))))) (mCons 0 (mBin dNe (mO (oVar 5)) (mLst 0 mNil)) (mCons 0 (mO (oVar 6)) (mCons 0 (mP (pCall dSum (pCons (pVar 5) pNil))) mNil))))))))))
    (sRet (mTup 0 (mCons 0 (mO (oVar 2)) (mCons 0 (mSh 3) mNil)))))))
noncomputable def F_tellings : Fp0 := run0 10 m_tellings
theorem b_tellings {P : Program} {w : World} {K : PySem.W.Frag} {mg : Str → Option Value} {base : Heap} {fa : Addr} (c_MINUS : ∃ a, mg "MINUS" = some (.ref a) ∧ ∀ W, Rep K mg W (.tup [(.int 2), (.int 3), (.int 5)]) (.ref a)) (z_len : mg "len" = none) (z_set : mg "set" = none) (z_sorted : mg "sorted" = none) (z_sum : mg "sum" = none) : Body P w K mg base N_tellings "tellings" s_tellings fa 0 [] m_tellings := fun cdv A outer s H hr hgd =>
  (s_cons (s_asg sc_tellings.nd rfl (.inl rfl) (by decide) (g_fz (g_sortSet (by rfl) (by rfl) z_sorted PyProof.Rows.boot_sorted (by rfl) z_set PyProof.Rows.boot_set (g_comp (own := [("scale", 1), ("_", 7)]) rfl sc_tellings.nd (i_seq (g_o (o_var (pv 0)))) (blkOk_by (N := N_tellings) (sc := (defScope s_tellings)) (own := [("scale", 1), ("_", 7)]) (by decide +kernel)) (fun _ _ _ _ _ => (tg_tup rfl (tg_cons (tg_name sc_tellings.nd rfl (.inl rfl)) (tg_cons (tg_name sc_tellings.nd rfl (.inl rfl)) tg_nil)))) (fun _ _ _ _ _ => (g_o (o_var (pv 1)))) (by decide)))))
    (s_cons (s_asg sc_tellings.nd rfl (.inl rfl) (by decide) (g_lst g_anil))
    (s_cons (s_for PassesOwn.never rfl (i_seq (g_o (o_var (pv 2)))) (tg_name sc_tellings.nd rfl (.inr rfl)) (s_cons (s_setCompIf0 (own := [("item", 8), ("kind", 9)]) rfl sc_tellings.nd rfl rfl (by decide) (by rfl) (i_seq (g_o (o_var (pv 0)))) (blkOk_by (N := N_tellings) (sc := (defScope s_tellings)) (own := [("item", 8), ("kind", 9)]) (by decide +kernel)) (fun _ _ _ _ _ => (tg_tup rfl (tg_cons (tg_name sc_tellings.nd rfl (.inl rfl)) (tg_cons (tg_name sc_tellings.nd rfl (.inl rfl)) tg_nil)))) (fun _ _ _ _ _ => (gt_p (t_cmp (op_eqD (hu64 hr)) w_eq (p_var (pv 8)) (p_var (pv 1)) (nomark _)))) (fun _ _ _ _ _ => (g_o (o_var (pv 9)))) (by decide))
    (s_cons (s_setCompIf0 (own := [("kind", 9)]) rfl sc_tellings.nd rfl rfl (by decide) (by rfl) (i_seq (g_o (o_var (pv 4)))) (blkOk_by (N := N_tellings) (sc := (defScope s_tellings)) (own := [("kind", 9)]) (by decide +kernel)) (fun _ _ _ _ _ => (tg_name sc_tellings.nd rfl (.inl rfl))) (fun _ _ _ _ _ => (gt_p (t_cmp (op_eqD (hu64 hr)) w_eq (p_mod (p_var (pv 9)) p_int) p_int (nomark _)))) (fun _ _ _ _ _ => (g_o (o_var (pv 9)))) (by decide))
    (s_cons (s_asg sc_tellings.nd rfl (.inl rfl) (by decide) (g_fz (g_if (gt_cmp (op_eqD (hu64 hr)) w_eq (g_mod (g_callB call_lenS (w_of w_len) (by rfl) z_len PySem.boot_len (g_acons (g_compIf (own := [("kind", 9)]) rfl sc_tellings.nd (i_seq (g_o (o_var (pv 4)))) (blkOk_by (N := N_tellings) (sc := (defScope s_tellings)) (own := [("kind", 9)]) (by decide +kernel)) (fun _ _ _ _ _ => (tg_name sc_tellings.nd rfl (.inl rfl))) (fun _ _ _ _ _ => (gt_p (t_cmp (op_inG (hu65 hr)) w_inG (p_var (pv 9)) (p_glv (v := .ref c_MINUS.choose) (by rfl) c_MINUS.choose_spec.1 rfl c_MINUS.choose_spec.2) (by with_unfolding_all rfl)))) (fun _ _ _ _ _ => (g_o (o_var (pv 9)))) (by decide)) g_anil)) (g_p p_int)) (g_p p_int) (nomark _)) (g_p (p_neg p_int)) (g_p p_int))))
    (s_one (s_app0 (pv 3) (g_lst (g_acons (g_p (p_add (p_callB call_lenS w_len (by rfl) z_len PySem.boot_len (p_acons (p_var (pv 5)) p_anil)) (p_mul p_int (p_sub (p_callB call_lenS w_len (by rfl) z_len PySem.boot_len (p_acons (p_var (pv 4)) p_anil)) (p_callB call_lenS w_len (by rfl) z_len PySem.boot_len (p_acons (p_var (pv 5)) p_anil)))))) (g_acons (g_cmp (op_neD (hu64 hr)) w_ne (g_o (o_var (pv 5))) (g_lst g_anil) (nomark _)) (g_acons (g_o (o_var (pv 6))) (g_acons (g_p (p_callB (cr_sum rfl) w_sum (by rfl) z_sum PyProof.Rows.boot_sum (p_acons (p_var (pv 5)) p_anil))) g_anil)))))))))) (by decide))
    (s_one (s_ret (g_tup (g_acons (g_o (o_var (pv 2))) (g_acons (g_sh (pv 3)) g_anil))))))))
/-! hangs -/
abbrev s_hangs : Stmt := topS 17
abbrev N_hangs : List Str := ["scales", "told", "at"]
theorem sc_hangs : FnScope N_hangs ["scales", "told", "at"] (defScope s_hangs) := ⟨rfl, rfl, rfl, by decide +kernel, rfl, by decide +kernel, by decide +kernel⟩
noncomputable def m_hangs : Mn.Env → Option Out :=
  (sSeq (sIf (mtP (pB (pBin dEq (pBin dSub (pBin dIx (pVar 0) (pVar 2)) (pBin dIx (pVar 0) (pBin dSub (pVar 2) (pC (.int 1))))) (pC (.int 1))))) (sRet (mOr (mO (oIx (oIx (oVar 1) (pVar 2)) (pC (.int 1)))) (mO (oIx (oIx (oVar 1) (pBin dSub (pVar 2) (pC (.int 1)))) (pC (.int 1)))))) sNx)
    (sRet (mAnd (mP (pBin dEq (pBin dSub (pBin dIx (pVar 0) (pVar 2)) (pBin dIx (pVar 0) (pBin dSub (pVar 2) (pC (.int 1))))) (pC (.int 2)))) (mAnd (mO (oIx (oIx (oVar 1) (pVar 2)) (pC (.int 1)))) (mO (oIx (oIx (oVar 1) (pBin dSub (pVar 2) (pC (.int 1)))) (pC (.int 1))))))))
noncomputable def F_hangs : Fp0 := run0 3 m_hangs
theorem b_hangs {P : Program} {w : World} {K : PySem.W.Frag} {mg : Str → Option Value} {base : Heap} {fa : Addr}  : Body P w K mg base N_hangs "hangs" s_hangs fa 0 [] m_hangs := fun cdv A outer s H hr hgd =>
  (s_cons (s_if (gt_p (t_cmp (op_eqD (hu64 hr)) w_eq (p_sub (p_ix ix_seq w_ix (p_var (pv 0)) (p_var (pv 2)) (fun _ _ => rfl)) (p_ix ix_seq w_ix (p_var (pv 0)) (p_sub (p_var (pv 2)) p_int) (fun _ _ => rfl))) p_int (nomark _))) (s_one (s_ret (g_or (g_o (o_ix (o_ix (o_var (pv 1)) (p_var (pv 2)) (fun _ _ => rfl)) p_int (fun _ _ => rfl))) (g_one (g_o (o_ix (o_ix (o_var (pv 1)) (p_sub (p_var (pv 2)) p_int) (fun _ _ => rfl)) p_int (fun _ _ => rfl))))))) s_nil)
    (s_one (s_ret (g_and (g_p (p_cmp (op_eqD (hu64 hr)) w_eq (p_sub (p_ix ix_seq w_ix (p_var (pv 0)) (p_var (pv 2)) (fun _ _ => rfl)) (p_ix ix_seq w_ix (p_var (pv 0)) (p_sub (p_var (pv 2)) p_int) (fun _ _ => rfl))) p_int (nomark _))) (g_and (g_o (o_ix (o_ix (o_var (pv 1)) (p_var (pv 2)) (fun _ _ => rfl)) p_int (fun _ _ => rfl))) (g_one (g_o (o_ix (o_ix (o_var (pv 1)) (p_sub (p_var (pv 2)) p_int) (fun _ _ => rfl)) p_int (fun _ _ => rfl)))))))))
/-! way_starts -/
abbrev s_way_starts : Stmt := topS 18
abbrev N_way_starts : List Str := ["scales", "told", "found", "at"]
theorem sc_way_starts : FnScope N_way_starts ["scales", "told"] (defScope s_way_starts) := ⟨rfl, rfl, rfl, by decide +kernel, rfl, by decide +kernel, by decide +kernel⟩
noncomputable def m_way_starts : Mn.Env → Option Out :=
  (sSeq (sAsg 2 (mLst 0 mNil))
    (sSeq (sFor (iRange (mCons 0 (mP (pCall dLen (pCons (pVar 0) pNil))) mNil)) (tName 3) (sApp0 2 (mIf (mtAnd (mtP (pB (pBin dGt (pVar 3) (pC (.int 0))))) (mtTr (mCall 3 F_hangs (mCons 0 (mO (oVar 0)) (mCons 0 (mO (oVar 1)) (mCons 0 (mO (oVar 3)) mNil)))))) (mO (oIx (oVar 2) (pBin dSub (pVar 3) (pC (.int 1))))) (mO (oVar 3)))))
    (sRet (mMv 2))))
noncomputable def F_way_starts : Fp0 := run0 4 m_way_starts
theorem b_way_starts {P : Program} {w : World} {K : PySem.W.Frag} {mg : Str → Option Value} {base : Heap} {fa : Addr} (h_hangs : FnAt P w K mg base 1 "hangs" 3 (sp0 K mg 3 F_hangs)) (z_len : mg "len" = none) (z_range : mg "range" = none) : Body P w K mg base N_way_starts "way_starts" s_way_starts fa 1 [] m_way_starts := fun cdv A outer s H hr hgd =>
  (s_cons (s_asg sc_way_starts.nd rfl (.inl rfl) (by decide) (g_lst g_anil))
    (s_cons (s_for PassesOwn.never rfl (i_range1 (by rfl) z_range (g_acons (g_p (p_callB call_lenS w_len (by rfl) z_len PySem.boot_len (p_acons (p_var (pv 0)) p_anil))) g_anil) (h1 := (len_cons len_nil))) (tg_name sc_way_starts.nd rfl (.inl rfl)) (s_one (s_app0 (pv 2) (g_if (PW.pt (gt_and (gt_p (t_cmp op_gt w_cmp2 (p_var (pv 3)) p_int (nomark _))) (gt_and1 (gt_truth (g_call h_hangs hr hgd (by rfl) (g_acons (g_o (o_var (pv 0))) (g_acons (g_o (o_var (pv 1))) (g_acons (g_o (o_var (pv 3))) g_anil)))))))) (g_o (o_ix (o_var (pv 2)) (p_sub (p_var (pv 3)) p_int) (fun _ _ => rfl))) (g_o (o_var (pv 3)))))) (by decide))
    (s_one (s_ret (g_mv (pv 2))))))
/-! symbol_made -/
abbrev s_symbol_made : Stmt := topS 20
abbrev N_symbol_made : List Str := ["pieces", "size", "scales", "told", "numbers", "firsts", "starts", "sums", "at", "item", "signs", "step", "chain", "parts", "noughts", "scale", "first", "number"]
theorem sc_symbol_made : FnScope N_symbol_made ["pieces", "size"] (defScope s_symbol_made) := ⟨rfl, rfl, rfl, by decide +kernel, rfl, by decide +kernel, by decide +kernel⟩
noncomputable def m_symbol_made : Mn.Env → Option Out :=
  (sSeq (sAsgT (mCall 1 F_tellings (mCons 0 (mO (oVar 0)) mNil)) (cTup 2 (csCons (cName0 2) (csCons (cName0 3) csNil))))
    (sSeq (sAsgT (mCall 2 F_chained (mCons 0 (mO (oVar 2)) (mCons 0 (mO (oVar 3)) mNil))) (cTup 2 (csCons (cName0 4) (csCons (cName0 5) csNil))))
    (sSeq (sPar2 6 7 (mFz (mCall 2 F_way_starts (mCons 0 (mO (oVar 2)) (mCons 0 (mO (oVar 3)) mNil)))) (mBinF dMulG (mLst 0 (mCons 0 (mP (pC (.int 0))) mNil)) (mP (pCall dLen (pCons (pVar 5) pNil)))))
    (sSeq (sFor (iEnumM (mCons 0 (mO (oVar 3)) mNil)) (tTupT 2 (tsCons (tName 8) (tsCons (tName 9) tsNil))) (sIf (mtP (pB (pBin dNotG (pBin dIx (pVar 4) (pVar 8)) (pC .non)))) (sSet 7 plNil (pBin dIx (pVar 4) (pVar 8)) (mBinF dAddG (mO (oIx (oVar 7) (pBin dIx (pVar 4) (pVar 8)))) (mO (oIx (oVar 9) (pC (.int 3)))))) sNx))
    (sSeq (sAsg 10 (mComp 0 (iSeq (mO (oVar 3))) (tName 9) tYesM (mO (oIx (oVar 9) (pC (.int 2)))) [9]))
    (sSeq (sFor (iRange (mCons 0 (mP (pBin dSub (pCall dLen (pCons (pVar 2) pNil)) (pC (.int 1)))) (mCons 0 (mP (pUn dNeg (pC (.int 1)))) (mCons 0 (mP (pUn dNeg (pC (.int 1)))) mNil)))) (tName 8) (sIf (mtP (ptAnd (pB (pBin dEq (pBin dIx (pVar 10) (pVar 8)) (pUn dNeg (pC (.int 1))))) (pB (pBin dNe (pBin dIx (pVar 6) (pVar 8)) (pVar 8))))) (sSeq (sAsgT (mTup 0 (mCons 0 (mP (pC (.int 1))) (mCons 0 (mP (pUn dNeg (pBin dIx (pVar 10) (pBin dIx (pVar 6) (pVar 8))))) mNil))) (cTup 2 (csCons (cSub 10 plNil (pVar 8)) (csCons (cSub 10 plNil (pBin dIx (pVar 6) (pVar 8))) csNil))))
    (sFor (iRange (mCons 0 (mO (oVar 8)) (mCons 0 (mO (oIx (oVar 6) (pVar 8))) (mCons 0 (mP (pUn dNeg (pC (.int 1)))) mNil)))) (tName 11) (sFor (iSeq (mCall 4 F_step_chains (mCons 0 (mO (oVar 2)) (mCons 0 (mO (oVar 3)) (mCons 0 (mO (oVar 4)) (mCons 0 (mO (oVar 11)) mNil)))))) (tName 12) (sSet 7 plNil (pVar 12) (mP (pBin dAdd (pBin dIx (pVar 7) (pVar 12)) (pC (.int 4)))))))) sNx))
    (sSeq (sAsg 13 (mFz (mComp 0 (iEnumM (mCons 0 (mO (oVar 2)) mNil)) (tTupT 2 (tsCons (tName 8) (tsCons (tName 15) tsNil))) tYesM (mTup 0 (mCons 0 (mO (oVar 15)) (mCons 0 (mO (oIx (oIx (oVar 3) (pVar 8)) (pC (.int 0)))) (mCons 0 (mO (oIx (oIx (oVar 3) (pVar 8)) (pC (.int 1)))) (mCons 0 (mO (oIx (oVar 10) (pVar 8))) mNil))))) [8, 15])))
    (sSeq (sAsg 14 (mFz (mBin dSub (mO (oVar 1)) (mCallF (ofN dSum) (mCons 0 (mComp 0 (iSeq (mO (oVar 3))) (tName 9) tYesM (mO (oIx (oVar 9) (pC (.int 0)))) [9]) mNil)))))
    (sRet (mTup 0 (mCons 0 (mO (oVar 13)) (mCons 0 (mThaw (mComp 1 (iZipSM (mCons 0 (mO (oVar 5)) (mCons 0 (mO (oVar 7)) mNil))) (tTupT 2 (tsCons (tName 16) (tsCons (tName 17) tsNil))) tYesM (mTup 0 (mCons 0 (mO (oVar 16)) (mCons 0 (mP (pBin dMod (pVar 17) (pC (.int 8)))) mNil))) [16, 17])) (mCons 0 (mO (oVar 14)) mNil)))))))))))))
noncomputable def F_symbol_made : Fp0 := run0 18 m_symbol_made
theorem b_symbol_made {P : Program} {w : World} {K : PySem.W.Frag} {mg : Str → Option Value} {base : Heap} {fa : Addr} (h_chained : FnAt P w K mg base 2 "chained" 2 (sp0 K mg 2 F_chained)) (h_step_chains : FnAt P w K mg base 2 "step_chains" 4 (sp0 K mg 4 F_step_chains)) (h_tellings : FnAt P w K mg base 2 "tellings" 1 (sp0 K mg 1 F_tellings)) (h_way_starts : FnAt P w K mg base 2 "way_starts" 2 (sp0 K mg 2 F_way_starts)) (z_enumerate : mg "enumerate" = none) (z_len : mg "len" = none) (z_range : mg "range" = none) (z_sum : mg "sum" = none) (z_zip : mg "zip" = none) : Body P w K mg base N_symbol_made "symbol_made" s_symbol_made fa 2 [] m_symbol_made := fun cdv A outer s H hr hgd =>
  (s_cons (s_asgT (tc_tup rfl (tc_cons (tc_name0 sc_symbol_made.nd rfl (.inl rfl)) (tc_cons (tc_name0 sc_symbol_made.nd rfl (.inr rfl)) tc_nil))) (g_call h_tellings hr hgd (by rfl) (g_acons (g_o (o_var (pv 0))) g_anil)) (by decide))
    (s_cons (s_asgT (tc_tup rfl (tc_cons (tc_name0 sc_symbol_made.nd rfl (.inl rfl)) (tc_cons (tc_name0 sc_symbol_made.nd rfl (.inl rfl)) tc_nil))) (g_call h_chained hr hgd (by rfl) (g_acons (g_o (o_var (pv 2))) (g_acons (g_o (o_var (pv 3))) g_anil))) (by decide))
    (s_cons (s_par2 rfl sc_symbol_made.nd rfl rfl (by decide) rfl rfl (by decide) (by decide) (g_fz (g_call h_way_starts hr hgd (by rfl) (g_acons (g_o (o_var (pv 2))) (g_acons (g_o (o_var (pv 3))) g_anil)))) (g_mul (g_lst (g_acons (g_p p_int) g_anil)) (g_p (p_callB call_lenS w_len (by rfl) z_len PySem.boot_len (p_acons (p_var (pv 5)) p_anil)))) (by rfl))
    (s_cons (s_for PassesOwn.never rfl (i_enum (by rfl) z_enumerate (g_acons (g_o (o_var (pv 3))) g_anil)) (tg_tup rfl (tg_cons (tg_name sc_symbol_made.nd rfl (.inl rfl)) (tg_cons (tg_name sc_symbol_made.nd rfl (.inl rfl)) tg_nil))) (s_one (s_if (gt_p (t_cmp op_notG w_notG (p_ix ix_seq w_ix (p_var (pv 4)) (p_var (pv 8)) (fun _ _ => rfl)) p_non (nomark _))) (s_one (s_set (pl_var (pv 7)) (p_ix ix_seq w_ix (p_var (pv 4)) (p_var (pv 8)) (fun _ _ => rfl)) (g_add (g_o (o_ix (o_var (pv 7)) (p_ix ix_seq w_ix (p_var (pv 4)) (p_var (pv 8)) (fun _ _ => rfl)) (fun _ _ => rfl))) (g_o (o_ix (o_var (pv 9)) p_int (fun _ _ => rfl)))))) s_nil)) (by decide))
    (s_cons (s_asg sc_symbol_made.nd rfl (.inr rfl) (by decide) (g_comp (own := [("item", 9)]) rfl sc_symbol_made.nd (i_seq (g_o (o_var (pv 3)))) (blkOk_by (N := N_symbol_made) (sc := (defScope s_symbol_made)) (own := [("item", 9)]) (by decide +kernel)) (fun _ _ _ _ _ => (tg_name sc_symbol_made.nd rfl (.inl rfl))) (fun _ _ _ _ _ => (g_o (o_ix (o_var (pv 9)) p_int (fun _ _ => rfl)))) (by decide)))
    (s_cons (s_for PassesOwn.never rfl (i_range3 (by rfl) z_range (g_acons (g_p (p_sub (p_callB call_lenS w_len (by rfl) z_len PySem.boot_len (p_acons (p_var (pv 2)) p_anil)) p_int)) (g_acons (g_p (p_neg p_int)) (g_acons (g_p (p_neg p_int)) g_anil))) (h1 := (len_cons (len_cons (len_cons len_nil))))) (tg_name sc_symbol_made.nd rfl (.inl rfl)) (s_one (s_if (gt_p (PW.pt (t_and (t_cmp (op_eqD (hu64 hr)) w_eq (p_ix ix_seq w_ix (p_var (pv 10)) (p_var (pv 8)) (fun _ _ => rfl)) (p_neg p_int) (nomark _)) (t_and1 (t_cmp (op_neD (hu64 hr)) w_ne (p_ix ix_seq w_ix (p_var (pv 6)) (p_var (pv 8)) (fun _ _ => rfl)) (p_var (pv 8)) (nomark _)))))) (s_cons (s_asgX (tx_tup rfl (tx_cons (tx_sub (pl_var (pv 10)) (p_var (pv 8))) (tx_cons (tx_sub (pl_var (pv 10)) (p_ix ix_seq w_ix (p_var (pv 6)) (p_var (pv 8)) (fun _ _ => rfl))) tx_nil))) (g_tup (g_acons (g_p p_int) (g_acons (g_p (p_neg (p_ix ix_seq w_ix (p_var (pv 10)) (p_ix ix_seq w_ix (p_var (pv 6)) (p_var (pv 8)) (fun _ _ => rfl)) (fun _ _ => rfl)))) g_anil))) (by decide))
    (s_one (s_for PassesOwn.never rfl (i_range3 (by rfl) z_range (g_acons (g_o (o_var (pv 8))) (g_acons (g_o (o_ix (o_var (pv 6)) (p_var (pv 8)) (fun _ _ => rfl))) (g_acons (g_p (p_neg p_int)) g_anil))) (h1 := (len_cons (len_cons (len_cons len_nil))))) (tg_name sc_symbol_made.nd rfl (.inl rfl)) (s_one (s_for PassesOwn.never rfl (i_seq (g_call h_step_chains hr hgd (by rfl) (g_acons (g_o (o_var (pv 2))) (g_acons (g_o (o_var (pv 3))) (g_acons (g_o (o_var (pv 4))) (g_acons (g_o (o_var (pv 11))) g_anil)))))) (tg_name sc_symbol_made.nd rfl (.inl rfl)) (s_one (s_set (pl_var (pv 7)) (p_var (pv 12)) (g_p (p_add (p_ix ix_seq w_ix (p_var (pv 7)) (p_var (pv 12)) (fun _ _ => rfl)) p_int)))) (by decide))) (by decide)))) s_nil)) (by decide))
    (s_cons (s_setComp0 (own := [("at", 8), ("scale", 15)]) rfl sc_symbol_made.nd rfl rfl (by decide) (by rfl) (i_enum (by rfl) z_enumerate (g_acons (g_o (o_var (pv 2))) g_anil)) (blkOk_by (N := N_symbol_made) (sc := (defScope s_symbol_made)) (own := [("at", 8), ("scale", 15)]) (by decide +kernel)) (fun _ _ _ _ _ => (tg_tup rfl (tg_cons (tg_name sc_symbol_made.nd rfl (.inl rfl)) (tg_cons (tg_name sc_symbol_made.nd rfl (.inl rfl)) tg_nil)))) (fun _ _ _ _ _ => (g_tup (g_acons (g_o (o_var (pv 15))) (g_acons (g_o (o_ix (o_ix (o_var (pv 3)) (p_var (pv 8)) (fun _ _ => rfl)) p_int (fun _ _ => rfl))) (g_acons (g_o (o_ix (o_ix (o_var (pv 3)) (p_var (pv 8)) (fun _ _ => rfl)) p_int (fun _ _ => rfl))) (g_acons (g_o (o_ix (o_var (pv 10)) (p_var (pv 8)) (fun _ _ => rfl))) g_anil)))))) (by decide))
    (s_cons (s_asg sc_symbol_made.nd rfl (.inl rfl) (by decide) (g_fz (g_sub (g_o (o_var (pv 1))) (g_callB (cr_sum rfl) (w_of w_sum) (by rfl) z_sum PyProof.Rows.boot_sum (g_acons (g_comp (own := [("item", 9)]) rfl sc_symbol_made.nd (i_seq (g_o (o_var (pv 3)))) (blkOk_by (N := N_symbol_made) (sc := (defScope s_symbol_made)) (own := [("item", 9)]) (by decide +kernel)) (fun _ _ _ _ _ => (tg_name sc_symbol_made.nd rfl (.inl rfl))) (fun _ _ _ _ _ => (g_o (o_ix (o_var (pv 9)) p_int (fun _ _ => rfl)))) (by decide)) g_anil)))))
    (s_one (s_ret (g_tup (g_acons (g_o (o_var (pv 13))) (g_acons (g_thaw (g_comp (own := [("first", 16), ("number", 17)]) rfl sc_symbol_made.nd (i_zipS (by rfl) z_zip (g_acons (g_o (o_var (pv 5))) (g_acons (g_o (o_var (pv 7))) g_anil))) (blkOk_by (N := N_symbol_made) (sc := (defScope s_symbol_made)) (own := [("first", 16), ("number", 17)]) (by decide +kernel)) (fun _ _ _ _ _ => (tg_tup rfl (tg_cons (tg_name sc_symbol_made.nd rfl (.inl rfl)) (tg_cons (tg_name sc_symbol_made.nd rfl (.inl rfl)) tg_nil)))) (fun _ _ _ _ _ => (g_tup (g_acons (g_o (o_var (pv 16))) (g_acons (g_p (p_mod (p_var (pv 17)) p_int)) g_anil)))) (by decide))) (g_acons (g_o (o_var (pv 14))) g_anil))))))))))))))
/-! unknowns_in -/
abbrev s_unknowns_in : Stmt := topS 14
abbrev N_unknowns_in : List Str := ["pieces", "_", "kind"]
theorem sc_unknowns_in : FnScope N_unknowns_in ["pieces"] (defScope s_unknowns_in) := ⟨rfl, rfl, rfl, by decide +kernel, rfl, by decide +kernel, by decide +kernel⟩
noncomputable def m_unknowns_in : Mn.Env → Option Out :=
  (sRet (mCallF (ofN dSum) (mCons 0 (mComp 0 (iSeq (mO (oVar 0))) (tTupT 2 (tsCons (tName 1) (tsCons (tName 2) tsNil))) tYesM (mP (pIf (pB (pBin dEq (pBin dMod (pVar 2) (pC (.int 2))) (pC (.int 1)))) (pC (.int 1)) (pC (.int 2)))) [1, 2]) mNil)))
noncomputable def F_unknowns_in : Fp0 := run0 3 m_unknowns_in
theorem b_unknowns_in {P : Program} {w : World} {K : PySem.W.Frag} {mg : Str → Option Value} {base : Heap} {fa : Addr} (z_sum : mg "sum" = none) : Body P w K mg base N_unknowns_in "unknowns_in" s_unknowns_in fa 0 [] m_unknowns_in := fun cdv A outer s H hr hgd =>
  (s_one (s_ret (g_callB (cr_sum rfl) (w_of w_sum) (by rfl) z_sum PyProof.Rows.boot_sum (g_acons (g_comp (own := [("_", 1), ("kind", 2)]) rfl sc_unknowns_in.nd (i_seq (g_o (o_var (pv 0)))) (blkOk_by (N := N_unknowns_in) (sc := (defScope s_unknowns_in)) (own := [("_", 1), ("kind", 2)]) (by decide +kernel)) (fun _ _ _ _ _ => (tg_tup rfl (tg_cons (tg_name sc_unknowns_in.nd rfl (.inl rfl)) (tg_cons (tg_name sc_unknowns_in.nd rfl (.inl rfl)) tg_nil)))) (fun _ _ _ _ _ => (g_p (p_if (t_cmp (op_eqD (hu64 hr)) w_eq (p_mod (p_var (pv 2)) p_int) p_int (nomark _)) p_int p_int))) (by decide)) g_anil))))
/-! symbol_of -/
abbrev s_symbol_of : Stmt := topS 23
abbrev N_symbol_of : List Str := ["pieces", "size"]
theorem sc_symbol_of : FnScope N_symbol_of ["pieces", "size"] (defScope s_symbol_of) := ⟨rfl, rfl, rfl, by decide +kernel, rfl, by decide +kernel, by decide +kernel⟩
noncomputable def m_symbol_of : Mn.Env → Option Out :=
  (sSeq (sExp (mCall 1 F_check_pieces (mCons 0 (mO (oVar 0)) mNil)))
    (sSeq (sIf (mtNot (mtTr (mCall 3 F_is_between (mCons 0 (mO (oVar 1)) (mCons 0 (mCallF (ofN dMaxL) (mCons 0 (mCall 1 F_unknowns_in (mCons 0 (mO (oVar 0)) mNil)) (mCons 0 (mP (pC (.int 1))) mNil))) (mCons 0 (mO (oK (.int 6))) mNil)))))) sNo sNx)
    (sRet (mCall 2 F_symbol_made (mCons 0 (mO (oVar 0)) (mCons 0 (mO (oVar 1)) mNil))))))
noncomputable def F_symbol_of : Fp0 := run0 2 m_symbol_of
theorem b_symbol_of {P : Program} {w : World} {K : PySem.W.Frag} {mg : Str → Option Value} {base : Heap} {fa : Addr} (c_MOST : ∃ t, mg "MOST" = some (.int 6 t)) (h_check_pieces : FnAt P w K mg base 5 "check_pieces" 1 (sp0 K mg 1 F_check_pieces)) (h_is_between : FnAt P w K mg base 5 "is_between" 3 (sp0 K mg 3 F_is_between)) (h_symbol_made : FnAt P w K mg base 5 "symbol_made" 2 (sp0 K mg 2 F_symbol_made)) (h_unknowns_in : FnAt P w K mg base 5 "unknowns_in" 1 (sp0 K mg 1 F_unknowns_in)) (z_max : mg "max" = none) : Body P w K mg base N_symbol_of "symbol_of" s_symbol_of fa 5 [] m_symbol_of := fun cdv A outer s H hr hgd =>
  (s_cons (s_exp (g_call h_check_pieces hr hgd (by rfl) (g_acons (g_o (o_var (pv 0))) g_anil)))
    (s_cons (s_if (gt_not (gt_truth (g_call h_is_between hr hgd (by rfl) (g_acons (g_o (o_var (pv 1))) (g_acons (g_callB (call_maxG rfl) (w_of w_maxL) (by rfl) z_max PyProof.Rows.boot_max (g_acons (g_call h_unknowns_in hr hgd (by rfl) (g_acons (g_o (o_var (pv 0))) g_anil)) (g_acons (g_p p_int) g_anil))) (g_acons (g_o (o_glv (v := .int 6) (by rfl) c_MOST.choose_spec ⟨_, rfl⟩ (fun _ => rfl))) g_anil)))))) ss_no s_nil)
    (s_one (s_ret (g_call h_symbol_made hr hgd (by rfl) (g_acons (g_o (o_var (pv 0))) (g_acons (g_o (o_var (pv 1))) g_anil)))))))
/-! law -/
abbrev s_law : Stmt := topS 47
abbrev N_law : List Str := ["_law_script", "_law_generator_here", "_law_pieces_here", "_law_mate_here", "_law_size_here", "_law_told"]
theorem sc_law : FnScope N_law ["_law_script"] (defScope s_law) := ⟨rfl, rfl, rfl, by decide +kernel, rfl, by decide +kernel, by decide +kernel⟩
noncomputable def m_law : Mn.Env → Option Out :=
  (sSeq (sIf (mtOr (mtV (mBin dNe (mCall 2 F_symbol_of (mCons 0 (mLst 0 (mCons 0 (mTup 0 (mCons 0 (mP (pC (.int 0))) (mCons 0 (mP (pC (.int 2))) mNil))) (mCons 0 (mTup 0 (mCons 0 (mP (pC (.int 1))) (mCons 0 (mP (pC (.int 3))) mNil))) mNil))) (mCons 0 (mP (pC (.int 3))) mNil))) (mCall 2 F_symbol_of (mCons 0 (mLst 0 (mCons 0 (mTup 0 (mCons 0 (mP (pC (.int 0))) (mCons 0 (mP (pC (.int 0))) mNil))) (mCons 0 (mTup 0 (mCons 0 (mP (pC (.int 1))) (mCons 0 (mP (pC (.int 7))) mNil))) mNil))) (mCons 0 (mP (pC (.int 3))) mNil))))) (mtV (mBin dNe (mIx (mCall 2 F_symbol_of (mCons 0 (mLst 0 (mCons 0 (mTup 0 (mCons 0 (mP (pC (.int 0))) (mCons 0 (mP (pC (.int 5))) mNil))) mNil)) (mCons 0 (mP (pC (.int 1))) mNil))) (mP (pC (.int 1)))) (mLst 0 (mCons 0 (mTup 0 (mCons 0 (mP (pC (.int 0))) (mCons 0 (mP (pC (.int 5))) mNil))) mNil))))) (sRet (mP (pC (.bl false)))) sNx)
    (sSeq (sAsg 1 (mCall 2 F__law_generator (mCons 0 (mO (oVar 0)) (mCons 0 (mP (pC (.int 0))) mNil))))
    (sSeq (sAsg 2 (mFz (mCallI 3 F__law_pieces 1 (mCons 0 (mP (pC (.int 3))) (mCons 0 (mLst 0 (mCons 0 (mP (pC (.int 0))) (mCons 0 (mP (pC (.int 1))) (mCons 0 (mP (pC (.int 2))) mNil)))) mNil)))))
    (sSeq (sAsg 3 (mFz (mCallI 2 F__law_mate 1 (mCons 0 (mO (oVar 2)) mNil))))
    (sSeq (sAsg 4 (mFz (mCallF (ofN dMax3) (mCons 0 (mCall 1 F__law_unknowns (mCons 0 (mO (oVar 2)) mNil)) (mCons 0 (mCall 1 F__law_unknowns (mCons 0 (mO (oVar 3)) mNil)) (mCons 0 (mP (pC (.int 1))) mNil))))))
    (sSeq (sAsg 5 (mFz (mLst 0 (mCons 0 (mCall 2 F_symbol_of (mCons 0 (mO (oVar 2)) (mCons 0 (mO (oVar 4)) mNil))) (mCons 0 (mCall 2 F_symbol_of (mCons 0 (mO (oVar 3)) (mCons 0 (mO (oVar 4)) mNil))) mNil)))))
    (sSeq (sIf (mtNot (mtTr (mCall 2 F__law_same (mCons 0 (mO (oVar 5)) (mCons 0 (mLst 0 (mCons 0 (mCall 2 F__law_symbol (mCons 0 (mO (oVar 2)) (mCons 0 (mO (oVar 4)) mNil))) (mCons 0 (mCall 2 F__law_symbol (mCons 0 (mO (oVar 3)) (mCons 0 (mO (oVar 4)) mNil))) mNil))) mNil))))) (sRet (mP (pC (.bl false)))) sNx)
    (sRet (mBin dEq (mP (pBin dEq (pBin dIx (pVar 5) (pC (.int 0))) (pBin dIx (pVar 5) (pC (.int 1))))) (mBin dEq (mCall 2 F__law_counts (mCons 0 (mO (oVar 2)) (mCons 0 (mO (oVar 4)) mNil))) (mCall 2 F__law_counts (mCons 0 (mO (oVar 3)) (mCons 0 (mO (oVar 4)) mNil)))))))))))))
noncomputable def F_law : Fp0 := run0 6 m_law
theorem b_law {P : Program} {w : World} {K : PySem.W.Frag} {mg : Str → Option Value} {base : Heap} {fa : Addr} (h__law_counts : FnAt P w K mg base 6 "_law_counts" 2 (sp0 K mg 2 F__law_counts)) (h__law_generator : FnAt P w K mg base 6 "_law_generator" 2 (sp0 K mg 2 F__law_generator)) (h__law_mate : FnAt P w K mg base 6 "_law_mate" 2 (sp1 K mg 2 F__law_mate)) (h__law_pieces : FnAt P w K mg base 6 "_law_pieces" 3 (sp1 K mg 3 F__law_pieces)) (h__law_same : FnAt P w K mg base 6 "_law_same" 2 (sp0 K mg 2 F__law_same)) (h__law_symbol : FnAt P w K mg base 6 "_law_symbol" 2 (sp0 K mg 2 F__law_symbol)) (h__law_unknowns : FnAt P w K mg base 6 "_law_unknowns" 1 (sp0 K mg 1 F__law_unknowns)) (h_symbol_of : FnAt P w K mg base 6 "symbol_of" 2 (sp0 K mg 2 F_symbol_of)) (z_max : mg "max" = none) : Body P w K mg base N_law "law" s_law fa 6 [] m_law := fun cdv A outer s H hr hgd =>
  (s_cons (s_if (PW.pt (gt_or (gt_cmp (op_neD (hu64 hr)) w_ne (g_call h_symbol_of hr hgd (by rfl) (g_acons (g_lst (g_acons (g_tup (g_acons (g_p p_int) (g_acons (g_p p_int) g_anil))) (g_acons (g_tup (g_acons (g_p p_int) (g_acons (g_p p_int) g_anil))) g_anil))) (g_acons (g_p p_int) g_anil))) (g_call h_symbol_of hr hgd (by rfl) (g_acons (g_lst (g_acons (g_tup (g_acons (g_p p_int) (g_acons (g_p p_int) g_anil))) (g_acons (g_tup (g_acons (g_p p_int) (g_acons (g_p p_int) g_anil))) g_anil))) (g_acons (g_p p_int) g_anil))) (nomark _)) (gt_or1 (gt_cmp (op_neD (hu64 hr)) w_ne (g_ix (g_call h_symbol_of hr hgd (by rfl) (g_acons (g_lst (g_acons (g_tup (g_acons (g_p p_int) (g_acons (g_p p_int) g_anil))) g_anil)) (g_acons (g_p p_int) g_anil))) (g_p p_int) (fun _ _ => rfl)) (g_lst (g_acons (g_tup (g_acons (g_p p_int) (g_acons (g_p p_int) g_anil))) g_anil)) (nomark _))))) (s_one (s_ret (g_p p_bl))) s_nil)
    (s_cons (s_asg sc_law.nd rfl (.inl rfl) (by decide) (g_call h__law_generator hr hgd (by rfl) (g_acons (g_o (o_var (pv 0))) (g_acons (g_p p_int) g_anil))))
    (s_cons (s_asg sc_law.nd rfl (.inl rfl) (by decide) (g_fz (g_callI h__law_pieces hr hgd (by rfl) (pv 1) (g_acons (g_p p_int) (g_acons (g_lst (g_acons (g_p p_int) (g_acons (g_p p_int) (g_acons (g_p p_int) g_anil)))) g_anil)))))
    (s_cons (s_asg sc_law.nd rfl (.inl rfl) (by decide) (g_fz (g_callI h__law_mate hr hgd (by rfl) (pv 1) (g_acons (g_o (o_var (pv 2))) g_anil))))
    (s_cons (s_asg sc_law.nd rfl (.inl rfl) (by decide) (g_fz (g_callB (call_max3Nu rfl) (w_of w_max3) (by rfl) z_max PyProof.Rows.boot_max (g_acons (g_call h__law_unknowns hr hgd (by rfl) (g_acons (g_o (o_var (pv 2))) g_anil)) (g_acons (g_call h__law_unknowns hr hgd (by rfl) (g_acons (g_o (o_var (pv 3))) g_anil)) (g_acons (g_p p_int) g_anil))))))
    (s_cons (s_asg sc_law.nd rfl (.inl rfl) (by decide) (g_fz (g_lst (g_acons (g_call h_symbol_of hr hgd (by rfl) (g_acons (g_o (o_var (pv 2))) (g_acons (g_o (o_var (pv 4))) g_anil))) (g_acons (g_call h_symbol_of hr hgd (by rfl) (g_acons (g_o (o_var (pv 3))) (g_acons (g_o (o_var (pv 4))) g_anil))) g_anil)))))
    (s_cons (s_if (gt_not (gt_truth (g_call h__law_same hr hgd (by rfl) (g_acons (g_o (o_var (pv 5))) (g_acons (g_lst (g_acons (g_call h__law_symbol hr hgd (by rfl) (g_acons (g_o (o_var (pv 2))) (g_acons (g_o (o_var (pv 4))) g_anil))) (g_acons (g_call h__law_symbol hr hgd (by rfl) (g_acons (g_o (o_var (pv 3))) (g_acons (g_o (o_var (pv 4))) g_anil))) g_anil))) g_anil))))) (s_one (s_ret (g_p p_bl))) s_nil)
    (s_one (s_ret (g_cmp (op_eqD (hu64 hr)) w_eq (g_p (p_cmp (op_eqD (hu64 hr)) w_eq (p_ix ix_seq w_ix (p_var (pv 5)) p_int (fun _ _ => rfl)) (p_ix ix_seq w_ix (p_var (pv 5)) p_int (fun _ _ => rfl)) (nomark _))) (g_cmp (op_eqD (hu64 hr)) w_eq (g_call h__law_counts hr hgd (by rfl) (g_acons (g_o (o_var (pv 2))) (g_acons (g_o (o_var (pv 4))) g_anil))) (g_call h__law_counts hr hgd (by rfl) (g_acons (g_o (o_var (pv 3))) (g_acons (g_o (o_var (pv 4))) g_anil))) (nomark _)) (nomark _)))))))))))
/-! ### the law's own numbers -/
abbrev I (x : Int) : D := .int x
abbrev IL (xs : List Int) : D := .lst (xs.map D.int)
abbrev IM (xs : List (List Int)) : D := .lst (xs.map IL)
theorem okMul_small {i j : Int} (h1 : i.natAbs < 2 ^ 100) (h2 : j.natAbs < 2 ^ 100) : okMul i j = true := okMul_of h1 h2 (by decide) (by decide) (by decide)
theorem hash_ok (s i : Int) (h1 : 0 ≤ s) (h2 : s < 2147483647) (h3 : 0 ≤ i) (h4 : i ≤ 10 ^ 18) : ∃ r, F__law_hash [I s, I i] = some (0, .int r) ∧ 0 ≤ r ∧ r < 2147483647 := by
  have a1 : okMul s 1140671 = true := okMul_small (by omega) (by omega)
  have a2 : okMul 27644437 i = true := okMul_small (by omega) (by omega)
  have a3 : okMul (27644437 * i) i = true := okMul_small (by omega) (by omega)
  have a4 : okMul 131 i = true := okMul_small (by omega) (by omega)
  have a5 : okMul 62089 i = true := okMul_small (by omega) (by omega)
  have b1 := Int.emod_nonneg (s * 1140671 + 27644437 * i * i + 131 * i + 19) (b := 2147483629) (by omega)
  have b2 := Int.emod_lt_of_pos (s * 1140671 + 27644437 * i * i + 131 * i + 19) (b := 2147483629) (by omega)
  generalize hm : (s * 1140671 + 27644437 * i * i + 131 * i + 19) % 2147483629 = m at b1 b2
  have a6 : okMul m m = true := okMul_small (by omega) (by omega)
  have b3 := Int.emod_nonneg (m * m + 62089 * i + 32416187) (b := 2147483587) (by omega)
  have b4 := Int.emod_lt_of_pos (m * m + 62089 * i + 32416187) (b := 2147483587) (by omega)
  generalize hk : (m * m + 62089 * i + 32416187) % 2147483587 = k at b3 b4
  have a7 : okMul k 48271 = true := okMul_small (by omega) (by omega)
  refine ⟨k * 48271 % 2147483647, ?_, Int.emod_nonneg _ (by omega), Int.emod_lt_of_pos _ (by omega)⟩
  simp [F__law_hash, m__law_hash, a1, a2, a3, a4, a5, hm, a6, hk, a7]
/-- a generator's cell: its counter is at most n -/
def Gn (n : Nat) (c : Cell) : Prop := ∃ x y z : Int, c = (1, .lst [I x, I y, I z]) ∧ 0 ≤ x ∧ 0 ≤ y ∧ y < 2147483647 ∧ 0 ≤ z ∧ z ≤ n
theorem Gn.up {n m : Nat} {c : Cell} (h : Gn n c) (hm : n ≤ m) : Gn m c := by
  obtain ⟨x, y, z, e, h1, h3, h4, h5, h6⟩ := h
  exact ⟨x, y, z, e, h1, h3, h4, h5, by omega⟩
theorem random_ok {n : Nat} {c : Cell} (h : Gn n c) (hn : n ≤ 10 ^ 15) (m : Int) (h1 : 0 < m) (h2 : m.natAbs.log2 < 3000) : ∃ r c', F__law_random c [I m] = some ((0, I r), c') ∧ 0 ≤ r ∧ r < m ∧ Gn (n + 101) c' := by
  obtain ⟨x, y, z, rfl, x1, y1, y2, z1, z2⟩ := h
  by_cases hx : 0 < x
  · refine ⟨x % m, (1, .lst [I (x / m), I y, I z]), ?_, Int.emod_nonneg _ (by omega), Int.emod_lt_of_pos _ h1, x / m, y, z, rfl, Int.ediv_nonneg x1 (by omega), y1, y2, z1, by omega⟩
    have hd : okDiv m = true := by
      unfold okDiv
      rw [Bool.and_eq_true, decide_eq_true_eq, decide_eq_true_eq]
      exact ⟨by omega, by omega⟩
    have hf : fd x m = x / m := fd_pos h1
    simp [F__law_random, m__law_random, hx, h1, atI, ixN, plAt, D.at, D.put, hd, hf]
  · obtain ⟨tn, htn, htn2⟩ : ∃ tn : Nat, (1 : Int) + fd ((Builtin.Int.intBits m : Nat) : Int) 30 = tn ∧ tn ≤ 101 := by
      have : Builtin.Int.intBits m ≤ 3000 := by
        unfold Builtin.Int.intBits
        split <;> omega
      refine ⟨1 + Builtin.Int.intBits m / 30, ?_, by omega⟩
      rw [fd_pos (by omega)]
      omega
    have loop := mLoop_inv (tg := tName 3) (body := sSeq (sSet 0 plNil (pC (.int 2)) (mP (pBin dAdd (pBin dIx (pVar 0) (pC (.int 2))) (pC (.int 1)))))
        (sAsg 2 (mFz (mBinF dAddG (mP (pBin dMul (pVar 2) (pC (.int 2147483587)))) (mCall 2 F__law_hash (mCons 0 (mO (oIx (oVar 0) (pC (.int 1)))) (mCons 0 (mO (oIx (oVar 0) (pC (.int 2)))) mNil)))))))
      (fun i ρ => ∃ (dr : Int) (o : Option Cell), ρ = [some (1, .lst [I x, I y, I (z + i)]), some (0, I m), some (0, I dr), o] ∧ 0 ≤ dr ∧ dr.natAbs < 2 ^ (64 * i + 1)) (rng 0 1 tn) 0
      [some (1, .lst [I x, I y, I z]), some (0, I m), some (0, I 0), none] ⟨0, none, by simp, by omega, by decide⟩ (by
        rintro i d ρ hd ⟨dr, o, rfl, d1, d2⟩
        rw [rng0] at hd
        have hi : i < tn := by
          by_cases q : i < tn
          · exact q
          · simp [q] at hd
        simp [hi] at hd
        subst hd
        rw [Nat.zero_add] at d2 ⊢
        obtain ⟨r, er, r1, r2⟩ := hash_ok y (z + i + 1) y1 (by omega) (by omega) (by omega)
        have am : okMul dr 2147483587 = true := okMul_of d2 (show (2147483587 : Int).natAbs < 2 ^ 40 by decide) (by omega) (by decide) (by omega)
        refine ⟨_, _, rfl, ?_, dr * 2147483587 + r, some (0, I i), rfl, by omega, ?_⟩
        · simp [atI, ixN, plAt, D.at, D.put, am, er]
          omega
        · have e : 2 ^ (64 * (i + 1) + 1) = 2 ^ (64 * i + 1) * 2 ^ 64 := by
            rw [← Nat.pow_add]
            congr 1
          rw [e]
          generalize 2 ^ (64 * i + 1) = P at d2
          omega)
    obtain ⟨ρ', el, dr, o, rfl, d1, d2⟩ := loop
    refine ⟨dr % m, (1, .lst [I x, I y, I (z + ((0 + (rng 0 1 tn).length : Nat) : Int))]), ?_, Int.emod_nonneg _ (by omega), Int.emod_lt_of_pos _ h1, x, y, _, rfl, x1, y1, y2, by omega, by simp [rng]; omega⟩
    have hr : iRange (mCons 0 (mP (pBin dAdd (pC (.int 1)) (pBin dDiv (pUn dBits (pVar 1)) (pC (.int 30))))) mNil) [some (1, .lst [I x, I y, I z]), some (0, I m), some (0, I 0), none] = some (rng 0 1 tn, [some (1, .lst [I x, I y, I z]), some (0, I m), some (0, I 0), none]) := by
      rw [e_rg1 (j := tn) (ρ1 := [some (1, .lst [I x, I y, I z]), some (0, I m), some (0, I 0), none]) (by
        have hk : okDiv 30 = true := by decide
        simp [hk, htn])]
      rw [okRng_nat (by omega)]
      simp
    refine run1_rt (ρ := [some (1, .lst [I x, I y, I z]), some (0, I m), none, none]) (ρ' := [some (1, .lst [I x, I y, I (z + ((0 + (rng 0 1 tn).length : Nat) : Int))]), some (0, I m), some (0, I dr), o]) rfl ?_ rfl
    unfold m__law_random
    rw [seq_nx (ρ1 := [some (1, .lst [I x, I y, I z]), some (0, I m), none, none]) (by simp [hx, atI, ixN])]
    rw [seq_nx (ρ1 := [some (1, .lst [I x, I y, I z]), some (0, I m), some (0, I 0), none]) (by simp)]
    rw [seq_nx (for_nx hr el)]
    simp [h1]
theorem cell_ok (ns : List Int) (i : Nat) : ∃ v : Int, F__law_cell [IL ns, I i] = some (0, I v) := by
  by_cases h : i < ns.length
  · refine ⟨ns[i], ?_⟩
    refine run0_rt (ρ := [some (0, IL ns), some (0, I i)]) (ρ' := [some (0, IL ns), some (0, I i)]) rfl ?_
    unfold m__law_cell
    rw [seq_rt (c := (0, I ns[i])) (ρ1 := [some (0, IL ns), some (0, I i)]) (by simp [h, atI_nat'])]
  · refine ⟨(ns.take 1).sum % 1000003, ?_⟩
    refine run0_rt (ρ := [some (0, IL ns), some (0, I i)]) (ρ' := [some (0, IL ns), some (0, I i)]) rfl ?_
    unfold m__law_cell
    rw [seq_nx (ρ1 := [some (0, IL ns), some (0, I i)]) (by simp [h])]
    have hs : dSum [.lst (cutD (ns.map D.int) none (some 1))] = some (.int (ns.take 1).sum) := by
      have e : cutD (ns.map D.int) none (some 1) = (ns.take 1).map D.int := by
        unfold cutD
        cases ns with
        | nil => rfl
        | cons a r => simp [HT.sIx]
      rw [e, e_sum]
    simp [hs]
theorem generator_ok (ns : List Int) (i : Nat) (hi : i ≤ 1000) : ∃ c, F__law_generator [IL ns, I i] = some c ∧ Gn (1000 * i) c := by
  obtain ⟨v, ev⟩ := cell_ok ns i
  have p1 : okPow 10 18 = true := by decide +kernel
  have p2 : okPow 10 60 = true := by decide +kernel
  have p3 : okPow (10 ^ 60) 10 = true := by decide +kernel
  have am : okMul 1000 i = true := okMul_small (by decide) (by omega)
  generalize hx : (if 0 > v - 10 ^ 18 then (0 : Int) else v - 10 ^ 18) = x
  have hp : (0 : Int) < (10 ^ 60) ^ 10 := Int.pow_pos (by decide)
  refine ⟨(1, .lst [I (x % (10 ^ 60) ^ 10), I (v % 2147483647), I (1000 * i)]), ?_, _, _, _, rfl, Int.emod_nonneg _ (by omega), Int.emod_nonneg _ (by omega), Int.emod_lt_of_pos _ (by omega), by omega, by omega⟩
  refine run0_rt (ρ := [some (0, IL ns), some (0, I i), none]) (ρ' := [some (0, IL ns), some (0, I i), some (0, I v)]) rfl ?_
  unfold m__law_generator
  rw [seq_nx (ρ1 := [some (0, IL ns), some (0, I i), some (0, I v)]) (by simp [ev])]
  have e1 : pBin dPow (pBin dPow (pC (.int 10)) (pC (.int 60))) (pC (.int 10)) [some (0, IL ns), some (0, I i), some (0, I v)] = some (.int ((10 ^ 60) ^ 10)) := by
    show (dPow (.int 10) (.int 60)).bind (fun x => dPow x (.int 10)) = _
    rw [okPow_of' p2, show (60 : Int).toNat = 60 from rfl, Option.bind_some, okPow_of' p3, show (10 : Int).toNat = 10 from rfl]
  have e2 : pBin dPow (pC (.int 10)) (pC (.int 18)) [some (0, IL ns), some (0, I i), some (0, I v)] = some (.int (10 ^ 18)) := by
    show dPow (.int 10) (.int 18) = _
    rw [okPow_of' p1, show (18 : Int).toNat = 18 from rfl]
  generalize pBin dPow (pBin dPow (pC (.int 10)) (pC (.int 60))) (pC (.int 10)) = f1 at e1
  generalize pBin dPow (pC (.int 10)) (pC (.int 18)) = f2 at e2
  generalize ((10 : Int) ^ 60) ^ 10 = B at e1 hp
  generalize (10 : Int) ^ 18 = C at e2 hx
  simp only [e_sRet, e_mLst, e_mCons, e_mP, e_pBin, e1, e2, e_pCall, e_pCons, e_pNil, e_pVar, e_pC, List.getElem?_cons_succ, List.getElem?_cons_zero, Option.bind_some, e_int2, if_true, e_max2, e_dint1, hx, hp, decide_true, e_sc1, am]
  simp [hp, am, hx]
/-! ### the program's kinds -/
theorem is_whole_I (x : Int) : F_is_whole [I x] = some (0, .bl true) := rfl
theorem is_between_I (x a b : Int) : F_is_between [I x, I a, I b] = some (0, .bl (decide (a ≤ x) && decide (x ≤ b))) := by
  by_cases h : a ≤ x <;> simp [F_is_between, m_is_between, is_whole_I, h]
/-! ### pieces -/
abbrev Pc := Int × Int
abbrev pcD (p : Pc) : D := .tup [.int p.1, .int p.2]
abbrev PL (ps : List Pc) : D := .lst (ps.map pcD)
def lePc (p q : Pc) : Bool := decide (p.1 < q.1 ∨ (p.1 = q.1 ∧ p.2 ≤ q.2))
theorem toP0_pc (p : Pc) : toP0 (pcD p) = .tuple [.int p.1, .int p.2] := rfl
theorem leD_pc (p q : Pc) : leD (pcD p) (pcD q) = lePc p q := by
  have h := congrFun (congrFun (PySem.W.dataLe_ii (β := Pc) (fun b => b.1) (fun b => b.2)) p) q
  exact h
theorem toPL_pcs (l : List Pc) : toPL (l.map pcD) = some (l.map fun p => .tuple [.int p.1, .int p.2]) := toPL_mapL _ _ l fun _ _ => rfl
theorem okSort_pcs (l : List Pc) : okSort (l.map fun p => PyData.tuple [.int p.1, .int p.2]) = true := by
  unfold okSort
  simp only [Bool.and_eq_true, Bool.or_eq_true, List.all_eq_true, List.mem_map]
  refine ⟨⟨?_, .inl ?_⟩, ?_⟩
  · rintro _ ⟨a, _, rfl⟩ _ ⟨b, _, rfl⟩
    exact PySem.W.alike_ints [a.1, a.2] [b.1, b.2]
  · rintro _ ⟨a, _, rfl⟩
    rfl
  · rintro _ ⟨a, _, rfl⟩
    simp [PyData.depth, PyData.depthAll]
theorem sort_pcs (l : List Pc) : dSorted [PL l] = some (1, PL (l.mergeSort lePc)) := by
  have h1 : (l.map pcD).mergeSort leD = (l.mergeSort lePc).map pcD := (List.map_mergeSort fun a _ b _ => (leD_pc a b).symm).symm
  simp only [dSorted, toPL_pcs, okSort_pcs, if_true, h1]
theorem lePc_trans (a b c : Pc) (h1 : lePc a b = true) (h2 : lePc b c = true) : lePc a c = true := by
  unfold lePc at *
  rw [decide_eq_true_eq] at *
  omega
theorem lePc_total (a b : Pc) : (lePc a b || lePc b a) = true := by
  unfold lePc
  rw [Bool.or_eq_true, decide_eq_true_eq, decide_eq_true_eq]
  omega
theorem sorted_pcs (l : List Pc) : (l.mergeSort lePc).Pairwise (fun a b => lePc a b = true) := List.pairwise_mergeSort lePc_trans lePc_total l
def kindsL : List Int := [0, 1, 2, 3, 5, 7]
def uk (p : Pc) : Int := 2 - p.2 % 2
structure Good (ps : List Pc) : Prop where
  el : ∀ p ∈ ps, 0 ≤ p.1 ∧ p.1 ≤ 2000 ∧ p.2 ∈ kindsL
  up : ps.Pairwise (fun a b => lePc a b = true)
  un : (ps.map uk).sum ≤ 6
theorem kinds_le {k : Int} (h : k ∈ kindsL) : 0 ≤ k ∧ k ≤ 7 := by
  simp only [kindsL, List.mem_cons, List.not_mem_nil, or_false] at h
  omega
theorem uk_pos (ps : List Pc) : (ps.length : Int) ≤ (ps.map uk).sum := by
  induction ps with
  | nil => simp
  | cons p r ih =>
    simp only [List.map_cons, List.sum_cons, List.length_cons]
    have : 1 ≤ uk p := by unfold uk; omega
    omega
theorem Good.len {ps : List Pc} (g : Good ps) : ps.length ≤ 6 := by have := uk_pos ps; have := g.un; omega
theorem Rz_pcs {ps : List Pc} (g : Good ps) : Rz 20 [6, 2] (PL ps) := by
  refine ⟨by simpa using g.len, fun d hd => ?_⟩
  obtain ⟨p, hp, rfl⟩ := List.mem_map.mp hd
  obtain ⟨h1, h2, h3⟩ := g.el p hp
  have h4 := kinds_le h3
  refine ⟨by simp, fun e he => ?_⟩
  simp only [List.mem_cons, List.not_mem_nil, or_false] at he
  rcases he with rfl | rfl
  · show p.1.natAbs < 2 ^ 20; omega
  · show p.2.natAbs < 2 ^ 20; omega
theorem between_0 (x : Int) (h : 0 ≤ x) : F_is_between [I x, I 0, .non] = some (0, .bl true) := by
  simp [F_is_between, m_is_between, is_whole_I, h]
theorem is_piece_ok (p : Pc) (h1 : 0 ≤ p.1) (h2 : p.2 ∈ kindsL) : F_is_piece [pcD p] = some (0, .bl true) := by
  have h3 : dInG (.int p.2) (.lst [.int 0, .int 1, .int 2, .int 3, .int 5, .int 7]) = some (.bl true) := by
    have := in_IL p.2 kindsL
    rw [decide_eq_true h2] at this
    exact this
  simp [F_is_piece, m_is_piece, isTy, between_0, h1, is_whole_I, atI, ixN, h3]
theorem is_piece_list_ok {ps : List Pc} (g : Good ps) : F_is_piece_list [PL ps] = some (0, .bl true) := by
  have hc := comp_none (kc := 0) (it := iSeq (mO (oVar 0))) (tg := tName 1) (t := mtNot (mtTr (mCall 1 F_is_piece (mCons 0 (mO (oVar 1)) mNil)))) (x := mO (oVar 1)) (own := [1])
    (ρ := [some (0, PL ps), none, none, none]) (ρ1 := [some (0, PL ps), none, none, none]) (ρ0 := [some (0, PL ps), none, none, none])
    ps pcD (by simp) (by have := g.len; omega) rfl fun p hp => ⟨[some (0, PL ps), some (0, pcD p), none, none], rfl, by
      simp [is_piece_ok p (g.el p hp).1 (g.el p hp).2.2], rfl⟩
  have hu := comp_map1 (kc := 0) (it := iSeq (mO (oVar 0))) (tg := tTupT 2 (tsCons (tName 2) (tsCons (tName 3) tsNil))) (x := mP (pBin dSub (pC (.int 2)) (pBin dMod (pVar 3) (pC (.int 2))))) (own := [2, 3])
    (ρ := [some (0, PL ps), none, none, none]) (ρ1 := [some (0, PL ps), none, none, none]) (ρ0 := [some (0, PL ps), none, none, none])
    ps pcD (fun p => .int (uk p)) (by simp) (by have := g.len; omega) rfl fun p hp => ⟨[some (0, PL ps), none, some (0, .int p.1), some (0, .int p.2)], rfl, rfl, 0, by
      simp [uk], by simp⟩
  have e0 : dNe (.lst []) (.lst []) = some (.bl false) := ne_IL [] []
  have es : ps.mergeSort lePc = ps := List.mergeSort_of_pairwise g.up
  have ee := (eq_Rz (by decide) (by decide) (by decide) (Rz_pcs g)).1
  have hsum : dSum [.lst (ps.map fun p => .int (uk p))] = some (.int ((ps.map uk).sum)) := by
    have := e_sum (ps.map uk)
    rw [List.map_map] at this
    exact this
  have hle := g.un
  have hso := sort_pcs ps
  rw [es] at hso
  have e1 : (mtOr (mtP (ptNot (pTr (pUn (dIsi "list") (pVar 0))))) (mtV (mBin dNe (mComp 0 (iSeq (mO (oVar 0))) (tName 1) (mtNot (mtTr (mCall 1 F_is_piece (mCons 0 (mO (oVar 1)) mNil)))) (mO (oVar 1)) [1]) (mLst 0 mNil)))) [some (0, PL ps), none, none, none] = some (false, [some (0, PL ps), none, none, none]) := by
    simp [isTy, hc, e0]
  have hso' : dSorted [D.lst (List.map (fun p : Pc => .tup [.int p.1, .int p.2]) ps)] = some (1, D.lst (List.map (fun p : Pc => .tup [.int p.1, .int p.2]) ps)) := hso
  have ee' : dEq (D.lst (List.map (fun p : Pc => .tup [.int p.1, .int p.2]) ps)) (D.lst (List.map (fun p : Pc => .tup [.int p.1, .int p.2]) ps)) = some (.bl true) := ee
  refine run0_rt (ρ := [some (0, PL ps), none, none, none]) (ρ' := [some (0, PL ps), none, none, none]) rfl ?_
  unfold m_is_piece_list
  rw [seq_nx (ρ1 := [some (0, PL ps), none, none, none]) (by rw [e_sIf, e1]; rfl)]
  simp [hso', ee', hu, hsum, hle]
theorem check_pieces_ok {ps : List Pc} (g : Good ps) : F_check_pieces [PL ps] = some (0, .non) := by
  simp [F_check_pieces, m_check_pieces, is_piece_list_ok g]
/-! ### what is told of a scale -/
def odS (s : Int) (p : Pc) : Bool := decide (p.1 = s) && decide (p.2 % 2 = 1)
def oks (ps : List Pc) (s : Int) : List Int := (ps.filter (odS s)).map (·.2)
def od (ps : List Pc) (s : Int) : Bool := !decide (oks ps s = [])
def smP (ps : List Pc) (s : Int) : Int := (oks ps s).sum
def mnS (s : Int) (p : Pc) : Bool := decide (p.1 = s) && decide (p.2 ∈ ([2, 3, 5] : List Int))
def sgn (n : Nat) : Int := if n % 2 = 1 then -1 else 1
def sgP (ps : List Pc) (s : Int) : Int := sgn (ps.filter (mnS s)).length
def ownS (ps : List Pc) (s : Int) : List Pc := ps.filter fun p => decide (p.1 = s)
def unP (ps : List Pc) (s : Int) : Int := ((ownS ps s).map uk).sum
theorem sgn_succ (n : Nat) : sgn (n + 1) = 0 - sgn n := by
  unfold sgn
  rcases Nat.mod_two_eq_zero_or_one n with h | h
  · rw [if_pos (by omega), if_neg (by omega)]; rfl
  · rw [if_neg (by omega), if_pos (by omega)]; rfl
theorem comp_odd (ps : List Pc) (s : Int) (hl : ps.length ≤ 1000) : mComp 0 (iSeq (mO (oVar 0))) (tTupT 2 (tsCons (tName 2) (tsCons (tName 3) tsNil))) (mtP (ptAnd (pB (pBin dEq (pVar 2) (pVar 1))) (pB (pBin dEq (pBin dMod (pCall dInt (pCons (pVar 3) pNil)) (pC (.int 2))) (pC (.int 1)))))) (mO (oVar 3)) [2, 3] [some (0, PL ps), some (0, I s), none, none]
    = some ((1, IL (oks ps s)), [some (0, PL ps), some (0, I s), none, none]) := by
  rw [comp_map (kc := 0) (ρ1 := [some (0, PL ps), some (0, I s), none, none]) (ρ0 := [some (0, PL ps), some (0, I s), none, none]) ps pcD (odS s) (fun p => .int p.2) (by simp) (by omega) rfl fun p hp => ⟨[some (0, PL ps), some (0, I s), some (0, .int p.1), some (0, .int p.2)], rfl, by
    by_cases h : p.1 = s <;> simp [odS, h], rfl, fun _ => ⟨0, by simp, by simp⟩⟩]
  simp [oks, IL]
theorem law_odd_ok (ps : List Pc) (s : Int) (hl : ps.length ≤ 1000) : F__law_odd [PL ps, I s] = some (0, .bl (od ps s)) := by
  refine run0_rt (ρ := [some (0, PL ps), some (0, I s), none, none]) (ρ' := [some (0, PL ps), some (0, I s), none, none]) rfl ?_
  unfold m__law_odd
  rw [e_sRet, e_mBin, comp_odd ps s hl]
  have := ne_IL0 (oks ps s)
  simp only [e_mLst, e_mNil, List.length_nil, le_size]
  simp only [show (0 : Nat) ≤ 16777216 by decide, if_true, this]
  rfl
theorem law_sum_ok (ps : List Pc) (s : Int) (hl : ps.length ≤ 1000) : F__law_sum [PL ps, I s] = some (0, I (smP ps s)) := by
  refine run0_rt (ρ := [some (0, PL ps), some (0, I s), none, none]) (ρ' := [some (0, PL ps), some (0, I s), none, none]) rfl ?_
  unfold m__law_sum
  rw [e_sRet, e_mCallF, e_mCons, comp_odd ps s hl]
  simp [smP]
theorem law_sign_ok (ps : List Pc) (s : Int) : F__law_sign [PL ps, I s] = some (0, I (sgP ps s)) := by
  obtain ⟨ρ', e, x3, x4, he⟩ := loopL (tg := tTupT 2 (tsCons (tName 3) (tsCons (tName 4) tsNil)))
    (body := sIf (mtAnd (mtP (pB (pBin dEq (pVar 3) (pVar 1)))) (mtV (mBin dInG (mO (oVar 4)) (mLst 0 (mCons 0 (mP (pC (.int 2))) (mCons 0 (mP (pC (.int 3))) (mCons 0 (mP (pC (.int 5))) mNil))))))) (sAsg 2 (mP (pBin dSub (pC (.int 0)) (pVar 2)))) sNx)
    ps pcD (fun i ρ => ∃ x3 x4, ρ = [some (0, PL ps), some (0, I s), some (0, I (sgn ((ps.take i).filter (mnS s)).length)), x3, x4])
    (ρ := [some (0, PL ps), some (0, I s), some (0, I 1), none, none]) ⟨none, none, by simp [sgn]⟩ fun i p ρ hi ⟨x3, x4, hρ⟩ => by
      subst hρ
      have ht : ps.take (i + 1) = ps.take i ++ [p] := by rw [List.take_add_one, hi]; rfl
      refine ⟨[some (0, PL ps), some (0, I s), some (0, I (sgn ((ps.take i).filter (mnS s)).length)), some (0, .int p.1), some (0, .int p.2)], [some (0, PL ps), some (0, I s), some (0, I (sgn ((ps.take (i + 1)).filter (mnS s)).length)), some (0, .int p.1), some (0, .int p.2)], rfl, ?_, _, _, rfl⟩
      have hin : dInG (.int p.2) (.lst [.int 2, .int 3, .int 5]) = some (.bl (decide (p.2 ∈ ([2, 3, 5] : List Int)))) := in_IL p.2 [2, 3, 5]
      rw [ht, List.filter_append, List.length_append]
      by_cases h1 : p.1 = s
      · by_cases h2 : p.2 ∈ ([2, 3, 5] : List Int)
        · have hm : mnS s p = true := by simp [mnS, h1, h2]
          rw [decide_eq_true h2] at hin
          have : sgn ((ps.take i).filter (mnS s)).length.succ = 0 - sgn ((ps.take i).filter (mnS s)).length := sgn_succ _
          rw [List.filter_cons_of_pos hm]
          simp [h1, hin, sgn_succ]
        · have hm : ¬ mnS s p = true := by simp [mnS, h2]
          rw [decide_eq_false h2] at hin
          rw [List.filter_cons_of_neg hm]
          simp [h1, hin]
      · have hm : ¬ mnS s p = true := by simp [mnS, h1]
        rw [List.filter_cons_of_neg hm]
        simp [h1]
  rw [List.take_length] at he
  subst he
  refine run0_rt (ρ := [some (0, PL ps), some (0, I s), none, none, none]) (ρ' := [some (0, PL ps), some (0, I s), some (0, I (sgP ps s)), x3, x4]) rfl ?_
  unfold m__law_sign
  rw [seq_nx (ρ1 := [some (0, PL ps), some (0, I s), some (0, I 1), none, none]) (by simp)]
  rw [seq_nx (for_nx (ds := ps.map pcD) (ρ1 := [some (0, PL ps), some (0, I s), some (0, I 1), none, none]) (by simp) e)]
  simp [sgP]
theorem law_unknowns_ok (ps : List Pc) (hl : ps.length ≤ 1000) : F__law_unknowns [PL ps] = some (0, I ((ps.map uk).sum)) := by
  have hu := comp_map1 (kc := 0) (it := iSeq (mO (oVar 0))) (tg := tTupT 2 (tsCons (tName 1) (tsCons (tName 2) tsNil))) (x := mP (pBin dSub (pC (.int 2)) (pBin dMod (pCall dInt (pCons (pVar 2) pNil)) (pC (.int 2))))) (own := [1, 2])
    (ρ := [some (0, PL ps), none, none]) (ρ1 := [some (0, PL ps), none, none]) (ρ0 := [some (0, PL ps), none, none])
    ps pcD (fun p => .int (uk p)) (by simp) (by omega) rfl fun p hp => ⟨[some (0, PL ps), some (0, .int p.1), some (0, .int p.2)], rfl, rfl, 0, by
      simp [uk], by simp⟩
  have hsum : dSum [.lst (ps.map fun p => .int (uk p))] = some (.int ((ps.map uk).sum)) := by
    have := e_sum (ps.map uk)
    rw [List.map_map] at this
    exact this
  refine run0_rt (ρ := [some (0, PL ps), none, none]) (ρ' := [some (0, PL ps), none, none]) rfl ?_
  unfold m__law_unknowns
  rw [e_sRet, e_mCallF, e_mCons, hu]
  simp [hsum]
def scs (ps : List Pc) : List Int := sset (ps.map (·.1))
theorem law_scales_ok (ps : List Pc) (hl : ps.length ≤ 63) : F__law_scales [PL ps] = some (1, IL (scs ps)) := by
  have hu := comp_map1 (kc := 0) (it := iSeq (mO (oVar 0))) (tg := tTupT 2 (tsCons (tName 1) (tsCons (tName 2) tsNil))) (x := mO (oVar 1)) (own := [1, 2])
    (ρ := [some (0, PL ps), none, none]) (ρ1 := [some (0, PL ps), none, none]) (ρ0 := [some (0, PL ps), none, none])
    ps pcD (fun p => .int p.1) (by simp) (by omega) rfl fun p hp => ⟨[some (0, PL ps), some (0, .int p.1), some (0, .int p.2)], rfl, rfl, 0, by simp, by simp⟩
  have hi : intsD (ps.map fun p => D.int p.1) = some (ps.map (·.1)) := by
    have := intsD_map (ps.map (·.1))
    rw [List.map_map] at this
    exact this
  refine run0_rt (ρ := [some (0, PL ps), none, none]) (ρ' := [some (0, PL ps), none, none]) rfl ?_
  unfold m__law_scales
  rw [e_sRet, e_mSortSet, hu]
  simp only [hi, List.length_map]
  rw [if_pos (by omega)]
  rfl
def kds (ps : List Pc) (s : Int) : List Int := (ps.filter fun p => decide (p.1 = s)).map (·.2)
def rowT (ps : List Pc) (s : Int) : D := .lst [.int (unP ps s), .bl (od ps s), .int (sgP ps s), .int (smP ps s)]
theorem kds_odd (ps : List Pc) (s : Int) : (kds ps s).filter (fun k => decide (k % 2 = 1)) = oks ps s := by
  unfold kds oks
  induction ps with
  | nil => rfl
  | cons p r ih =>
    by_cases h1 : p.1 = s <;> by_cases h2 : p.2 % 2 = 1 <;> simp [odS, h1, h2] at ih ⊢ <;> exact ih
theorem kds_minus (ps : List Pc) (s : Int) : ((kds ps s).filter (fun k => decide (k ∈ ([2, 3, 5] : List Int)))).length = (ps.filter (mnS s)).length := by
  unfold kds
  induction ps with
  | nil => rfl
  | cons p r ih =>
    by_cases h1 : p.1 = s <;> by_cases h2 : p.2 ∈ ([2, 3, 5] : List Int)
    · have hm : mnS s p = true := by simp only [mnS, h1, h2, decide_true, Bool.and_self]
      rw [List.filter_cons_of_pos (by simpa using h1), List.map_cons, List.filter_cons_of_pos (by simpa using h2), List.filter_cons_of_pos hm, List.length_cons, List.length_cons, ih]
    · have hm : ¬ mnS s p = true := by simp only [mnS, h2, decide_false, Bool.and_false]; decide
      rw [List.filter_cons_of_pos (by simpa using h1), List.map_cons, List.filter_cons_of_neg (by simpa using h2), List.filter_cons_of_neg hm, ih]
    · have hm : ¬ mnS s p = true := by simp only [mnS, h1, decide_false, Bool.false_and]; decide
      rw [List.filter_cons_of_neg (by simpa using h1), List.filter_cons_of_neg hm, ih]
    · have hm : ¬ mnS s p = true := by simp only [mnS, h1, decide_false, Bool.false_and]; decide
      rw [List.filter_cons_of_neg (by simpa using h1), List.filter_cons_of_neg hm, ih]
theorem kds_un (ps : List Pc) (s : Int) : ((oks ps s).length : Int) + 2 * (((kds ps s).length : Int) - ((oks ps s).length : Int)) = unP ps s := by
  unfold kds oks unP ownS
  induction ps with
  | nil => rfl
  | cons p r ih =>
    have hb := Int.emod_two_eq p.2
    by_cases h1 : p.1 = s <;> by_cases h2 : p.2 % 2 = 1
    · have hm : odS s p = true := by simp only [odS, h1, h2, decide_true, Bool.and_self]
      rw [List.filter_cons_of_pos hm, List.filter_cons_of_pos (by simpa using h1)]
      simp only [List.map_cons, List.length_cons, List.sum_cons, uk]
      simp only [uk] at ih
      omega
    · have hm : ¬ odS s p = true := by simp only [odS, h2, decide_false, Bool.and_false]; decide
      rw [List.filter_cons_of_neg hm, List.filter_cons_of_pos (by simpa using h1)]
      simp only [List.map_cons, List.length_cons, List.sum_cons, uk]
      simp only [uk] at ih
      omega
    · have hm : ¬ odS s p = true := by simp only [odS, h1, decide_false, Bool.false_and]; decide
      rw [List.filter_cons_of_neg hm, List.filter_cons_of_neg (by simpa using h1)]
      exact ih
    · have hm : ¬ odS s p = true := by simp only [odS, h1, decide_false, Bool.false_and]; decide
      rw [List.filter_cons_of_neg hm, List.filter_cons_of_neg (by simpa using h1)]
      exact ih
theorem ins1_len (x : Int) : ∀ l : List Int, (ins1 x l).length ≤ l.length + 1
  | [] => by simp [ins1]
  | y :: r => by
    unfold ins1
    split
    · simp
    · split
      · simp
      · have := ins1_len x r; simp; exact this
theorem sset_len : ∀ l : List Int, (sset l).length ≤ l.length
  | [] => by simp [sset]
  | x :: r => by
    have h1 := ins1_len x (sset r)
    have h2 := sset_len r
    show (ins1 x (sset r)).length ≤ r.length + 1
    omega
theorem scs_len (ps : List Pc) : (scs ps).length ≤ ps.length := by have := sset_len (ps.map (·.1)); rwa [List.length_map] at this
theorem kds_len (ps : List Pc) (s : Int) : (kds ps s).length ≤ ps.length := by
  unfold kds
  rw [List.length_map]
  exact List.length_filter_le _ _
theorem oks_len (ps : List Pc) (s : Int) : (oks ps s).length ≤ ps.length := by
  unfold oks
  rw [List.length_map]
  exact List.length_filter_le _ _
theorem tellings_ok (ps : List Pc) (hl : ps.length ≤ 63) : F_tellings [PL ps] = some (1, .tup [IL (scs ps), .lst ((scs ps).map (rowT ps))]) := by
  have hu := comp_map1 (kc := 0) (it := iSeq (mO (oVar 0))) (tg := tTupT 2 (tsCons (tName 1) (tsCons (tName 7) tsNil))) (x := mO (oVar 1)) (own := [1, 7])
    (ρ := [some (0, PL ps), none, none, none, none, none, none, none, none, none]) (ρ1 := [some (0, PL ps), none, none, none, none, none, none, none, none, none]) (ρ0 := [some (0, PL ps), none, none, none, none, none, none, none, none, none])
    ps pcD (fun p => .int p.1) (by simp) (by omega) rfl fun p hp => ⟨[some (0, PL ps), some (0, .int p.1), none, none, none, none, none, some (0, .int p.2), none, none], rfl, rfl, 0, by simp, by simp⟩
  have hi : intsD (ps.map fun p => D.int p.1) = some (ps.map (·.1)) := by
    have := intsD_map (ps.map (·.1))
    rw [List.map_map] at this
    exact this
  have hsl := scs_len ps
  obtain ⟨ρ', e, x1, x4, x5, x6, he⟩ := loopL (tg := tName 1)
    (body := (sSeq (sAsg 4 (mFz (mComp 0 (iSeq (mO (oVar 0))) (tTupT 2 (tsCons (tName 8) (tsCons (tName 9) tsNil))) (mtP (pB (pBin dEq (pVar 8) (pVar 1)))) (mO (oVar 9)) [8, 9])))
    (sSeq (sAsg 5 (mFz (mComp 0 (iSeq (mO (oVar 4))) (tName 9) (mtP (pB (pBin dEq (pBin dMod (pVar 9) (pC (.int 2))) (pC (.int 1))))) (mO (oVar 9)) [9])))
    (sSeq (sAsg 6 (mFz (mIf (mtV (mBin dEq (mBin dMod (mCallF (ofN dLen) (mCons 0 (mComp 0 (iSeq (mO (oVar 4))) (tName 9) (mtP (pB (pBin dInG (pVar 9) (pC (.tup [(.int 2), (.int 3), (.int 5)]))))) (mO (oVar 9)) [9]) mNil)) (mP (pC (.int 2)))) (mP (pC (.int 1))))) (mP (pUn dNeg (pC (.int 1)))) (mP (pC (.int 1))))))
    (sApp0 3 (mLst 0 (mCons 0 (mP (pBin dAdd (pCall dLen (pCons (pVar 5) pNil)) (pBin dMul (pC (.int 2)) (pBin dSub (pCall dLen (pCons (pVar 4) pNil)) (pCall dLen (pCons (pVar 5) pNil)))))) (mCons 0 (mBin dNe (mO (oVar 5)) (mLst 0 mNil)) (mCons 0 (mO (oVar 6)) (mCons 0 (mP (pCall dSum (pCons (pVar 5) pNil))) mNil))))))))))
    (scs ps) D.int (fun i ρ => ∃ x1 x4 x5 x6, ρ = [some (0, PL ps), x1, some (0, IL (scs ps)), some (1, .lst (((scs ps).take i).map (rowT ps))), x4, x5, x6, none, none, none])
    (ρ := [some (0, PL ps), none, some (0, IL (scs ps)), some (1, .lst []), none, none, none, none, none, none]) ⟨none, none, none, none, by simp⟩ fun i s ρ hi ⟨x1, x4, x5, x6, hρ⟩ => by
      subst hρ
      generalize hfd : ((scs ps).take i).map (rowT ps) = fd
      have hfl : fd.length ≤ 63 := by rw [← hfd, List.length_map, List.length_take]; omega
      have ht : ((scs ps).take (i + 1)).map (rowT ps) = fd ++ [rowT ps s] := by rw [List.take_add_one, hi, ← hfd]; simp
      rw [ht]
      have hk := kds_len ps s
      have ho := oks_len ps s
      have c1 := comp_map (kc := 0) (it := iSeq (mO (oVar 0))) (tg := tTupT 2 (tsCons (tName 8) (tsCons (tName 9) tsNil))) (t := mtP (pB (pBin dEq (pVar 8) (pVar 1)))) (x := mO (oVar 9)) (own := [8, 9])
        (ρ := [some (0, PL ps), some (0, I s), some (0, IL (scs ps)), some (1, .lst fd), x4, x5, x6, none, none, none]) (ρ1 := [some (0, PL ps), some (0, I s), some (0, IL (scs ps)), some (1, .lst fd), x4, x5, x6, none, none, none]) (ρ0 := [some (0, PL ps), some (0, I s), some (0, IL (scs ps)), some (1, .lst fd), x4, x5, x6, none, none, none])
        ps pcD (fun p => decide (p.1 = s)) (fun p => .int p.2) (by simp) (by omega) rfl fun p hp => ⟨[some (0, PL ps), some (0, I s), some (0, IL (scs ps)), some (1, .lst fd), x4, x5, x6, none, some (0, .int p.1), some (0, .int p.2)], rfl, by simp, rfl, fun _ => ⟨0, by simp, by simp⟩⟩
      have e1 : (ps.filter fun p => decide (p.1 = s)).map (fun p => D.int p.2) = (kds ps s).map D.int := by simp [kds]
      rw [e1] at c1
      have c2 := comp_map (kc := 0) (it := iSeq (mO (oVar 4))) (tg := tName 9) (t := mtP (pB (pBin dEq (pBin dMod (pVar 9) (pC (.int 2))) (pC (.int 1))))) (x := mO (oVar 9)) (own := [9])
        (ρ := [some (0, PL ps), some (0, I s), some (0, IL (scs ps)), some (1, .lst fd), some (0, IL (kds ps s)), x5, x6, none, none, none]) (ρ1 := [some (0, PL ps), some (0, I s), some (0, IL (scs ps)), some (1, .lst fd), some (0, IL (kds ps s)), x5, x6, none, none, none]) (ρ0 := [some (0, PL ps), some (0, I s), some (0, IL (scs ps)), some (1, .lst fd), some (0, IL (kds ps s)), x5, x6, none, none, none])
        (kds ps s) D.int (fun k => decide (k % 2 = 1)) (fun k => .int k) (by simp) (by omega) rfl fun k hk => ⟨[some (0, PL ps), some (0, I s), some (0, IL (scs ps)), some (1, .lst fd), some (0, IL (kds ps s)), x5, x6, none, none, some (0, I k)], rfl, by simp, rfl, fun _ => ⟨0, by simp, by simp⟩⟩
      rw [kds_odd] at c2
      have c3 := comp_map (kc := 0) (it := iSeq (mO (oVar 4))) (tg := tName 9) (t := mtP (pB (pBin dInG (pVar 9) (pC (.tup [(.int 2), (.int 3), (.int 5)]))))) (x := mO (oVar 9)) (own := [9])
        (ρ := [some (0, PL ps), some (0, I s), some (0, IL (scs ps)), some (1, .lst fd), some (0, IL (kds ps s)), some (0, IL (oks ps s)), x6, none, none, none]) (ρ1 := [some (0, PL ps), some (0, I s), some (0, IL (scs ps)), some (1, .lst fd), some (0, IL (kds ps s)), some (0, IL (oks ps s)), x6, none, none, none]) (ρ0 := [some (0, PL ps), some (0, I s), some (0, IL (scs ps)), some (1, .lst fd), some (0, IL (kds ps s)), some (0, IL (oks ps s)), x6, none, none, none])
        (kds ps s) D.int (fun k => decide (k ∈ ([2, 3, 5] : List Int))) (fun k => .int k) (by simp) (by omega) rfl fun k hk => ⟨[some (0, PL ps), some (0, I s), some (0, IL (scs ps)), some (1, .lst fd), some (0, IL (kds ps s)), some (0, IL (oks ps s)), x6, none, none, some (0, I k)], rfl, by
          have hin : dInG (.int k) (.tup [.int 2, .int 3, .int 5]) = some (.bl (decide (k ∈ ([2, 3, 5] : List Int)))) := in_IL k [2, 3, 5]
          simp only [e_mtP, e_pB, e_pBin, e_pVar, e_pC, List.getElem?_cons_succ, List.getElem?_cons_zero, Option.bind_some, hin], rfl, fun _ => ⟨0, by simp, by simp⟩⟩
      have hm := kds_minus ps s
      generalize (kds ps s).filter (fun k => decide (k ∈ ([2, 3, 5] : List Int))) = Lm at c3 hm
      refine ⟨[some (0, PL ps), some (0, I s), some (0, IL (scs ps)), some (1, .lst fd), x4, x5, x6, none, none, none], [some (0, PL ps), some (0, I s), some (0, IL (scs ps)), some (1, .lst (fd ++ [rowT ps s])), some (0, IL (kds ps s)), some (0, IL (oks ps s)), some (0, I (sgP ps s)), none, none, none], rfl, ?_, _, _, _, _, rfl⟩
      rw [seq_nx (ρ1 := [some (0, PL ps), some (0, I s), some (0, IL (scs ps)), some (1, .lst fd), some (0, IL (kds ps s)), x5, x6, none, none, none]) (by rw [e_sAsg, e_mFz, c1]; rfl)]
      rw [seq_nx (ρ1 := [some (0, PL ps), some (0, I s), some (0, IL (scs ps)), some (1, .lst fd), some (0, IL (kds ps s)), some (0, IL (oks ps s)), x6, none, none, none]) (by rw [e_sAsg, e_mFz, c2]; simp)]
      rw [seq_nx (ρ1 := [some (0, PL ps), some (0, I s), some (0, IL (scs ps)), some (1, .lst fd), some (0, IL (kds ps s)), some (0, IL (oks ps s)), some (0, I (sgP ps s)), none, none, none]) (by
        have hb : (mtV (mBin dEq (mBin dMod (mCallF (ofN dLen) (mCons 0 (mComp 0 (iSeq (mO (oVar 4))) (tName 9) (mtP (pB (pBin dInG (pVar 9) (pC (.tup [(.int 2), (.int 3), (.int 5)]))))) (mO (oVar 9)) [9]) mNil)) (mP (pC (.int 2)))) (mP (pC (.int 1))))) [some (0, PL ps), some (0, I s), some (0, IL (scs ps)), some (1, .lst fd), some (0, IL (kds ps s)), some (0, IL (oks ps s)), x6, none, none, none]
            = some (decide ((ps.filter (mnS s)).length % 2 = 1), [some (0, PL ps), some (0, I s), some (0, IL (scs ps)), some (1, .lst fd), some (0, IL (kds ps s)), some (0, IL (oks ps s)), x6, none, none, none]) := by
          rw [e_mtV, e_mBin, e_mBin, e_mCallF, e_mCons, c3]
          have : ((((ps.filter (mnS s)).length : Int) % 2 = 1)) ↔ (ps.filter (mnS s)).length % 2 = 1 := by omega
          simp [hm, this]
        rw [e_sAsg, e_mFz, e_mIf, hb]
        by_cases h : (ps.filter (mnS s)).length % 2 = 1
        · rw [decide_eq_true h]; simp [sgP, sgn, h]
        · rw [decide_eq_false h]
          have h' : (ps.filter (mnS s)).length % 2 = 0 := by omega
          simp [sgP, sgn, h'])]
      have hne := ne_IL0 (oks ps s)
      have hsu := e_sum (oks ps s)
      have hun := kds_un ps s
      have hok2 : okMul 2 (((kds ps s).length : Int) - ((oks ps s).length : Int)) = true := okMul_small (by omega) (by omega)
      rw [app0_ok (x := .non) (d := rowT ps s) (kc := 1) (ρ1 := [some (0, PL ps), some (0, I s), some (0, IL (scs ps)), some (1, .lst fd), some (0, IL (kds ps s)), some (0, IL (oks ps s)), some (0, I (sgP ps s)), none, none, none]) rfl (by
        simp [hne, hsu, hok2, hun, smP, od, rowT]) rfl (by omega) (by simp)]
      rfl
  rw [List.take_length] at he
  subst he
  refine run0_rt (ρ := [some (0, PL ps), none, none, none, none, none, none, none, none, none]) (ρ' := [some (0, PL ps), x1, some (0, IL (scs ps)), some (0, .lst ((scs ps).map (rowT ps))), x4, x5, x6, none, none, none]) rfl ?_
  unfold m_tellings
  rw [seq_nx (ρ1 := [some (0, PL ps), none, some (0, IL (scs ps)), none, none, none, none, none, none, none]) (by
    rw [e_sAsg, e_mFz, e_mSortSet, hu]
    simp only [hi, List.length_map]
    rw [if_pos (by omega)]
    rfl)]
  rw [seq_nx (ρ1 := [some (0, PL ps), none, some (0, IL (scs ps)), some (1, .lst []), none, none, none, none, none, none]) (by simp)]
  rw [seq_nx (for_nx (ds := (scs ps).map D.int) (ρ1 := [some (0, PL ps), none, some (0, IL (scs ps)), some (1, .lst []), none, none, none, none, none, none]) (by simp) e)]
  simp
/-! ### chains and ways, plain -/
section
variable (σ : Nat → Int) (o : Nat → Bool) (m : Nat → Int)
def linkC : Nat → Bool
  | 0 => false
  | j + 1 => decide (σ j = σ (j + 1) - 1) && o j
def FsC : Nat → List Int
  | 0 => []
  | i + 1 => if o i && !linkC σ o i then FsC i ++ [σ i] else FsC i
def nuC (a : Nat) : Option Nat := if o a then some ((FsC σ o (a + 1)).length - 1) else none
def csC (i k : Nat) : Int := (((List.range i).filter fun a => decide (nuC σ o a = some k)).map m).sum
def LC : Nat → List (Int × Int × Int)
  | 0 => []
  | i + 1 => if o i then (match (LC i).getLast? with
      | some t => if t.2.1 = σ i - 1 then (LC i).dropLast ++ [(t.1, σ i, t.2.2 + m i)] else LC i ++ [(σ i, σ i, m i)]
      | none => LC i ++ [(σ i, σ i, m i)]) else LC i
theorem FsC_mono : ∀ (i j : Nat), i ≤ j → (FsC σ o i).length ≤ (FsC σ o j).length := by
  intro i j h
  induction j with
  | zero => rw [Nat.le_zero.mp h]; exact Nat.le_refl _
  | succ j ih =>
    by_cases e : i = j + 1
    · rw [e]; exact Nat.le_refl _
    · have := ih (by omega)
      rw [FsC]
      split
      · rw [List.length_append]; simp; omega
      · exact this
theorem FsC_pos : ∀ (a : Nat), o a = true → 0 < (FsC σ o (a + 1)).length
  | 0, h => by rw [FsC]; simp [h, linkC]
  | a + 1, h => by
    rw [FsC]
    cases hl : linkC σ o (a + 1) with
    | false => simp [h]
    | true =>
      have ho : o a = true := by
        simp only [linkC, Bool.and_eq_true] at hl
        exact hl.2
      simpa [h] using FsC_pos a ho
theorem nuC_lt {a i k : Nat} (h : a < i) (e : nuC σ o a = some k) : k < (FsC σ o i).length := by
  unfold nuC at e
  split at e
  · rename_i ho
    cases e
    have h1 := FsC_pos σ o a ho
    have h2 := FsC_mono σ o (a + 1) i h
    omega
  · cases e
theorem csC_succ (i k : Nat) : csC σ o m (i + 1) k = csC σ o m i k + if nuC σ o i = some k then m i else 0 := by
  unfold csC
  rw [List.range_succ, List.filter_append, List.map_append, List.sum_append]
  by_cases h : nuC σ o i = some k
  · rw [List.filter_cons_of_pos (by simpa using h), if_pos h]; simp
  · rw [List.filter_cons_of_neg (by simpa using h), if_neg h]; simp
theorem csC_zero {i k : Nat} (h : (FsC σ o i).length ≤ k) : csC σ o m i k = 0 := by
  unfold csC
  have : (List.range i).filter (fun a => decide (nuC σ o a = some k)) = [] := by
    rw [List.filter_eq_nil_iff]
    intro a ha e
    have := nuC_lt σ o (List.mem_range.mp ha) (of_decide_eq_true e)
    omega
  rw [this]; rfl
theorem nuC_new {i : Nat} (ho : o i = true) (hl : linkC σ o i = false) : nuC σ o i = some (FsC σ o i).length := by
  unfold nuC
  rw [if_pos ho, FsC, ho, hl]
  simp
theorem nuC_link {i : Nat} (ho : o i = true) (hl : linkC σ o i = true) : nuC σ o i = some ((FsC σ o i).length - 1) := by
  unfold nuC
  rw [if_pos ho, FsC, ho, hl]
  simp
theorem FsC_get {i k : Nat} (h : k < (FsC σ o i).length) : ∀ {x : Int}, (FsC σ o i ++ [x]).getD k 0 = (FsC σ o i).getD k 0 := by
  intro x
  simp [List.getD_eq_getElem?_getD, List.getElem?_append_left h]
theorem LC_ok {n : Nat} (up : ∀ i j, i < j → j < n → σ i < σ j) : ∀ i, i ≤ n →
    (LC σ o m i).map (fun t => (t.1, t.2.2)) = (List.range (FsC σ o i).length).map (fun k => ((FsC σ o i).getD k 0, csC σ o m i k)) ∧
    (∀ t, (LC σ o m i).getLast? = some t → ∃ j, j < i ∧ o j = true ∧ σ j = t.2.1 ∧ ∀ j', j' < i → j < j' → o j' = false) ∧
    ((LC σ o m i).getLast? = none → ∀ j, j < i → o j = false) := by
  intro i
  induction i with
  | zero => exact fun _ => ⟨rfl, fun t h => by simp [LC] at h, fun _ j h => absurd h (by omega)⟩
  | succ i ih =>
    intro hn
    obtain ⟨p1, p2, p3⟩ := ih (by omega)
    cases ho : o i with
    | false =>
      have e1 : LC σ o m (i + 1) = LC σ o m i := by rw [LC]; simp [ho]
      have e2 : FsC σ o (i + 1) = FsC σ o i := by rw [FsC]; simp [ho]
      have e3 : ∀ k, csC σ o m (i + 1) k = csC σ o m i k := fun k => by
        rw [csC_succ]
        have : nuC σ o i = none := by unfold nuC; simp [ho]
        rw [this]; simp
      rw [e1, e2]
      refine ⟨by rw [p1]; exact List.map_congr_left fun k _ => by rw [e3 k], fun t ht => ?_, fun h j hj => ?_⟩
      · obtain ⟨j, h1, h2, h3, h4⟩ := p2 t ht
        refine ⟨j, by omega, h2, h3, fun j' h5 h6 => ?_⟩
        by_cases z : j' = i
        · rw [z]; exact ho
        · exact h4 j' (by omega) h6
      · by_cases z : j = i
        · rw [z]; exact ho
        · exact p3 h j (by omega)
    | true =>
      have last : ∀ (L : List (Int × Int × Int)) (t : Int × Int × Int), t.2.1 = σ i → LC σ o m (i + 1) = L ++ [t] → (∀ t, (LC σ o m (i + 1)).getLast? = some t → ∃ j, j < i + 1 ∧ o j = true ∧ σ j = t.2.1 ∧ ∀ j', j' < i + 1 → j < j' → o j' = false) ∧ ((LC σ o m (i + 1)).getLast? = none → ∀ j, j < i + 1 → o j = false) := by
        intro L t ht e
        rw [e]
        refine ⟨fun t' h' => ?_, fun h' => by simp at h'⟩
        rw [List.getLast?_concat] at h'
        cases h'
        exact ⟨i, by omega, ho, ht.symm, fun j' h1 h2 => absurd h1 (by omega)⟩
      have new : linkC σ o i = false → LC σ o m (i + 1) = LC σ o m i ++ [(σ i, σ i, m i)] → (LC σ o m (i + 1)).map (fun t => (t.1, t.2.2)) = (List.range (FsC σ o (i + 1)).length).map (fun k => ((FsC σ o (i + 1)).getD k 0, csC σ o m (i + 1) k)) := by
        intro hl e
        have e2 : FsC σ o (i + 1) = FsC σ o i ++ [σ i] := by rw [FsC]; simp [ho, hl]
        rw [e, e2, List.length_append, List.map_append, p1]
        simp only [List.length_cons, List.length_nil]
        rw [List.range_succ, List.map_append]
        congr 1
        · refine List.map_congr_left fun k hk => ?_
          have hk := List.mem_range.mp hk
          rw [FsC_get σ o hk, csC_succ, nuC_new σ o ho hl, if_neg (by intro z; cases z; omega)]
          simp
        · rw [List.map_cons, List.map_nil, List.map_cons, List.map_nil, csC_succ, nuC_new σ o ho hl, if_pos rfl, csC_zero σ o m (Nat.le_refl _)]
          simp
      cases hg : (LC σ o m i).getLast? with
      | none =>
        have hl : linkC σ o i = false := by
          cases i with
          | zero => rfl
          | succ j =>
            have := p3 hg j (by omega)
            simp [linkC, this]
        have e : LC σ o m (i + 1) = LC σ o m i ++ [(σ i, σ i, m i)] := by rw [LC]; simp [ho, hg]
        exact ⟨new hl e, last _ _ rfl e⟩
      | some t =>
        obtain ⟨j, h1, h2, h3, h4⟩ := p2 t hg
        have hlk : (t.2.1 = σ i - 1) ↔ linkC σ o i = true := by
          cases i with
          | zero => exact absurd h1 (by omega)
          | succ q =>
            simp only [linkC, Bool.and_eq_true, decide_eq_true_eq]
            constructor
            · intro hb
              have : j = q := by
                by_cases z : j = q
                · exact z
                · have := up j q (by omega) (by omega)
                  have := up q (q + 1) (by omega) (by omega)
                  omega
              subst this
              exact ⟨by omega, h2⟩
            · rintro ⟨ha, hb⟩
              have : j = q := by
                by_cases z : j = q
                · exact z
                · have := h4 q (by omega) (by omega)
                  rw [hb] at this; cases this
              subst this
              omega
        obtain ⟨L, hL⟩ : ∃ L, LC σ o m i = L ++ [t] := by
          have hne : LC σ o m i ≠ [] := fun z => by rw [z] at hg; cases hg
          refine ⟨(LC σ o m i).dropLast, ?_⟩
          have := List.dropLast_concat_getLast hne
          rw [List.getLast?_eq_some_getLast hne] at hg
          cases hg
          exact this.symm
        cases hl : linkC σ o i with
        | false =>
          have hb : ¬ t.2.1 = σ i - 1 := fun z => by rw [hlk.mp z] at hl; cases hl
          have e : LC σ o m (i + 1) = LC σ o m i ++ [(σ i, σ i, m i)] := by rw [LC]; simp [ho, hg, hb]
          exact ⟨new hl e, last _ _ rfl e⟩
        | true =>
          have hb := hlk.mpr hl
          have e : LC σ o m (i + 1) = L ++ [(t.1, σ i, t.2.2 + m i)] := by rw [LC]; simp [ho, hg, hb]; rw [hL]; simp
          refine ⟨?_, last _ _ rfl e⟩
          have e2 : FsC σ o (i + 1) = FsC σ o i := by rw [FsC]; simp [hl]
          rw [hL, List.map_append] at p1
          obtain ⟨K, hK⟩ : ∃ K, (FsC σ o i).length = K + 1 := by
            have := congrArg List.length p1
            simp at this
            exact ⟨_, this.symm⟩
          rw [e, e2, hK, List.range_succ, List.map_append, List.map_append]
          rw [hK, List.range_succ, List.map_append] at p1
          obtain ⟨q1, q2⟩ := List.append_inj' p1 (by simp)
          simp only [List.map_cons, List.map_nil, List.cons.injEq, Prod.mk.injEq, and_true] at q2
          congr 1
          · rw [q1]
            refine List.map_congr_left fun k hk => ?_
            have hk := List.mem_range.mp hk
            rw [csC_succ, nuC_link σ o ho hl, hK, if_neg (by intro z; cases z; omega)]
            simp
          · simp only [List.map_cons, List.map_nil]
            rw [csC_succ, nuC_link σ o ho hl, hK, if_pos (by rw [Nat.add_sub_cancel]), q2.1, q2.2]
/-! ways -/
variable (hg : Nat → Bool)
def stW : Nat → Nat
  | 0 => 0
  | i + 1 => if hg (i + 1) then stW i else i + 1
def mxW : Nat → Nat → Nat
  | 0, _ => 0
  | i + 1, a => if stW hg i = a then i else mxW i a
def LW : Nat → List (Int × Int)
  | 0 => []
  | i + 1 => (match (LW i).getLast? with
      | some t => if hg i then (LW i).dropLast ++ [(t.1, σ i)] else LW i ++ [(σ i, σ i)]
      | none => LW i ++ [(σ i, σ i)])
theorem stW_le : ∀ i, stW hg i ≤ i
  | 0 => Nat.le_refl _
  | i + 1 => by
    rw [stW]
    have := stW_le i
    split <;> omega
def AW (i : Nat) : List Nat := (List.range i).filter fun a => decide (stW hg a = a)
theorem mxW_succ (i a : Nat) : mxW hg (i + 1) a = if stW hg i = a then i else mxW hg i a := rfl
theorem AW_succ (i : Nat) : AW hg (i + 1) = AW hg i ++ if stW hg i = i then [i] else [] := by
  unfold AW
  rw [List.range_succ, List.filter_append]
  by_cases h : stW hg i = i
  · rw [if_pos h, List.filter_cons_of_pos (by simpa using h)]; rfl
  · rw [if_neg h, List.filter_cons_of_neg (by simpa using h)]; rfl
theorem AW_lt {i a : Nat} (h : a ∈ AW hg i) : a < i := List.mem_range.mp (List.mem_filter.mp h).1
theorem AW_last : ∀ i, ∃ A, AW hg (i + 1) = A ++ [stW hg i] ∧ ∀ a ∈ A, a ≠ stW hg i
  | 0 => ⟨[], by rw [AW_succ]; simp [AW, stW], by simp⟩
  | i + 1 => by
    obtain ⟨A, h1, h2⟩ := AW_last i
    rw [AW_succ]
    cases h : hg (i + 1) with
    | true =>
      have e : stW hg (i + 1) = stW hg i := by rw [stW, if_pos h]
      have := stW_le hg i
      rw [e, if_neg (by omega), List.append_nil]
      exact ⟨A, h1, h2⟩
    | false =>
      have e : stW hg (i + 1) = i + 1 := by rw [stW, if_neg (by rw [h]; decide)]
      rw [e, if_pos rfl]
      exact ⟨AW hg (i + 1), rfl, fun a ha => by have := AW_lt hg ha; omega⟩
theorem LW_ok : ∀ i, LW σ hg i = (AW hg i).map fun a => (σ a, σ (mxW hg i a))
  | 0 => rfl
  | 0 + 1 => by rw [LW, AW_succ]; simp [LW, AW, stW, mxW]
  | i + 1 + 1 => by
    have ih := LW_ok (i + 1)
    obtain ⟨A, h1, h2⟩ := AW_last hg i
    have hl : (LW σ hg (i + 1)).getLast? = some (σ (stW hg i), σ (mxW hg (i + 1) (stW hg i))) := by
      rw [ih, h1, List.map_append]; simp
    rw [LW, hl, AW_succ]
    cases h : hg (i + 1) with
    | true =>
      have e : stW hg (i + 1) = stW hg i := by rw [stW, if_pos h]
      have := stW_le hg i
      simp only [if_true]
      rw [e, if_neg (by omega), List.append_nil, ih, h1, List.map_append, List.map_append]
      simp only [List.map_cons, List.map_nil, List.dropLast_concat]
      congr 1
      · refine List.map_congr_left fun a ha => ?_
        rw [mxW_succ hg (i + 1) a, e, if_neg (fun z => h2 a ha z.symm)]
      · rw [mxW_succ hg (i + 1) (stW hg i), e, if_pos rfl]
    | false =>
      have e : stW hg (i + 1) = i + 1 := by rw [stW, if_neg (by rw [h]; decide)]
      simp only [Bool.false_eq_true, if_false]
      rw [e, if_pos rfl, ih, List.map_append]
      congr 1
      · refine List.map_congr_left fun a ha => ?_
        have := AW_lt hg ha
        rw [mxW_succ hg (i + 1) a, e, if_neg (by omega)]
      · simp only [List.map_cons, List.map_nil]
        rw [mxW_succ hg (i + 1) (i + 1), e, if_pos rfl]
theorem LW_last (i : Nat) : ∃ x, (LW σ hg (i + 1)).getLast? = some (x, σ i) := by
  obtain ⟨A, h1, h2⟩ := AW_last hg i
  refine ⟨σ (stW hg i), ?_⟩
  rw [LW_ok, h1, List.map_append]
  simp [mxW_succ]
end
/-! ### chained, way_starts -/
def optD : Option Nat → D
  | none => .non
  | some n => .int (n : Int)
def rw4 (u : Nat → Int) (o : Nat → Bool) (g m : Nat → Int) (i : Nat) : D := .lst [.int (u i), .bl (o i), .int (g i), .int (m i)]
theorem loopE {tg : D → Mn.Env → Option Mn.Env} {body : Mn.Env → Option Out} (n : Nat) (e : Nat → D) (Inv : Nat → Mn.Env → Prop) {ρ : Mn.Env} (h0 : Inv 0 ρ)
    (st : ∀ (i : Nat) (ρ : Mn.Env), i < n → Inv i ρ → ∃ ρ1 ρ2, tg (.tup [.int (i : Int), e i]) ρ = some ρ1 ∧ body ρ1 = some (.nx ρ2) ∧ Inv (i + 1) ρ2) : ∃ ρ', mLoop tg body (enumD 0 ((List.range n).map e)) ρ = some (.nx ρ') ∧ Inv n ρ' := by
  rw [enum_range]
  obtain ⟨ρ', e', h⟩ := loopL (tg := tg) (body := body) (List.range n) (fun i : Nat => .tup [.int (i : Int), e i]) Inv h0 fun i a ρ ha hi => by
    by_cases q : i < n
    · rw [List.getElem?_range q] at ha
      cases ha
      exact st i ρ q hi
    · rw [List.getElem?_eq_none (by simpa using q)] at ha; cases ha
  exact ⟨ρ', e', by simpa using h⟩
theorem FsC_le (σ : Nat → Int) (o : Nat → Bool) : ∀ i, (FsC σ o i).length ≤ i
  | 0 => Nat.le_refl _
  | i + 1 => by
    have := FsC_le σ o i
    rw [FsC]
    split
    · rw [List.length_append]; simp; omega
    · omega
theorem map_snoc {α β : Type} (f : Nat → β) (i : Nat) : (List.range (i + 1)).map f = (List.range i).map f ++ [f i] := by rw [@List.range_succ i, List.map_append]; rfl
theorem chained_ok (n : Nat) (hn : n ≤ 63) (σ : Nat → Int) (o : Nat → Bool) (u g m : Nat → Int) : F_chained [IL ((List.range n).map σ), .lst ((List.range n).map (rw4 u o g m))]
    = some (1, .tup [.lst ((List.range n).map fun a => optD (nuC σ o a)), IL (FsC σ o n)]) := by
  generalize hS : IL ((List.range n).map σ) = S
  generalize hT : D.lst ((List.range n).map (rw4 u o g m)) = T
  obtain ⟨ρ', e, x4, x5, he⟩ := loopE (tg := (tTupT 2 (tsCons (tName 4) (tsCons (tName 5) tsNil))))
    (body := (sIf (mtP (ptNot (pTr (pBin dIx (pBin dIx (pVar 1) (pVar 4)) (pC (.int 1)))))) (sApp0 2 (mP (pC .non))) (sIf (mtP (ptAnd (pB (pBin dGt (pVar 4) (pC (.int 0)))) (ptAnd (pB (pBin dEq (pBin dIx (pVar 0) (pBin dSub (pVar 4) (pC (.int 1)))) (pBin dSub (pVar 5) (pC (.int 1))))) (pTr (pBin dIx (pBin dIx (pVar 1) (pBin dSub (pVar 4) (pC (.int 1)))) (pC (.int 1))))))) (sApp0 2 (mO (oIx (oVar 2) (pBin dSub (pVar 4) (pC (.int 1)))))) (sSeq (sApp0 2 (mP (pCall dLen (pCons (pVar 3) pNil))))
    (sApp0 3 (mO (oVar 5)))))))
    n (fun i => .int (σ i)) (fun i ρ => ∃ x4 x5, ρ = [some (0, S), some (0, T), some (1, .lst ((List.range i).map fun a => optD (nuC σ o a))), some (1, IL (FsC σ o i)), x4, x5])
    (ρ := [some (0, S), some (0, T), some (1, .lst []), some (1, .lst []), none, none]) ⟨none, none, rfl⟩ fun i ρ hi ⟨x4, x5, hρ⟩ => by
      subst hρ
      have hF := FsC_le σ o i
      have hat : ∀ j, j < n → (pTr (pBin dIx (pBin dIx (pVar 1) (pVar 4)) (pC (.int 1)))) [some (0, S), some (0, T), some (1, .lst ((List.range i).map fun a => optD (nuC σ o a))), some (1, IL (FsC σ o i)), some (0, I j), some (0, I (σ i))] = some (o j) := fun j hj => by
        subst hT
        simp [atI_nat', hj, rw4]
      refine ⟨[some (0, S), some (0, T), some (1, .lst ((List.range i).map fun a => optD (nuC σ o a))), some (1, IL (FsC σ o i)), some (0, I i), some (0, I (σ i))], [some (0, S), some (0, T), some (1, .lst ((List.range (i + 1)).map fun a => optD (nuC σ o a))), some (1, IL (FsC σ o (i + 1))), some (0, I i), some (0, I (σ i))], rfl, ?_, _, _, rfl⟩
      rw [map_snoc (α := Nat)]
      have hlen : ((List.range i).map fun a => optD (nuC σ o a)).length = i := by simp
      generalize hN : ((List.range i).map fun a => optD (nuC σ o a)) = N
      rw [hN] at hat hlen
      cases ho : o i with
      | false =>
        have e1 : FsC σ o (i + 1) = FsC σ o i := by rw [FsC]; simp [ho]
        have e2 : nuC σ o i = none := by unfold nuC; simp [ho]
        rw [e_sIf, e_mtP, e_ptNot, hat i hi, ho, e1, e2]
        show sApp0 _ _ _ = _
        rw [app0_ok (x := .non) (d := .non) (kc := 0) (ρ1 := [some (0, S), some (0, T), some (1, .lst N), some (1, IL (FsC σ o i)), some (0, I i), some (0, I (σ i))]) rfl rfl rfl (by omega) rfl]
        rfl
      | true =>
        rw [e_sIf, e_mtP, e_ptNot, hat i hi, ho]
        show sIf _ _ _ _ = _
        have hl : (mtP (ptAnd (pB (pBin dGt (pVar 4) (pC (.int 0)))) (ptAnd (pB (pBin dEq (pBin dIx (pVar 0) (pBin dSub (pVar 4) (pC (.int 1)))) (pBin dSub (pVar 5) (pC (.int 1))))) (pTr (pBin dIx (pBin dIx (pVar 1) (pBin dSub (pVar 4) (pC (.int 1)))) (pC (.int 1))))))) [some (0, S), some (0, T), some (1, .lst N), some (1, IL (FsC σ o i)), some (0, I i), some (0, I (σ i))]
            = some (linkC σ o i, [some (0, S), some (0, T), some (1, .lst N), some (1, IL (FsC σ o i)), some (0, I i), some (0, I (σ i))]) := by
          cases i with
          | zero => simp [linkC]
          | succ j =>
            subst hS hT
            have hj : j < n := by omega
            by_cases hc : σ j = σ (j + 1) - 1 <;> simp [linkC, hc, atI_nat', hj, rw4]
        rw [e_sIf, hl]
        cases hk : linkC σ o i with
        | true =>
          have e1 : FsC σ o (i + 1) = FsC σ o i := by rw [FsC]; simp [hk]
          cases i with
          | zero => cases hk
          | succ j =>
            have hoj : o j = true := by
              simp only [linkC, Bool.and_eq_true] at hk
              exact hk.2
            have e2 : nuC σ o (j + 1) = nuC σ o j := by
              unfold nuC
              rw [if_pos ho, if_pos hoj, e1]
            rw [e1, e2]
            show sApp0 _ _ _ = _
            rw [app0_ok (x := .non) (d := optD (nuC σ o j)) (kc := 0) (ρ1 := [some (0, S), some (0, T), some (1, .lst N), some (1, IL (FsC σ o (j + 1))), some (0, I ((j + 1 : Nat) : Int)), some (0, I (σ (j + 1)))]) rfl (by
              subst hN
              simp [atI_nat']) rfl (by omega) (by simp)]
            rfl
        | false =>
          have e1 : FsC σ o (i + 1) = FsC σ o i ++ [σ i] := by rw [FsC]; simp [ho, hk]
          have e2 : nuC σ o i = some (FsC σ o i).length := nuC_new σ o ho hk
          rw [e1, e2]
          show sSeq _ _ _ = _
          rw [seq_nx (app0_ok (x := .non) (d := .int (FsC σ o i).length) (kc := 0) (ρ1 := [some (0, S), some (0, T), some (1, .lst N), some (1, IL (FsC σ o i)), some (0, I i), some (0, I (σ i))]) rfl (by simp) rfl (by omega) rfl)]
          show sApp0 _ _ [some (0, S), some (0, T), some (1, .lst (N ++ [.int (FsC σ o i).length])), some (1, IL (FsC σ o i)), some (0, I i), some (0, I (σ i))] = _
          rw [app0_ok (x := .non) (d := .int (σ i)) (kc := 0) (ρ1 := [some (0, S), some (0, T), some (1, .lst (N ++ [.int (FsC σ o i).length])), some (1, IL (FsC σ o i)), some (0, I i), some (0, I (σ i))]) rfl rfl rfl (by rw [List.length_map]; omega) rfl]
          simp [optD, IL]
  subst he
  refine run0_rt (ρ := [some (0, S), some (0, T), none, none, none, none]) (ρ' := [some (0, S), some (0, T), some (0, .lst ((List.range n).map fun a => optD (nuC σ o a))), some (0, IL (FsC σ o n)), x4, x5]) rfl ?_
  unfold m_chained
  rw [seq_nx (ρ1 := [some (0, S), some (0, T), some (1, .lst []), some (1, .lst []), none, none]) (by simp)]
  rw [seq_nx (for_nx (ρ1 := [some (0, S), some (0, T), some (1, .lst []), some (1, .lst []), none, none]) (ds := enumD 0 ((List.range n).map fun i => D.int (σ i))) (by subst hS; simp [iEnumM, Function.comp_def]) e)]
  simp
/-! ### ways_of, chains_of, signs_of -/
def hangW (σ : Nat → Int) (o : Nat → Bool) : Nat → Bool
  | 0 => false
  | j + 1 => if σ (j + 1) - σ j = 1 then o (j + 1) || o j else decide (σ (j + 1) - σ j = 2) && (o (j + 1) && o j)
theorem hangs_ok (n j : Nat) (hj : j + 1 < n) (σ : Nat → Int) (o : Nat → Bool) (u g m : Nat → Int) : F_hangs [IL ((List.range n).map σ), .lst ((List.range n).map (rw4 u o g m)), I ((j + 1 : Nat) : Int)] = some (0, .bl (hangW σ o (j + 1))) := by
  have hj0 : j < n := by omega
  have e1 : atI ((List.range n).map (D.int ∘ σ)) ((j : Int) + 1) = some (.int (σ (j + 1))) := by
    rw [show ((j : Int) + 1) = ((j + 1 : Nat) : Int) from rfl, atI_nat']
    simp [hj]
  have e2 : atI ((List.range n).map (rw4 u o g m)) ((j : Int) + 1) = some (rw4 u o g m (j + 1)) := by
    rw [show ((j : Int) + 1) = ((j + 1 : Nat) : Int) from rfl, atI_nat']
    simp [hj]
  have e3 : atI ((List.range n).map (D.int ∘ σ)) (j : Int) = some (.int (σ j)) := by
    rw [atI_nat']
    simp [hj0]
  have e4 : atI ((List.range n).map (rw4 u o g m)) (j : Int) = some (rw4 u o g m j) := by
    rw [atI_nat']
    simp [hj0]
  by_cases h1 : σ (j + 1) - σ j = 1
  · cases ha : o (j + 1) <;> cases hb : o j <;> simp [F_hangs, m_hangs, e1, e2, e3, e4, h1, rw4, hangW, ha, hb]
  · by_cases h2 : σ (j + 1) - σ j = 2
    · cases ha : o (j + 1) <;> cases hb : o j <;> simp [F_hangs, m_hangs, e1, e2, e3, e4, h2, rw4, hangW, ha, hb]
    · cases ha : o (j + 1) <;> cases hb : o j <;> simp [F_hangs, m_hangs, e1, e2, e3, e4, h1, h2, rw4, hangW, ha, hb]
theorem way_starts_ok (n : Nat) (hn : n ≤ 63) (σ : Nat → Int) (o : Nat → Bool) (u g m : Nat → Int) : F_way_starts [IL ((List.range n).map σ), .lst ((List.range n).map (rw4 u o g m))]
    = some (1, .lst ((List.range n).map fun i => .int (stW (hangW σ o) i))) := by
  have hh : ∀ j, j + 1 < n → _ := fun j hj => hangs_ok n j hj σ o u g m
  have hlS : dLen [IL ((List.range n).map σ)] = some (.int n) := by simp
  generalize IL ((List.range n).map σ) = S at hh hlS
  generalize D.lst ((List.range n).map (rw4 u o g m)) = T at hh
  obtain ⟨ρ', e, x3, he⟩ := loopR (tg := tName 3)
    (body := (sApp0 2 (mIf (mtAnd (mtP (pB (pBin dGt (pVar 3) (pC (.int 0))))) (mtTr (mCall 3 F_hangs (mCons 0 (mO (oVar 0)) (mCons 0 (mO (oVar 1)) (mCons 0 (mO (oVar 3)) mNil)))))) (mO (oIx (oVar 2) (pBin dSub (pVar 3) (pC (.int 1))))) (mO (oVar 3)))))
    n (fun i ρ => ∃ x3, ρ = [some (0, S), some (0, T), some (1, .lst ((List.range i).map fun i => .int (stW (hangW σ o) i))), x3])
    (ρ := [some (0, S), some (0, T), some (1, .lst []), none]) ⟨none, rfl⟩ fun i ρ hi ⟨x3, hρ⟩ => by
      subst hρ
      refine ⟨[some (0, S), some (0, T), some (1, .lst ((List.range i).map fun i => .int (stW (hangW σ o) i))), some (0, I i)], [some (0, S), some (0, T), some (1, .lst ((List.range (i + 1)).map fun i => .int (stW (hangW σ o) i))), some (0, I i)], rfl, ?_, _, rfl⟩
      rw [map_snoc (α := Nat)]
      rw [app0_ok (x := .non) (d := .int (stW (hangW σ o) i)) (kc := 0) (ρ1 := [some (0, S), some (0, T), some (1, .lst ((List.range i).map fun i => .int (stW (hangW σ o) i))), some (0, I i)]) rfl (by
        cases i with
        | zero => simp [stW]
        | succ j =>
          have hq := hh j hi
          have ej : (I ((j + 1 : Nat) : Int)) = .int ((j : Int) + 1) := rfl
          rw [ej] at hq
          cases hb : hangW σ o (j + 1) with
          | true =>
            rw [hb] at hq
            have hj : j < j + 1 := by omega
            have : atI ((List.range (j + 1)).map fun i => D.int (stW (hangW σ o) i)) (j : Int) = some (.int (stW (hangW σ o) j)) := by
              rw [atI_nat']; simp
            simp [hq, this, stW, hb]
          | false =>
            rw [hb] at hq
            simp [hq, stW, hb]) rfl (by simp; omega) rfl]
      rfl
  subst he
  refine run0_rt (ρ := [some (0, S), some (0, T), none, none]) (ρ' := [some (0, S), some (0, T), none, x3]) rfl ?_
  unfold m_way_starts
  rw [seq_nx (ρ1 := [some (0, S), some (0, T), some (1, .lst []), none]) (by simp)]
  rw [seq_nx (for_nx (ρ1 := [some (0, S), some (0, T), some (1, .lst []), none]) (ds := rng 0 1 n) (by
    rw [e_rg1 (j := n) (ρ1 := [some (0, S), some (0, T), some (1, .lst []), none]) (by simp [hlS]), okRng_nat (by omega)]
    simp) e)]
  simp
theorem mxW_spec (hg : Nat → Bool) (a : Nat) : ∀ n, (∃ p, p < n ∧ stW hg p = a) → mxW hg n a < n ∧ stW hg (mxW hg n a) = a ∧ ∀ p, p < n → stW hg p = a → p ≤ mxW hg n a
  | 0, ⟨p, h, _⟩ => absurd h (by omega)
  | n + 1, ⟨p, h, e⟩ => by
    rw [mxW_succ]
    by_cases z : stW hg n = a
    · rw [if_pos z]
      exact ⟨by omega, z, fun q hq _ => by omega⟩
    · rw [if_neg z]
      have hp : p < n := by
        by_cases y : p = n
        · rw [y] at e; exact absurd e z
        · omega
      obtain ⟨h1, h2, h3⟩ := mxW_spec hg a n ⟨p, hp, e⟩
      refine ⟨by omega, h2, fun q hq hs => h3 q ?_ hs⟩
      by_cases y : q = n
      · rw [y] at hs; exact absurd hs z
      · omega
theorem iEnumM_eq {ms : Mn.Env → Option (List D × Mn.Env)} {ρ ρ1 : Mn.Env} {l : List D} (h : ms ρ = some ([.lst l], ρ1)) : iEnumM ms ρ = some (enumD 0 l, ρ1) := by
  unfold iEnumM; rw [h]
def sgm (ps : List Pc) (i : Nat) : Int := (scs ps).getD i 0
def oP (ps : List Pc) (i : Nat) : Bool := od ps (sgm ps i)
def mP' (ps : List Pc) (i : Nat) : Int := smP ps (sgm ps i)
abbrev rwP (ps : List Pc) : Nat → D := rw4 (fun i => unP ps (sgm ps i)) (oP ps) (fun i => sgP ps (sgm ps i)) (mP' ps)
theorem lst_fun (l : List Int) : l = (List.range l.length).map fun i => l.getD i 0 := by
  refine List.ext_getElem? fun i => ?_
  rw [List.getElem?_map]
  by_cases h : i < l.length
  · rw [List.getElem?_range h, List.getElem?_eq_getElem h]
    simp [List.getD_eq_getElem?_getD, List.getElem?_eq_getElem h]
  · rw [List.getElem?_eq_none (by omega), List.getElem?_eq_none (by simp; omega)]; rfl
theorem scs_range (ps : List Pc) : scs ps = (List.range (scs ps).length).map (sgm ps) := lst_fun (scs ps)
theorem map_scs {α : Type} (ps : List Pc) (f : Int → α) : (scs ps).map f = (List.range (scs ps).length).map fun i => f (sgm ps i) := by
  have := congrArg (List.map f) (scs_range ps)
  rw [List.map_map] at this
  exact this
theorem tell_range (ps : List Pc) (hl : ps.length ≤ 63) : F_tellings [PL ps] = some (1, .tup [IL ((List.range (scs ps).length).map (sgm ps)), .lst ((List.range (scs ps).length).map (rwP ps))]) := by
  rw [tellings_ok ps hl]
  have h1 := map_scs ps (rowT ps)
  rw [h1]
  have h2 := scs_range ps
  rw [← h2]
  rfl
theorem zipD_self {α : Type} (e f : α → D) : ∀ l : List α, zipD (l.map e) (l.map f) = l.map fun a => .tup [e a, f a]
  | [] => rfl
  | a :: r => by rw [List.map_cons, List.map_cons, zipD, zipD_self e f r, List.map_cons]
def sigT (ps : List Pc) (s : Int) : D := .tup [.int s, .int (unP ps s), .bl (od ps s), .int (sgP ps s)]
theorem dEq_optD (x : Option Nat) (k : Nat) : dEq (optD x) (.int (k : Int)) = some (.bl (decide (x = some k))) := by
  cases x with
  | none =>
    have : dEq (.non) (.int (k : Int)) = some (.bl false) := by simp [dEq, toP, SeqAt.shaped, PyData.canLay0, PyData.depth, PyData.eqv]
    rw [optD, this]; simp
  | some n =>
    rw [optD, eq_I]
    by_cases h : n = k
    · simp [h]
    · have h' : ¬ ((n : Int) = k) := by omega
      simp [h, h']
theorem at_last (A : List D) (d : D) : atI (A ++ [d]) (((A ++ [d]).length : Int) - 1) = some d := by
  rw [show (((A ++ [d]).length : Int) - 1) = (A.length : Int) by simp, atI_nat']
  simp
theorem pop_ok {i k : Nat} {A : List D} {d : D} {ρ : Mn.Env} (e : ρ[i]? = some (some (k + 1, .lst (A ++ [d])))) : mPop i ρ = some ((k, d), ρ.set i (some (k + 1, .lst A))) := by
  rw [e_mPop, e]
  simp
theorem loopN {tg : D → Mn.Env → Option Mn.Env} {body : Mn.Env → Option Out} (n : Nat) (e : Nat → D) (Inv : Nat → Mn.Env → Prop) {ρ : Mn.Env} (h0 : Inv 0 ρ)
    (st : ∀ (i : Nat) (ρ : Mn.Env), i < n → Inv i ρ → ∃ ρ1 ρ2, tg (e i) ρ = some ρ1 ∧ body ρ1 = some (.nx ρ2) ∧ Inv (i + 1) ρ2) : ∃ ρ', mLoop tg body ((List.range n).map e) ρ = some (.nx ρ') ∧ Inv n ρ' := by
  obtain ⟨ρ', e', h⟩ := loopL (tg := tg) (body := body) (List.range n) e Inv h0 fun i a ρ ha hi => by
    by_cases q : i < n
    · rw [List.getElem?_range q] at ha
      cases ha
      exact st i ρ q hi
    · rw [List.getElem?_eq_none (by simpa using q)] at ha; cases ha
  exact ⟨ρ', e', by simpa using h⟩
theorem snoc_of {α : Type} {l : List α} {t : α} (h : l.getLast? = some t) : ∃ A, l = A ++ [t] := by
  have hne : l ≠ [] := fun z => by rw [z] at h; cases h
  refine ⟨l.dropLast, ?_⟩
  have := List.dropLast_concat_getLast hne
  rw [List.getLast?_eq_some_getLast hne] at h
  cases h
  exact this.symm
theorem ne_snoc (A : List (List Int)) (t : List Int) : dNe (.lst ((A ++ [t]).map fun r => .lst (r.map D.int))) (.lst []) = some (.bl true) := by
  rw [ne_IM0]; simp
theorem LC_len (σ : Nat → Int) (o : Nat → Bool) (m : Nat → Int) : ∀ i, (LC σ o m i).length ≤ i
  | 0 => Nat.le_refl _
  | i + 1 => by
    have ih := LC_len σ o m i
    rw [LC]
    split
    · split
      · split <;> rw [List.length_append] <;> simp <;> omega
      · rw [List.length_append]; simp; omega
    · omega
def chR (t : Int × Int × Int) : List Int := [t.1, t.2.1, t.2.2]
theorem notIn_bl {α : Type} (l : List α) (f : α → Bool) : dNotInG (.bl false) (.lst (l.map fun t => .bl (f t))) = some (.bl (l.all f)) := by
  have h1 : toPL (l.map fun t => D.bl (f t)) = some (l.map fun t => .bool (f t)) := toPL_mapL _ _ l fun _ _ => rfl
  have h2 : PyData.canLayAll0 (l.map fun t => .bool (f t)) = true := by
    induction l with
    | nil => rfl
    | cons a r ih => simp [PyData.canLayAll0, PyData.canLay0]; exact ih (toPL_mapL _ _ r fun _ _ => rfl)
  have h3 : PyData.depthAll (l.map fun t => .bool (f t)) = 0 := by
    clear h1 h2
    induction l with
    | nil => rfl
    | cons a r ih => simp [PyData.depthAll, PyData.depth]; exact ih
  have h4 : ((l.map fun t => PyData.bool (f t)).any fun z => PyData.eqv z (.bool false)) = !l.all f := by
    clear h1 h2 h3
    induction l with
    | nil => rfl
    | cons a r ih =>
      rw [List.map_cons, List.any_cons, ih, List.all_cons]
      cases f a <;> simp [PyData.eqv]
  have h5 : SeqAt.shaped (.list (l.map fun t => .bool (f t))) = true := by simp [SeqAt.shaped, PyData.canLay0, PyData.depth, h2, h3]
  have h6 : SeqAt.shaped (.bool false) = true := by simp [SeqAt.shaped, PyData.canLay0, PyData.depth]
  simp only [dNotInG, seqP, toP, h1, h5, h6, h4, Bool.and_self, if_true, Bool.not_not]
theorem ne_bl {α : Type} (l : List α) (f : α → Bool) : dNe (.lst (l.map fun t => .bl (f t))) (.lst []) = some (.bl (!decide (l.length = 0))) := by
  have h1 : toPL (l.map fun t => D.bl (f t)) = some (l.map fun t => .bool (f t)) := toPL_mapL _ _ l fun _ _ => rfl
  have h2 : PyData.canLayAll0 (l.map fun t => .bool (f t)) = true := by
    induction l with
    | nil => rfl
    | cons a r ih => simp [PyData.canLayAll0, PyData.canLay0]; exact ih (toPL_mapL _ _ r fun _ _ => rfl)
  have h3 : PyData.depthAll (l.map fun t => .bool (f t)) = 0 := by
    clear h1 h2
    induction l with
    | nil => rfl
    | cons a r ih => simp [PyData.depthAll, PyData.depth]; exact ih
  have h5 : SeqAt.shaped (.list (l.map fun t => .bool (f t))) = true := by simp [SeqAt.shaped, PyData.canLay0, PyData.depth, h2, h3]
  have h6 : SeqAt.shaped (.list []) = true := by simp [SeqAt.shaped, PyData.canLay0, PyData.depth, PyData.canLayAll0, PyData.depthAll]
  have h4 : PyData.eqv (.list (l.map fun t => .bool (f t))) (.list []) = decide (l.length = 0) := by
    cases l <;> simp [PyData.eqv, PyData.eqvAll]
  simp only [dNe, toP, h1, toPL, h5, h6, h4, Bool.and_self, if_true]
def stF (O : Int → Bool) (low : Int) (t : Nat) : Bool := O (low + (t : Int) * 1) || O (low + (t : Int) * 1 + 1)
def stC (low scale : Int) : Nat := ((if low + 4 < scale then low + 4 else scale) - low).toNat
theorem steps_hang (O : Int → Bool) (a b : Bool) (low scale : Int) (h : low < scale) (ha : O low = a) (hb : O scale = b) (hz : ∀ z, low < z → z < scale → O z = false) :
    ((List.range (stC low scale)).all (stF O low) && (!decide (stC low scale = 0) && decide (scale - low < 4))) = if scale - low = 1 then b || a else decide (scale - low = 2) && (b && a) := by
  by_cases h1 : scale - low = 1
  · have e : stC low scale = 1 := by unfold stC; split <;> omega
    have e2 : scale = low + 1 := by omega
    rw [if_pos h1, e, h1]
    subst e2
    simp [stF, ha, hb, Bool.or_comm, List.range_succ]
  · rw [if_neg h1]
    by_cases h2 : scale - low = 2
    · have e : stC low scale = 2 := by unfold stC; split <;> omega
      have e2 : scale = low + 2 := by omega
      have z1 := hz (low + 1) (by omega) (by omega)
      rw [e, h2]
      subst e2
      have e3 : low + 1 + 1 = low + 2 := by omega
      simp [stF, ha, hb, z1, e3, List.range_succ, Bool.and_comm]
    · rw [decide_eq_false h2]
      by_cases h3 : scale - low = 3
      · have e : stC low scale = 3 := by unfold stC; split <;> omega
        have z1 := hz (low + 1) (by omega) (by omega)
        have z2 := hz (low + 2) (by omega) (by omega)
        have e3 : low + 1 + 1 = low + 2 := by omega
        rw [e]
        simp [stF, z1, e3, z2, List.range_succ]
      · rw [show decide (scale - low < 4) = false from decide_eq_false (by omega)]
        simp
theorem scs_up (ps : List Pc) : ∀ i j, i < j → j < (scs ps).length → sgm ps i < sgm ps j := by
  intro i j hij hj
  have h0 : (scs ps).Pairwise (· < ·) := sset_up _
  have h := List.pairwise_iff_getElem.mp h0 i j (by omega) hj hij
  unfold sgm
  rw [List.getD_eq_getElem?_getD, List.getD_eq_getElem?_getD, List.getElem?_eq_getElem hj, List.getElem?_eq_getElem (by omega)]
  exact h
theorem sgm_mem (ps : List Pc) {i : Nat} (h : i < (scs ps).length) : sgm ps i ∈ ps.map (·.1) := by
  have : sgm ps i ∈ scs ps := by
    unfold sgm
    rw [List.getD_eq_getElem?_getD, List.getElem?_eq_getElem h]
    exact List.getElem_mem h
  exact sset_mem.mp this
theorem mem_sgm (ps : List Pc) {z : Int} (h : z ∈ ps.map (·.1)) : ∃ i, i < (scs ps).length ∧ sgm ps i = z := by
  have hm : z ∈ scs ps := sset_mem.mpr h
  obtain ⟨i, hi, e⟩ := List.mem_iff_getElem.mp hm
  refine ⟨i, hi, ?_⟩
  unfold sgm
  rw [List.getD_eq_getElem?_getD, List.getElem?_eq_getElem hi]
  exact e
theorem od_none (ps : List Pc) {z : Int} (h : z ∉ ps.map (·.1)) : od ps z = false := by
  have : ps.filter (odS z) = [] := by
    rw [List.filter_eq_nil_iff]
    intro p hp e
    refine h (List.mem_map.mpr ⟨p, hp, ?_⟩)
    simp only [odS, Bool.and_eq_true, decide_eq_true_eq] at e
    exact e.1
  unfold od oks
  rw [this]; rfl
theorem od_between (ps : List Pc) {j : Nat} (hj : j + 1 < (scs ps).length) (z : Int) (h1 : sgm ps j < z) (h2 : z < sgm ps (j + 1)) : od ps z = false := by
  refine od_none ps fun hm => ?_
  obtain ⟨k, hk, e⟩ := mem_sgm ps hm
  by_cases c : k ≤ j
  · by_cases d : k = j
    · rw [d] at e; omega
    · have := scs_up ps k j (by omega) (by omega); omega
  · by_cases d : k = j + 1
    · rw [d] at e; omega
    · have := scs_up ps (j + 1) k (by omega) hk; omega
theorem sgm_bd {ps : List Pc} (g : Good ps) {i : Nat} (h : i < (scs ps).length) : 0 ≤ sgm ps i ∧ sgm ps i ≤ 2000 := by
  obtain ⟨p, hp, e⟩ := List.mem_map.mp (sgm_mem ps h)
  obtain ⟨h1, h2, _⟩ := g.el p hp
  omega

/-! ### loops as folds that may fail -/
def foldO {S α : Type} (f : S → α → Option S) : S → List α → Option S
  | s, [] => some s
  | s, a :: r => match f s a with
    | some s' => foldO f s' r
    | none => none
theorem loopO {S α : Type} {tg : D → Mn.Env → Option Mn.Env} {body : Mn.Env → Option Out} (e : α → D) (fr : S → Mn.Env → Prop) (f : S → α → Option S) (P : α → Prop)
    (hst : ∀ s a s' ρ, P a → f s a = some s' → fr s ρ → ∃ ρ1 ρ2, tg (e a) ρ = some ρ1 ∧ body ρ1 = some (.nx ρ2) ∧ fr s' ρ2) :
    ∀ (l : List α) (s0 s1 : S) (ρ : Mn.Env), (∀ a ∈ l, P a) → foldO f s0 l = some s1 → fr s0 ρ → ∃ ρ', mLoop tg body (l.map e) ρ = some (.nx ρ') ∧ fr s1 ρ'
  | [], s0, s1, ρ, _, h, h0 => by cases h; exact ⟨ρ, rfl, h0⟩
  | a :: r, s0, s1, ρ, hP, h, h0 => by
    unfold foldO at h
    split at h
    · rename_i s' es
      obtain ⟨ρ1, ρ2, e1, e2, h2⟩ := hst s0 a s' ρ (hP a List.mem_cons_self) es h0
      obtain ⟨ρ', e3, h3⟩ := loopO e fr f P hst r s' s1 ρ2 (fun b hb => hP b (List.mem_cons_of_mem _ hb)) h h2
      refine ⟨ρ', ?_, h3⟩
      rw [List.map_cons]
      unfold mLoop
      rw [e1]
      simp only [e2, e3]
    · cases h
/-! ### the program's symbol -/
def addO (k : Nat) (z : Int) (s : List Int) : Option (List Int) := if k < s.length then some (s.set k (s.getD k 0 + z)) else none
section
variable (n : Nat) (σ : Nat → Int) (o : Nat → Bool) (u g m : Nat → Int)
def sum1 (s : List Int) (i : Nat) : Option (List Int) := match nuC σ o i with
  | none => some s
  | some k => addO k (m i) s
def stepC (t : Nat) : Option (List Nat) := if σ t - σ (t - 1) = 2 then (match nuC σ o (t - 1), nuC σ o t with
    | some a, some b => some [a, b]
    | _, _ => none)
  else (match (if o t then nuC σ o t else nuC σ o (t - 1)) with
    | some a => some [a]
    | none => none)
def add4 (s : List Int) (t : Nat) : Option (List Int) := match stepC σ o t with
  | some cs => foldO (fun s k => addO k 4 s) s cs
  | none => none
def downs (a b : Nat) : List Nat := (List.range (a - b)).map fun j => a - j
def sign1 (st : List Int × List Int) (i : Nat) : Option (List Int × List Int) :=
  if st.1.getD i 0 = -1 ∧ stW (hangW σ o) i ≠ i then
    (match foldO (add4 σ o) st.2 (downs i (stW (hangW σ o) i)) with
      | some s => some ((st.1.set i 1).set (stW (hangW σ o) i) (-(st.1.getD (stW (hangW σ o) i) 0)), s)
      | none => none)
  else some st
def symO : Option (List (Int × Int × Bool × Int) × List (Int × Int)) :=
  match foldO (sum1 σ o m) (List.replicate (FsC σ o n).length 0) (List.range n) with
  | some s0 => (match foldO (sign1 σ o) ((List.range n).map g, s0) ((List.range n).map fun t => n - 1 - t) with
    | some (sg, sm) => if sm.length = (FsC σ o n).length then some ((List.range n).map fun i => (σ i, u i, o i, sg.getD i 0), (List.range (FsC σ o n).length).map fun k => ((FsC σ o n).getD k 0, sm.getD k 0 % 8)) else none
    | none => none)
  | none => none
end
abbrev enc4 (t : Int × Int × Bool × Int) : D := .tup [.int t.1, .int t.2.1, .bl t.2.2.1, .int t.2.2.2]
abbrev enc2 (t : Int × Int) : D := .tup [.int t.1, .int t.2]
theorem nu_none (σ : Nat → Int) (o : Nat → Bool) (i : Nat) (h : o i = false) : nuC σ o i = none := by unfold nuC; simp [h]
theorem nu_some (σ : Nat → Int) (o : Nat → Bool) (i : Nat) (h : o i = true) : ∃ k, nuC σ o i = some k := by unfold nuC; simp [h]
theorem at_map {α : Type} (e : α → D) (l : List α) (i : Nat) : atI (l.map e) (i : Int) = (l[i]?).map e := by rw [atI_nat', List.getElem?_map]
theorem at_fun (e : Nat → D) (n i : Nat) (h : i < n) : atI ((List.range n).map e) (i : Int) = some (e i) := by
  rw [at_map]; simp [h]
theorem at_ints (l : List Int) (i : Nat) (h : i < l.length) : atI (l.map D.int) (i : Int) = some (.int (l.getD i 0)) := by
  rw [at_map, List.getD_eq_getElem?_getD, List.getElem?_eq_getElem h]; rfl
theorem step_chains_ok (n t : Nat) (ht : t + 1 < n) (σ : Nat → Int) (o : Nat → Bool) (u g m : Nat → Int) (cs : List Nat) (h : stepC σ o (t + 1) = some cs) :
    F_step_chains [IL ((List.range n).map σ), .lst ((List.range n).map (rw4 u o g m)), .lst ((List.range n).map fun a => optD (nuC σ o a)), I ((t + 1 : Nat) : Int)] = some (1, .lst (cs.map fun c : Nat => .int (c : Int))) := by
  have ht0 : t < n := by omega
  have e1 := at_fun (fun i => D.int (σ i)) n (t + 1) ht
  have e2 := at_fun (fun i => D.int (σ i)) n t ht0
  have e3 := at_fun (rw4 u o g m) n (t + 1) ht
  have e4 := at_fun (fun a => optD (nuC σ o a)) n (t + 1) ht
  have e5 := at_fun (fun a => optD (nuC σ o a)) n t ht0
  have hS : IL ((List.range n).map σ) = .lst ((List.range n).map fun i => D.int (σ i)) := by simp
  rw [hS]
  generalize ((List.range n).map fun i => D.int (σ i)) = S at e1 e2
  generalize (List.range n).map (rw4 u o g m) = T at e3
  generalize ((List.range n).map fun a => optD (nuC σ o a)) = N at e4 e5
  unfold stepC at h
  rw [show t + 1 - 1 = t from rfl] at h
  have c1 : ((t + 1 : Nat) : Int) = (t : Int) + 1 := rfl
  rw [c1] at e1 e3 e4 ⊢
  have c2 : ((t : Int) + 1) - 1 = t := by omega
  split at h
  · rename_i hc
    split at h
    · rename_i a b ea eb
      cases h
      simp [F_step_chains, m_step_chains, e1, e2, e3, e4, e5, c2, hc, ea, eb, optD]
    · cases h
  · rename_i hc
    cases ho : o (t + 1) with
    | true =>
      rw [ho] at h
      simp only [if_true] at h
      split at h
      · rename_i a ea
        cases h
        simp [F_step_chains, m_step_chains, e1, e2, e3, e4, e5, c2, hc, ea, optD, rw4, ho]
      · cases h
    | false =>
      rw [ho] at h
      simp only [Bool.false_eq_true, if_false] at h
      split at h
      · rename_i a ea
        cases h
        simp [F_step_chains, m_step_chains, e1, e2, e3, e4, e5, c2, hc, ea, optD, rw4, ho]
      · cases h

/-! ### symbol_made -/
theorem rng_downs (a b : Nat) (h : b ≤ a) : rng (a : Int) (-1) ((a : Int) - b).toNat = (downs a b).map fun t : Nat => D.int (t : Int) := by
  unfold rng downs
  rw [show ((a : Int) - b).toNat = a - b by omega, List.map_map]
  refine List.map_congr_left fun i hi => ?_
  have := List.mem_range.mp hi
  show D.int _ = D.int ((a - i : Nat) : Int)
  congr 1
  omega
theorem rng_down0 (n : Nat) : rng ((n : Int) - 1) (-1) ((n : Int) - 1 - -1).toNat = ((List.range n).map fun t => n - 1 - t).map fun t : Nat => D.int (t : Int) := by
  unfold rng
  rw [show ((n : Int) - 1 - -1).toNat = n by omega, List.map_map]
  refine List.map_congr_left fun i hi => ?_
  have := List.mem_range.mp hi
  show D.int _ = D.int ((n - 1 - i : Nat) : Int)
  congr 1
  omega
theorem mem_downs {a b t : Nat} (h : t ∈ downs a b) : b + 1 ≤ t ∧ t ≤ a := by
  unfold downs at h
  obtain ⟨j, hj, rfl⟩ := List.mem_map.mp h
  have := List.mem_range.mp hj
  omega
theorem set_ints (l : List Int) (k : Nat) (z : Int) : (l.map D.int).set k (.int z) = (l.set k z).map D.int := by rw [List.map_set]
section
variable (Ld : D) (kk : Int) (n : Nat) (σ : Nat → Int) (o : Nat → Bool) (u g m : Nat → Int)
/-- the frame of symbol_made -/
def frS (s : List Int) (x8 x9 x10 x11 x12 : Option Cell) : Mn.Env := [some (0, Ld), some (0, I kk), some (0, IL ((List.range n).map σ)), some (0, .lst ((List.range n).map (rw4 u o g m))), some (0, .lst ((List.range n).map fun a => optD (nuC σ o a))), some (0, IL (FsC σ o n)),
  some (0, .lst ((List.range n).map fun i => .int (stW (hangW σ o) i))), some (1, IL s), x8, x9, x10, x11, x12, none, none, none, none, none]
theorem sums_walk (s0 : List Int) (hs : foldO (sum1 σ o m) s0 (List.range n) = some s1) : ∃ ρ', mLoop (tTupT 2 (tsCons (tName 8) (tsCons (tName 9) tsNil))) (sIf (mtP (pB (pBin dNotG (pBin dIx (pVar 4) (pVar 8)) (pC .non)))) (sSet 7 plNil (pBin dIx (pVar 4) (pVar 8)) (mBinF dAddG (mO (oIx (oVar 7) (pBin dIx (pVar 4) (pVar 8)))) (mO (oIx (oVar 9) (pC (.int 3)))))) sNx)
    (enumD 0 ((List.range n).map (rw4 u o g m))) (frS Ld kk n σ o u g m s0 none none none none none) = some (.nx ρ') ∧ ∃ x8 x9, ρ' = frS Ld kk n σ o u g m s1 x8 x9 none none none := by
  rw [enum_range]
  refine loopO (fun i : Nat => .tup [.int (i : Int), rw4 u o g m i]) (fun s ρ => ∃ x8 x9, ρ = frS Ld kk n σ o u g m s x8 x9 none none none) (sum1 σ o m) (fun i => i < n) (fun s i s' ρ hi hf ⟨x8, x9, hρ⟩ => ?_) (List.range n) s0 s1 _ (fun a ha => List.mem_range.mp ha) hs ⟨none, none, rfl⟩
  subst hρ
  refine ⟨frS Ld kk n σ o u g m s (some (0, I i)) (some (0, rw4 u o g m i)) none none none, frS Ld kk n σ o u g m s' (some (0, I i)) (some (0, rw4 u o g m i)) none none none, rfl, ?_, _, _, rfl⟩
  have e4 := at_fun (fun a => optD (nuC σ o a)) n i hi
  unfold frS
  generalize ((List.range n).map fun a => optD (nuC σ o a)) = N at e4 ⊢
  unfold sum1 at hf
  split at hf
  · rename_i hk
    cases hf
    rw [hk] at e4
    have : dNotG .non .non = some (.bl false) := rfl
    simp [e4, optD, this]
  · rename_i k hk
    rw [hk] at e4
    unfold addO at hf
    split at hf
    · rename_i hlt
      cases hf
      have : dNotG (.int (k : Int)) .non = some (.bl true) := rfl
      have e7 := at_ints s k hlt
      rw [e_sIf, show (mtP (pB (pBin dNotG (pBin dIx (pVar 4) (pVar 8)) (pC .non)))) [some (0, Ld), some (0, I kk), some (0, IL ((List.range n).map σ)), some (0, .lst ((List.range n).map (rw4 u o g m))), some (0, .lst N), some (0, IL (FsC σ o n)),
  some (0, .lst ((List.range n).map fun i => .int (stW (hangW σ o) i))), some (1, IL s), some (0, I i), some (0, rw4 u o g m i), none, none, none, none, none, none, none, none] = some (true, [some (0, Ld), some (0, I kk), some (0, IL ((List.range n).map σ)), some (0, .lst ((List.range n).map (rw4 u o g m))), some (0, .lst N), some (0, IL (FsC σ o n)),
  some (0, .lst ((List.range n).map fun i => .int (stW (hangW σ o) i))), some (1, IL s), some (0, I i), some (0, rw4 u o g m i), none, none, none, none, none, none, none, none]) by simp [e4, optD, this]]
      show sSet _ _ _ _ _ = _
      rw [set_row (p := k) (k := 1) (kc := 0) (l := s.map D.int) (d := .int (s.getD k 0 + m i)) (ρ1 := [some (0, Ld), some (0, I kk), some (0, IL ((List.range n).map σ)), some (0, .lst ((List.range n).map (rw4 u o g m))), some (0, .lst N), some (0, IL (FsC σ o n)),
  some (0, .lst ((List.range n).map fun i => .int (stW (hangW σ o) i))), some (1, IL s), some (0, I i), some (0, rw4 u o g m i), none, none, none, none, none, none, none, none]) (by simp [e4, optD, e7, rw4]) rfl (by simp [e4, optD]) (by rw [List.length_map]; exact hlt) rfl (by omega)]
      rw [set_ints]
      rfl
    · cases hf
end

section
variable (Ld : D) (kk : Int) (n : Nat) (σ : Nat → Int) (o : Nat → Bool) (u g m : Nat → Int)
theorem chain_walk (x8 x9 x10 x11 x12 : Option Cell) (cs : List Nat) (s s' : List Int) (hs : foldO (fun s k => addO k 4 s) s cs = some s') : ∃ ρ', mLoop (tName 12) (sSet 7 plNil (pVar 12) (mP (pBin dAdd (pBin dIx (pVar 7) (pVar 12)) (pC (.int 4)))))
    (cs.map fun c : Nat => D.int (c : Int)) (frS Ld kk n σ o u g m s x8 x9 x10 x11 x12) = some (.nx ρ') ∧ ∃ x12, ρ' = frS Ld kk n σ o u g m s' x8 x9 x10 x11 x12 := by
  refine loopO (fun c : Nat => D.int (c : Int)) (fun s ρ => ∃ x12, ρ = frS Ld kk n σ o u g m s x8 x9 x10 x11 x12) (fun s k => addO k 4 s) (fun _ => True) (fun s k s' ρ _ hf ⟨x12, hρ⟩ => ?_) cs s s' _ (fun _ _ => trivial) hs ⟨x12, rfl⟩
  subst hρ
  refine ⟨frS Ld kk n σ o u g m s x8 x9 x10 x11 (some (0, I k)), frS Ld kk n σ o u g m s' x8 x9 x10 x11 (some (0, I k)), rfl, ?_, _, rfl⟩
  unfold frS
  unfold addO at hf
  split at hf
  · rename_i hlt
    cases hf
    have e7 := at_ints s k hlt
    rw [set_row (p := k) (k := 1) (kc := 0) (l := s.map D.int) (d := .int (s.getD k 0 + 4)) (ρ1 := [some (0, Ld), some (0, I kk), some (0, IL ((List.range n).map σ)), some (0, .lst ((List.range n).map (rw4 u o g m))), some (0, .lst ((List.range n).map fun a => optD (nuC σ o a))), some (0, IL (FsC σ o n)),
  some (0, .lst ((List.range n).map fun i => .int (stW (hangW σ o) i))), some (1, IL s), x8, x9, x10, x11, some (0, I k), none, none, none, none, none]) (by simp [e7]) rfl rfl (by rw [List.length_map]; exact hlt) rfl (by omega)]
    rw [set_ints]
    rfl
  · cases hf
theorem steps_walk (x8 x9 x10 x11 x12 : Option Cell) (ts : List Nat) (ht : ∀ t ∈ ts, 1 ≤ t ∧ t < n) (s s' : List Int) (hs : foldO (add4 σ o) s ts = some s') : ∃ ρ', mLoop (tName 11) (sFor (iSeq (mCall 4 F_step_chains (mCons 0 (mO (oVar 2)) (mCons 0 (mO (oVar 3)) (mCons 0 (mO (oVar 4)) (mCons 0 (mO (oVar 11)) mNil)))))) (tName 12) (sSet 7 plNil (pVar 12) (mP (pBin dAdd (pBin dIx (pVar 7) (pVar 12)) (pC (.int 4))))))
    (ts.map fun t : Nat => D.int (t : Int)) (frS Ld kk n σ o u g m s x8 x9 x10 x11 x12) = some (.nx ρ') ∧ ∃ x11 x12, ρ' = frS Ld kk n σ o u g m s' x8 x9 x10 x11 x12 := by
  refine loopO (fun t : Nat => D.int (t : Int)) (fun s ρ => ∃ x11 x12, ρ = frS Ld kk n σ o u g m s x8 x9 x10 x11 x12) (add4 σ o) (fun t => 1 ≤ t ∧ t < n) (fun s t s' ρ ht hf ⟨x11, x12, hρ⟩ => ?_) ts s s' _ ht hs ⟨x11, x12, rfl⟩
  subst hρ
  unfold add4 at hf
  split at hf
  · rename_i cs hcs
    obtain ⟨q, rfl⟩ : ∃ q, t = q + 1 := ⟨t - 1, by omega⟩
    obtain ⟨ρ', e, z12, hz⟩ := chain_walk Ld kk n σ o u g m x8 x9 x10 (some (0, I ((q + 1 : Nat) : Int))) x12 cs s s' hf
    refine ⟨frS Ld kk n σ o u g m s x8 x9 x10 (some (0, I ((q + 1 : Nat) : Int))) x12, ρ', rfl, ?_, some (0, I ((q + 1 : Nat) : Int)), z12, hz⟩
    have hst := step_chains_ok n q (by omega) σ o u g m cs hcs
    refine for_nx (ρ1 := frS Ld kk n σ o u g m s x8 x9 x10 (some (0, I ((q + 1 : Nat) : Int))) x12) ?_ e
    unfold frS
    have hst2 : F_step_chains [IL ((List.range n).map σ), .lst ((List.range n).map (rw4 u o g m)), .lst ((List.range n).map fun a => optD (nuC σ o a)), .int ((q : Int) + 1)] = some (1, .lst (cs.map fun c : Nat => .int (c : Int))) := hst
    generalize IL ((List.range n).map σ) = S at hst2 ⊢
    generalize D.lst ((List.range n).map (rw4 u o g m)) = T at hst2 ⊢
    generalize D.lst ((List.range n).map fun a => optD (nuC σ o a)) = N at hst2 ⊢
    simp [hst2]
  · cases hf
theorem signs_walk (hn : n ≤ 63) (x8 x9 : Option Cell) (is : List Nat) (hi : ∀ i ∈ is, i < n) (st st' : List Int × List Int) (hl : st.1.length = n) (hs : foldO (sign1 σ o) st is = some st') : ∃ ρ', mLoop (tName 8) (sIf (mtP (ptAnd (pB (pBin dEq (pBin dIx (pVar 10) (pVar 8)) (pUn dNeg (pC (.int 1))))) (pB (pBin dNe (pBin dIx (pVar 6) (pVar 8)) (pVar 8))))) (sSeq (sAsgT (mTup 0 (mCons 0 (mP (pC (.int 1))) (mCons 0 (mP (pUn dNeg (pBin dIx (pVar 10) (pBin dIx (pVar 6) (pVar 8))))) mNil))) (cTup 2 (csCons (cSub 10 plNil (pVar 8)) (csCons (cSub 10 plNil (pBin dIx (pVar 6) (pVar 8))) csNil))))
    (sFor (iRange (mCons 0 (mO (oVar 8)) (mCons 0 (mO (oIx (oVar 6) (pVar 8))) (mCons 0 (mP (pUn dNeg (pC (.int 1)))) mNil)))) (tName 11) (sFor (iSeq (mCall 4 F_step_chains (mCons 0 (mO (oVar 2)) (mCons 0 (mO (oVar 3)) (mCons 0 (mO (oVar 4)) (mCons 0 (mO (oVar 11)) mNil)))))) (tName 12) (sSet 7 plNil (pVar 12) (mP (pBin dAdd (pBin dIx (pVar 7) (pVar 12)) (pC (.int 4)))))))) sNx)
    (is.map fun t : Nat => D.int (t : Int)) (frS Ld kk n σ o u g m st.2 x8 x9 (some (1, IL st.1)) none none) = some (.nx ρ') ∧ ∃ x8 x11 x12, ρ' = frS Ld kk n σ o u g m st'.2 x8 x9 (some (1, IL st'.1)) x11 x12 ∧ st'.1.length = n := by
  refine loopO (fun t : Nat => D.int (t : Int)) (fun st ρ => ∃ x8 x11 x12, ρ = frS Ld kk n σ o u g m st.2 x8 x9 (some (1, IL st.1)) x11 x12 ∧ st.1.length = n) (sign1 σ o) (fun t => t < n) (fun st i st' ρ hi hf ⟨x8, x11, x12, hρ, hl⟩ => ?_) is st st' _ hi hs ⟨x8, none, none, rfl, hl⟩
  subst hρ
  have hb := stW_le (hangW σ o) i
  have e6 := at_fun (fun i => D.int (stW (hangW σ o) i)) n i hi
  have e10 := at_ints st.1 i (by omega)
  have e10b := at_ints st.1 (stW (hangW σ o) i) (by omega)
  unfold sign1 at hf
  generalize hbb : stW (hangW σ o) i = b at hb e6 e10b hf
  have hcond : ∀ c, decide (st.1.getD i 0 = -1 ∧ b ≠ i) = c → (mtP (ptAnd (pB (pBin dEq (pBin dIx (pVar 10) (pVar 8)) (pUn dNeg (pC (.int 1))))) (pB (pBin dNe (pBin dIx (pVar 6) (pVar 8)) (pVar 8))))) (frS Ld kk n σ o u g m st.2 (some (0, I i)) x9 (some (1, IL st.1)) x11 x12)
      = some (c, frS Ld kk n σ o u g m st.2 (some (0, I i)) x9 (some (1, IL st.1)) x11 x12) := fun c hc => by
    unfold frS
    generalize ((List.range n).map fun i => D.int (stW (hangW σ o) i)) = W at e6 ⊢
    rw [← hc]
    generalize st.1.getD i 0 = y at e10 ⊢
    by_cases h1 : y = -1
    · by_cases h2 : (b : Int) = i
      · have h3 : b = i := by omega
        simp [e10, e6, h1, h2, h3]
      · have h3 : b ≠ i := by omega
        simp [e10, e6, h1, h2, h3]
    · simp [e10, e6, h1]
  split at hf
  · rename_i hc
    split at hf
    · rename_i s2 hs2
      cases hf
      have hlt : ∀ t ∈ downs i b, 1 ≤ t ∧ t < n := fun t ht => by have := mem_downs ht; omega
      obtain ⟨ρ', e, y11, y12, hz⟩ := steps_walk Ld kk n σ o u g m (some (0, I i)) x9 (some (1, IL ((st.1.set i 1).set b (-(st.1.getD b 0))))) x11 x12 (downs i b) hlt st.2 s2 hs2
      refine ⟨frS Ld kk n σ o u g m st.2 (some (0, I i)) x9 (some (1, IL st.1)) x11 x12, ρ', rfl, ?_, some (0, I i), y11, y12, hz, by simp [hl]⟩
      rw [e_sIf, hcond true (decide_eq_true hc)]
      show sSeq _ _ _ = _
      rw [seq_nx (ρ1 := frS Ld kk n σ o u g m st.2 (some (0, I i)) x9 (some (1, IL ((st.1.set i 1).set b (-(st.1.getD b 0))))) x11 x12) (by
        unfold frS
        have j1 := ixN_nat (n := st.1.length) (i := i) (by omega)
        have j2 := ixN_nat (n := st.1.length) (i := b) (by omega)
        generalize ((List.range n).map fun i => D.int (stW (hangW σ o) i)) = W at e6 ⊢
        generalize st.1.getD b 0 = z at e10b ⊢
        generalize IL ((List.range n).map σ) = f1
        generalize D.lst ((List.range n).map (rw4 u o g m)) = f2
        generalize D.lst ((List.range n).map fun a => optD (nuC σ o a)) = f3
        generalize IL (FsC σ o n) = f4
        generalize IL st.2 = f5
        have hq : (st.1.map D.int).length = st.1.length := List.length_map ..
        rw [show IL ((st.1.set i 1).set b (-z)) = .lst (((st.1.map D.int).set i (.int 1)).set b (.int (-z))) by rw [set_ints, set_ints]]
        rw [← hq] at j1 j2
        show sAsgT _ _ [_, _, _, _, _, _, _, _, _, _, some (1, .lst (st.1.map D.int)), _, _, _, _, _, _, _] = _
        generalize st.1.map D.int = M at e10b j1 j2 ⊢
        simp [e6, e10b, plAt, D.at, D.put, j1, j2])]
      refine for_nx (ρ1 := frS Ld kk n σ o u g m st.2 (some (0, I i)) x9 (some (1, IL ((st.1.set i 1).set b (-(st.1.getD b 0))))) x11 x12) ?_ e
      rw [← rng_downs i b hb]
      unfold frS
      have hr := okRng_nat (n := i) (by omega)
      have hr2 := okRng_nat (n := b) (by omega)
      generalize ((List.range n).map fun i => D.int (stW (hangW σ o) i)) = W at e6 ⊢
      unfold iRange
      simp [e6, hr, hr2]
    · cases hf
  · rename_i hc
    cases hf
    refine ⟨frS Ld kk n σ o u g m st.2 (some (0, I i)) x9 (some (1, IL st.1)) x11 x12, frS Ld kk n σ o u g m st.2 (some (0, I i)) x9 (some (1, IL st.1)) x11 x12, rfl, ?_, _, _, _, rfl, hl⟩
    rw [e_sIf, hcond false (decide_eq_false hc)]
    rfl
end

/-! ### symbol_made, symbol_of -/
theorem sets_len {S α : Type} (f : S → α → Option S) (len : S → Nat) (h : ∀ s a s', f s a = some s' → len s' = len s) : ∀ (l : List α) (s s' : S), foldO f s l = some s' → len s' = len s
  | [], s, s', e => by cases e; rfl
  | a :: r, s, s', e => by
    unfold foldO at e
    split at e
    · rename_i s1 e1
      rw [sets_len f len h r s1 s' e, h s a s1 e1]
    · cases e
theorem symbol_made_ok (Ld : D) (kk : Int) (n : Nat) (hn : n ≤ 63) (σ : Nat → Int) (o : Nat → Bool) (u g m : Nat → Int) (hT : F_tellings [Ld] = some (1, .tup [IL ((List.range n).map σ), .lst ((List.range n).map (rw4 u o g m))]))
    (r : List (Int × Int × Bool × Int) × List (Int × Int)) (hr : symO n σ o u g m = some r) : F_symbol_made [Ld, I kk] = some (1, .tup [.lst (r.1.map enc4), .lst (r.2.map enc2), I (kk - ((List.range n).map u).sum)]) := by
  unfold symO at hr
  split at hr
  · rename_i s1 hs1
    split at hr
    · rename_i sg sm hs2
      split at hr
      · rename_i hsm
        cases hr
        have hch := chained_ok n hn σ o u g m
        have hws := way_starts_ok n hn σ o u g m
        have hFl := FsC_le σ o n
        obtain ⟨ρ', el, x8, x9, rfl⟩ := sums_walk Ld kk n σ o u g m (List.replicate (FsC σ o n).length 0) hs1
        obtain ⟨ρ'', em, y8, y11, y12, rfl, hl⟩ := signs_walk Ld kk n σ o u g m hn x8 none ((List.range n).map fun t => n - 1 - t) (by
          intro i hi
          obtain ⟨t, ht, rfl⟩ := List.mem_map.mp hi
          have := List.mem_range.mp ht
          omega) ((List.range n).map g, s1) (sg, sm) (by simp) hs2
        have hFl0 : dLen [IL (FsC σ o n)] = some (.int (FsC σ o n).length) := by simp
        have hSl0 : dLen [IL ((List.range n).map σ)] = some (.int n) := by simp
        have c10 := comp_map1 (kc := 0) (it := iSeq (mO (oVar 3))) (tg := tName 9) (x := mO (oIx (oVar 9) (pC (.int 2)))) (own := [9])
          (ρ := frS Ld kk n σ o u g m s1 x8 x9 none none none) (ρ1 := frS Ld kk n σ o u g m s1 x8 x9 none none none) (ρ0 := frS Ld kk n σ o u g m s1 x8 none none none none)
          (List.range n) (rw4 u o g m) (fun i => .int (g i)) (by unfold frS; simp) (by simp; omega) rfl fun i hi => ⟨frS Ld kk n σ o u g m s1 x8 (some (0, rw4 u o g m i)) none none none, rfl, rfl, 0, by unfold frS; simp [rw4], by simp⟩
        have hen : enumD 0 ((List.range n).map fun i => D.int (σ i)) = (List.range n).map fun i : Nat => .tup [.int (i : Int), .int (σ i)] := enum_range ..
        have hS : IL ((List.range n).map σ) = .lst ((List.range n).map fun i => D.int (σ i)) := by simp
        have c13 := comp_map1 (kc := 0) (it := iEnumM (mCons 0 (mO (oVar 2)) mNil)) (tg := tTupT 2 (tsCons (tName 8) (tsCons (tName 15) tsNil))) (x := mTup 0 (mCons 0 (mO (oVar 15)) (mCons 0 (mO (oIx (oIx (oVar 3) (pVar 8)) (pC (.int 0)))) (mCons 0 (mO (oIx (oIx (oVar 3) (pVar 8)) (pC (.int 1)))) (mCons 0 (mO (oIx (oVar 10) (pVar 8))) mNil))))) (own := [8, 15])
          (ρ := frS Ld kk n σ o u g m sm y8 none (some (1, IL sg)) y11 y12) (ρ1 := frS Ld kk n σ o u g m sm y8 none (some (1, IL sg)) y11 y12) (ρ0 := frS Ld kk n σ o u g m sm none none (some (1, IL sg)) y11 y12)
          (List.range n) (fun i : Nat => .tup [.int (i : Int), .int (σ i)]) (fun i => enc4 (σ i, u i, o i, sg.getD i 0)) (by
            rw [← hen]
            refine iEnumM_eq ?_
            unfold frS
            rw [hS]
            simp) (by simp; omega) rfl fun i hi => ⟨(frS Ld kk n σ o u g m sm (some (0, I i)) none (some (1, IL sg)) y11 y12).set 15 (some (0, I (σ i))), rfl, rfl, 1, by
              have hi := List.mem_range.mp hi
              have e3 := at_fun (rw4 u o g m) n i hi
              have e10 := at_ints sg i (by simpa using (by rw [hl]; exact hi : i < sg.length))
              unfold frS
              generalize ((List.range n).map (rw4 u o g m)) = T at e3 ⊢
              generalize sg.getD i 0 = z at e10 ⊢
              simp [e3, e10, rw4], by simp⟩
        have c14 := comp_map1 (kc := 0) (it := iSeq (mO (oVar 3))) (tg := tName 9) (x := mO (oIx (oVar 9) (pC (.int 0)))) (own := [9])
          (ρ := (frS Ld kk n σ o u g m sm none none (some (1, IL sg)) y11 y12).set 13 (some (0, .lst ((List.range n).map fun i => enc4 (σ i, u i, o i, sg.getD i 0))))) (ρ1 := (frS Ld kk n σ o u g m sm none none (some (1, IL sg)) y11 y12).set 13 (some (0, .lst ((List.range n).map fun i => enc4 (σ i, u i, o i, sg.getD i 0))))) (ρ0 := (frS Ld kk n σ o u g m sm none none (some (1, IL sg)) y11 y12).set 13 (some (0, .lst ((List.range n).map fun i => enc4 (σ i, u i, o i, sg.getD i 0)))))
          (List.range n) (rw4 u o g m) (fun i => .int (u i)) (by unfold frS; simp) (by simp; omega) rfl fun i hi => ⟨((frS Ld kk n σ o u g m sm none none (some (1, IL sg)) y11 y12).set 13 (some (0, .lst ((List.range n).map fun i => enc4 (σ i, u i, o i, sg.getD i 0))))).set 9 (some (0, rw4 u o g m i)), rfl, rfl, 0, by unfold frS; simp [rw4], by simp⟩
        have hsu : dSum [.lst ((List.range n).map fun i => D.int (u i))] = some (.int ((List.range n).map u).sum) := by
          have := e_sum ((List.range n).map u)
          rw [List.map_map] at this
          exact this
        -- the chains, told
        have hFr : FsC σ o n = (List.range (FsC σ o n).length).map fun k => (FsC σ o n).getD k 0 := lst_fun _
        have hmr : sm = (List.range (FsC σ o n).length).map fun k => sm.getD k 0 := by rw [← hsm]; exact lst_fun _
        have c16 : ∀ (Pt : D) (z : Cell), mComp 1 (iZipSM (mCons 0 (mO (oVar 5)) (mCons 0 (mO (oVar 7)) mNil))) (tTupT 2 (tsCons (tName 16) (tsCons (tName 17) tsNil))) tYesM (mTup 0 (mCons 0 (mO (oVar 16)) (mCons 0 (mP (pBin dMod (pVar 17) (pC (.int 8)))) mNil))) [16, 17]
            (low (((frS Ld kk n σ o u g m sm none none (some (1, IL sg)) y11 y12).set 13 (some (0, Pt))).set 14 (some z)))
            = some ((2, .lst ((List.range (FsC σ o n).length).map fun k => enc2 ((FsC σ o n).getD k 0, sm.getD k 0 % 8))), low (((frS Ld kk n σ o u g m sm none none (some (1, IL sg)) y11 y12).set 13 (some (0, Pt))).set 14 (some z))) := fun Pt z => by
          have hz : zipD ((FsC σ o n).map D.int) (sm.map D.int) = (List.range (FsC σ o n).length).map fun k => .tup [.int ((FsC σ o n).getD k 0), .int (sm.getD k 0)] := by
            have := zipD_self (fun k => D.int ((FsC σ o n).getD k 0)) (fun k => D.int (sm.getD k 0)) (List.range (FsC σ o n).length)
            rw [← this]
            congr 1
            · rw [show (fun k => D.int ((FsC σ o n).getD k 0)) = D.int ∘ (fun k => (FsC σ o n).getD k 0) from rfl, ← List.map_map, ← hFr]
            · rw [show (fun k => D.int (sm.getD k 0)) = D.int ∘ (fun k => sm.getD k 0) from rfl, ← List.map_map, ← hmr]
          refine comp_map1 (kc := 1) (List.range (FsC σ o n).length) (fun k => .tup [.int ((FsC σ o n).getD k 0), .int (sm.getD k 0)]) _ (ρ1 := low (((frS Ld kk n σ o u g m sm none none (some (1, IL sg)) y11 y12).set 13 (some (0, Pt))).set 14 (some z))) ?_ (by simp; omega) rfl fun k hk => ⟨((low (((frS Ld kk n σ o u g m sm none none (some (1, IL sg)) y11 y12).set 13 (some (0, Pt))).set 14 (some z))).set 16 (some (0, .int ((FsC σ o n).getD k 0)))).set 17 (some (0, .int (sm.getD k 0))), rfl, rfl, 1, ?_, by simp⟩
          · rw [← hz]
            unfold frS
            simp [iZipSM, low, hsm]
          · unfold frS
            generalize sm.getD k 0 = z1
            generalize (FsC σ o n).getD k 0 = z2
            simp [low]
        refine run0_rt (ρ := [some (0, Ld), some (0, I kk), none, none, none, none, none, none, none, none, none, none, none, none, none, none, none, none]) (ρ' := ((frS Ld kk n σ o u g m sm none none (some (1, IL sg)) y11 y12).set 13 (some (0, .lst ((List.range n).map fun i => enc4 (σ i, u i, o i, sg.getD i 0))))).set 14 (some (0, I (kk - ((List.range n).map u).sum)))) rfl ?_
        unfold m_symbol_made
        rw [seq_nx (ρ1 := [some (0, Ld), some (0, I kk), some (0, IL ((List.range n).map σ)), some (0, .lst ((List.range n).map (rw4 u o g m))), none, none, none, none, none, none, none, none, none, none, none, none, none, none]) (by
          generalize IL ((List.range n).map σ) = S at hT ⊢
          generalize D.lst ((List.range n).map (rw4 u o g m)) = T at hT ⊢
          simp [hT])]
        rw [seq_nx (ρ1 := [some (0, Ld), some (0, I kk), some (0, IL ((List.range n).map σ)), some (0, .lst ((List.range n).map (rw4 u o g m))), some (0, .lst ((List.range n).map fun a => optD (nuC σ o a))), some (0, IL (FsC σ o n)), none, none, none, none, none, none, none, none, none, none, none, none]) (by
          generalize IL ((List.range n).map σ) = S at hch ⊢
          generalize D.lst ((List.range n).map (rw4 u o g m)) = T at hch ⊢
          generalize D.lst ((List.range n).map fun a => optD (nuC σ o a)) = N at hch ⊢
          generalize IL (FsC σ o n) = F at hch ⊢
          simp [hch])]
        rw [seq_nx (ρ1 := frS Ld kk n σ o u g m (List.replicate (FsC σ o n).length 0) none none none none none) (by
          unfold frS
          have hz : IL (List.replicate (FsC σ o n).length 0) = .lst (List.replicate (FsC σ o n).length [D.int 0]).flatten := by
            rw [show IL (List.replicate (FsC σ o n).length 0) = .lst ((List.replicate (FsC σ o n).length (0 : Int)).map D.int) from rfl, List.map_replicate]
            congr 1
            generalize (FsC σ o n).length = q
            induction q with
            | zero => rfl
            | succ q ih => rw [List.replicate_succ, List.replicate_succ, List.flatten_cons, ← ih]; rfl
          rw [hz]
          have hok : okIx ((FsC σ o n).length : Int) = true := okIx_mk (by omega)
          generalize IL ((List.range n).map σ) = S at hws ⊢
          generalize D.lst ((List.range n).map (rw4 u o g m)) = T at hws ⊢
          generalize D.lst ((List.range n).map fun a => optD (nuC σ o a)) = N
          generalize D.lst ((List.range n).map fun i => .int (stW (hangW σ o) i)) = W at hws ⊢
          generalize IL (FsC σ o n) = F at hFl0 ⊢
          generalize (FsC σ o n).length = q at hFl hFl0 hok ⊢
          simp [hws, hFl0, hok, sizeLine]
          rw [if_pos (by omega)]
          rfl)]
        rw [seq_nx (for_nx (ρ1 := frS Ld kk n σ o u g m (List.replicate (FsC σ o n).length 0) none none none none none) (ds := enumD 0 ((List.range n).map (rw4 u o g m))) (iEnumM_eq (by unfold frS; rfl)) el)]
        rw [seq_nx (ρ1 := frS Ld kk n σ o u g m s1 x8 none (some (1, IL ((List.range n).map g))) none none) (by rw [e_sAsg, c10, show (D.lst ((List.range n).map fun i => .int (g i))) = IL ((List.range n).map g) by simp]; rfl)]
        rw [seq_nx (for_nx (ρ1 := frS Ld kk n σ o u g m s1 x8 none (some (1, IL ((List.range n).map g))) none none) (ds := ((List.range n).map fun t => n - 1 - t).map fun t : Nat => D.int (t : Int)) (by
          rw [← rng_down0]
          unfold frS
          generalize IL ((List.range n).map σ) = S at hSl0 ⊢
          have h1 : okRng ((n : Int) - 1) = true := okRng_mk (by omega)
          have h2 : okRng (-1) = true := okRng_mk (by omega)
          unfold iRange
          simp [hSl0, h1, h2]) em)]
        rw [seq_nx (ρ1 := (frS Ld kk n σ o u g m sm none none (some (1, IL sg)) y11 y12).set 13 (some (0, .lst ((List.range n).map fun i => enc4 (σ i, u i, o i, sg.getD i 0))))) (by rw [e_sAsg, e_mFz, c13])]
        rw [seq_nx (ρ1 := ((frS Ld kk n σ o u g m sm none none (some (1, IL sg)) y11 y12).set 13 (some (0, .lst ((List.range n).map fun i => enc4 (σ i, u i, o i, sg.getD i 0))))).set 14 (some (0, I (kk - ((List.range n).map u).sum)))) (by
          generalize D.lst ((List.range n).map fun i => enc4 (σ i, u i, o i, sg.getD i 0)) = Pt at c14 ⊢
          have q1 : mO (oVar 1) ((frS Ld kk n σ o u g m sm none none (some (1, IL sg)) y11 y12).set 13 (some (0, Pt))) = some ((0, I kk), (frS Ld kk n σ o u g m sm none none (some (1, IL sg)) y11 y12).set 13 (some (0, Pt))) := rfl
          rw [e_sAsg, e_mFz, e_mBin, q1]
          simp only
          rw [e_mCallF, e_mCons, c14]
          unfold frS
          simp [hsu])]
        have c16 := c16 (.lst ((List.range n).map fun i => enc4 (σ i, u i, o i, sg.getD i 0))) (0, I (kk - ((List.range n).map u).sum))
        rw [List.map_map, List.map_map]
        have hfull : D.full 2 (.lst ((List.range (FsC σ o n).length).map fun k => enc2 ((FsC σ o n).getD k 0, sm.getD k 0 % 8))) = true := by
          rw [e_fullL, List.all_eq_true]
          intro d hd
          obtain ⟨k, _, rfl⟩ := List.mem_map.mp hd
          rfl
        show sRet _ _ = some (.rt (1, .tup [.lst ((List.range n).map fun i => enc4 (σ i, u i, o i, sg.getD i 0)), .lst ((List.range (FsC σ o n).length).map fun k => enc2 ((FsC σ o n).getD k 0, sm.getD k 0 % 8)), I (kk - ((List.range n).map u).sum)]) _)
        generalize D.lst ((List.range n).map fun i => enc4 (σ i, u i, o i, sg.getD i 0)) = Pt at c16 ⊢
        generalize D.lst ((List.range (FsC σ o n).length).map fun k => enc2 ((FsC σ o n).getD k 0, sm.getD k 0 % 8)) = Ct at c16 hfull ⊢
        generalize I (kk - ((List.range n).map u).sum) = Z at c16 ⊢
        have q13 : mO (oVar 13) (((frS Ld kk n σ o u g m sm none none (some (1, IL sg)) y11 y12).set 13 (some (0, Pt))).set 14 (some (0, Z))) = some ((0, Pt), ((frS Ld kk n σ o u g m sm none none (some (1, IL sg)) y11 y12).set 13 (some (0, Pt))).set 14 (some (0, Z))) := rfl
        have q14 : mO (oVar 14) (((frS Ld kk n σ o u g m sm none none (some (1, IL sg)) y11 y12).set 13 (some (0, Pt))).set 14 (some (0, Z))) = some ((0, Z), ((frS Ld kk n σ o u g m sm none none (some (1, IL sg)) y11 y12).set 13 (some (0, Pt))).set 14 (some (0, Z))) := rfl
        generalize ((frS Ld kk n σ o u g m sm none none (some (1, IL sg)) y11 y12).set 13 (some (0, Pt))).set 14 (some (0, Z)) = R at c16 q13 q14 ⊢
        have q16 : mThaw (mComp 1 (iZipSM (mCons 0 (mO (oVar 5)) (mCons 0 (mO (oVar 7)) mNil))) (tTupT 2 (tsCons (tName 16) (tsCons (tName 17) tsNil))) tYesM (mTup 0 (mCons 0 (mO (oVar 16)) (mCons 0 (mP (pBin dMod (pVar 17) (pC (.int 8)))) mNil))) [16, 17]) R = some ((2, Ct), R) := by
          rw [e_mThaw, c16]
          simp only
          rw [if_pos hfull]
        rw [e_sRet, e_mTup, e_mCons, q13]
        simp only
        rw [e_mCons, q16]
        simp only
        rw [e_mCons, q14]
        simp
      · cases hr
    · cases hr
  · cases hr

/-! ### the law's symbol: the chains -/
abbrev CHD (ch : List (Int × Int × Int)) : D := .lst ((ch.map chR).map fun r => .lst (r.map D.int))
theorem lchains_walk (L S G : D) (kk : Int) (n : Nat) (hs : n ≤ 63) (σ : Nat → Int) (o : Nat → Bool) (m : Nat → Int) (hod : ∀ i, F__law_odd [L, I (σ i)] = some (0, .bl (o i))) (hsu : ∀ i, F__law_sum [L, I (σ i)] = some (0, I (m i))) :
    ∃ x4 x6, mLoop (tName 4) (sIf (mtTr (mCall 2 F__law_odd (mCons 0 (mO (oVar 0)) (mCons 0 (mO (oVar 4)) mNil)))) (sIf (mtAnd (mtThaw (mtV (mBin dNe (mO (oVar 3)) (mLst 0 mNil)))) (mtP (pB (pBin dEq (pBin dIx (pBin dIx (pVar 3) (pBin dSub (pCall dLen (pCons (pVar 3) pNil)) (pC (.int 1)))) (pC (.int 1))) (pBin dSub (pVar 4) (pC (.int 1))))))) (sSeq (sAsg 6 (mPop 3))
    (sApp0 3 (mLst 0 (mCons 0 (mO (oIx (oVar 6) (pC (.int 0)))) (mCons 0 (mO (oVar 4)) (mCons 0 (mBinF dAddG (mO (oIx (oVar 6) (pC (.int 2)))) (mCall 2 F__law_sum (mCons 0 (mO (oVar 0)) (mCons 0 (mO (oVar 4)) mNil)))) mNil)))))) (sApp0 3 (mLst 0 (mCons 0 (mO (oVar 4)) (mCons 0 (mO (oVar 4)) (mCons 0 (mCall 2 F__law_sum (mCons 0 (mO (oVar 0)) (mCons 0 (mO (oVar 4)) mNil))) mNil)))))) sNx) ((List.range n).map fun i => D.int (σ i)) [some (0, L), some (0, I kk), some (0, S), some (2, .lst []), none, some (1, G), none, none, none, none, none, none, none, none, none, none]
      = some (.nx [some (0, L), some (0, I kk), some (0, S), some (2, CHD (LC σ o m n)), x4, some (1, G), x6, none, none, none, none, none, none, none, none, none]) := by
  have hLl := LC_len σ o m
  obtain ⟨ρ', e, x2, x3, he⟩ := loopN (tg := tName 4)
    (body := (sIf (mtTr (mCall 2 F__law_odd (mCons 0 (mO (oVar 0)) (mCons 0 (mO (oVar 4)) mNil)))) (sIf (mtAnd (mtThaw (mtV (mBin dNe (mO (oVar 3)) (mLst 0 mNil)))) (mtP (pB (pBin dEq (pBin dIx (pBin dIx (pVar 3) (pBin dSub (pCall dLen (pCons (pVar 3) pNil)) (pC (.int 1)))) (pC (.int 1))) (pBin dSub (pVar 4) (pC (.int 1))))))) (sSeq (sAsg 6 (mPop 3))
    (sApp0 3 (mLst 0 (mCons 0 (mO (oIx (oVar 6) (pC (.int 0)))) (mCons 0 (mO (oVar 4)) (mCons 0 (mBinF dAddG (mO (oIx (oVar 6) (pC (.int 2)))) (mCall 2 F__law_sum (mCons 0 (mO (oVar 0)) (mCons 0 (mO (oVar 4)) mNil)))) mNil)))))) (sApp0 3 (mLst 0 (mCons 0 (mO (oVar 4)) (mCons 0 (mO (oVar 4)) (mCons 0 (mCall 2 F__law_sum (mCons 0 (mO (oVar 0)) (mCons 0 (mO (oVar 4)) mNil))) mNil)))))) sNx))
    n (fun i => .int (σ i)) (fun i ρ => ∃ x2 x3, ρ = [some (0, L), some (0, I kk), some (0, S), some (2, .lst (((LC σ o m i).map chR).map fun r => .lst (r.map D.int))), x2, some (1, G), x3, none, none, none, none, none, none, none, none, none])
    (ρ := [some (0, L), some (0, I kk), some (0, S), some (2, .lst []), none, some (1, G), none, none, none, none, none, none, none, none, none, none]) ⟨none, none, rfl⟩ fun i ρ hi ⟨x2, x3, hρ⟩ => by
      subst hρ
      have hod := hod i
      have hsu := hsu i
      have hLl := hLl i
      cases ho : o i with
      | false =>
        rw [ho] at hod
        have e1 : LC σ o m (i + 1) = LC σ o m i := by rw [LC]; simp [ho]
        rw [e1]
        generalize D.lst (((LC σ o m i).map chR).map fun r => .lst (r.map D.int)) = M
        refine ⟨[some (0, L), some (0, I kk), some (0, S), some (2, M), some (0, I (σ i)), some (1, G), x3, none, none, none, none, none, none, none, none, none], [some (0, L), some (0, I kk), some (0, S), some (2, M), some (0, I (σ i)), some (1, G), x3, none, none, none, none, none, none, none, none, none], rfl, ?_, _, _, rfl⟩
        simp [hod]
      | true =>
        rw [ho] at hod
        cases hg : (LC σ o m i).getLast? with
        | none =>
          have e0 : LC σ o m i = [] := List.getLast?_eq_none_iff.mp hg
          have e1 : LC σ o m (i + 1) = [(σ i, σ i, m i)] := by rw [LC]; simp [ho, e0]
          rw [e0, e1]
          refine ⟨[some (0, L), some (0, I kk), some (0, S), some (2, .lst []), some (0, I (σ i)), some (1, G), x3, none, none, none, none, none, none, none, none, none], [some (0, L), some (0, I kk), some (0, S), some (2, .lst [.lst [.int (σ i), .int (σ i), .int (m i)]]), some (0, I (σ i)), some (1, G), x3, none, none, none, none, none, none, none, none, none], rfl, ?_, _, _, rfl⟩
          have e2 : dNe (.lst []) (.lst []) = some (.bl false) := ne_IL [] []
          rw [e_sIf]
          have t1 : mtTr (mCall 2 F__law_odd (mCons 0 (mO (oVar 0)) (mCons 0 (mO (oVar 4)) mNil))) [some (0, L), some (0, I kk), some (0, S), some (2, .lst []), some (0, I (σ i)), some (1, G), x3, none, none, none, none, none, none, none, none, none] = some (true, [some (0, L), some (0, I kk), some (0, S), some (2, .lst []), some (0, I (σ i)), some (1, G), x3, none, none, none, none, none, none, none, none, none]) := by simp [hod]
          rw [t1]
          show sIf _ _ _ _ = _
          rw [e_sIf]
          simp [e2]
          rw [app0_ok (x := .non) (l := []) (d := .lst [.int (σ i), .int (σ i), .int (m i)]) (kc := 1) (ρ1 := [some (0, L), some (0, I kk), some (0, S), some (2, .lst []), some (0, I (σ i)), some (1, G), x3, none, none, none, none, none, none, none, none, none]) rfl (by simp [hsu]) rfl (by simp) (by simp)]
          rfl
        | some t =>
          obtain ⟨A, hA⟩ := snoc_of hg
          have hAl : A.length + 1 ≤ i := by rw [hA, List.length_append] at hLl; simpa using hLl
          have eD : (((A ++ [t]).map chR).map fun r => D.lst (r.map D.int)) = (A.map fun t => D.lst ((chR t).map D.int)) ++ [.lst [.int t.1, .int t.2.1, .int t.2.2]] := by simp [chR]
          have hne : dNe (.lst ((A.map fun t => D.lst ((chR t).map D.int)) ++ [.lst [.int t.1, .int t.2.1, .int t.2.2]])) (.lst []) = some (.bl true) := by
            have := ne_snoc (A.map chR) (chR t)
            rw [show A.map chR ++ [chR t] = (A ++ [t]).map chR by simp, eD] at this
            exact this
          have hal := at_last (A.map fun t => D.lst ((chR t).map D.int)) (.lst [.int t.1, .int t.2.1, .int t.2.2])
          have hlen : (A.map fun t => D.lst ((chR t).map D.int)).length = A.length := by simp
          rw [hA, eD]
          have e1 : LC σ o m (i + 1) = if t.2.1 = σ i - 1 then A ++ [(t.1, σ i, t.2.2 + m i)] else A ++ [t] ++ [(σ i, σ i, m i)] := by
            rw [LC]; simp only [ho, hg, if_true]; rw [hA, List.dropLast_concat]
          have e3 : (((LC σ o m (i + 1)).map chR).map fun r => D.lst (r.map D.int)) = if t.2.1 = σ i - 1 then (A.map fun t => D.lst ((chR t).map D.int)) ++ [.lst [.int t.1, .int (σ i), .int (t.2.2 + m i)]] else ((A.map fun t => D.lst ((chR t).map D.int)) ++ [.lst [.int t.1, .int t.2.1, .int t.2.2]]) ++ [.lst [.int (σ i), .int (σ i), .int (m i)]] := by
            rw [e1]; split <;> simp [chR]
          generalize (A.map fun t => D.lst ((chR t).map D.int)) = B at hne hal hlen e3 ⊢
          rw [e3]
          generalize hC : B ++ [D.lst [.int t.1, .int t.2.1, .int t.2.2]] = C at hne hal ⊢
          have t1 : mtTr (mCall 2 F__law_odd (mCons 0 (mO (oVar 0)) (mCons 0 (mO (oVar 4)) mNil))) [some (0, L), some (0, I kk), some (0, S), some (2, .lst C), some (0, I (σ i)), some (1, G), x3, none, none, none, none, none, none, none, none, none] = some (true, [some (0, L), some (0, I kk), some (0, S), some (2, .lst C), some (0, I (σ i)), some (1, G), x3, none, none, none, none, none, none, none, none, none]) := by simp [hod]
          have t2 : (mtAnd (mtThaw (mtV (mBin dNe (mO (oVar 3)) (mLst 0 mNil)))) (mtP (pB (pBin dEq (pBin dIx (pBin dIx (pVar 3) (pBin dSub (pCall dLen (pCons (pVar 3) pNil)) (pC (.int 1)))) (pC (.int 1))) (pBin dSub (pVar 4) (pC (.int 1))))))) [some (0, L), some (0, I kk), some (0, S), some (2, .lst C), some (0, I (σ i)), some (1, G), x3, none, none, none, none, none, none, none, none, none]
              = some (decide (t.2.1 = σ i - 1), [some (0, L), some (0, I kk), some (0, S), some (2, .lst C), some (0, I (σ i)), some (1, G), x3, none, none, none, none, none, none, none, none, none]) := by
            simp [hne, hal]
          by_cases hb : t.2.1 = σ i - 1
          · rw [decide_eq_true hb] at t2
            rw [if_pos hb]
            refine ⟨[some (0, L), some (0, I kk), some (0, S), some (2, .lst C), some (0, I (σ i)), some (1, G), x3, none, none, none, none, none, none, none, none, none], [some (0, L), some (0, I kk), some (0, S), some (2, .lst (B ++ [.lst [.int t.1, .int (σ i), .int (t.2.2 + m i)]])), some (0, I (σ i)), some (1, G), some (1, .lst [.int t.1, .int t.2.1, .int t.2.2]), none, none, none, none, none, none, none, none, none], rfl, ?_, _, _, rfl⟩
            rw [e_sIf, t1]
            show sIf _ _ _ _ = _
            rw [e_sIf, t2]
            show sSeq _ _ _ = _
            subst hC
            rw [seq_nx (ρ1 := [some (0, L), some (0, I kk), some (0, S), some (2, .lst B), some (0, I (σ i)), some (1, G), some (1, .lst [.int t.1, .int t.2.1, .int t.2.2]), none, none, none, none, none, none, none, none, none]) (by rw [e_sAsg, pop_ok rfl]; rfl)]
            rw [app0_ok (x := .non) (l := B) (d := .lst [.int t.1, .int (σ i), .int (t.2.2 + m i)]) (kc := 1) (ρ1 := [some (0, L), some (0, I kk), some (0, S), some (2, .lst B), some (0, I (σ i)), some (1, G), some (1, .lst [.int t.1, .int t.2.1, .int t.2.2]), none, none, none, none, none, none, none, none, none]) rfl (by simp [hsu]) rfl (by omega) (by simp)]
            rfl
          · rw [decide_eq_false hb] at t2
            rw [if_neg hb]
            have hCl : C.length = A.length + 1 := by rw [← hC, List.length_append, hlen]; rfl
            refine ⟨[some (0, L), some (0, I kk), some (0, S), some (2, .lst C), some (0, I (σ i)), some (1, G), x3, none, none, none, none, none, none, none, none, none], [some (0, L), some (0, I kk), some (0, S), some (2, .lst (C ++ [.lst [.int (σ i), .int (σ i), .int (m i)]])), some (0, I (σ i)), some (1, G), x3, none, none, none, none, none, none, none, none, none], rfl, ?_, _, _, rfl⟩
            rw [e_sIf, t1]
            show sIf _ _ _ _ = _
            rw [e_sIf, t2]
            show sApp0 _ _ _ = _
            rw [app0_ok (x := .non) (l := C) (d := .lst [.int (σ i), .int (σ i), .int (m i)]) (kc := 1) (ρ1 := [some (0, L), some (0, I kk), some (0, S), some (2, .lst C), some (0, I (σ i)), some (1, G), x3, none, none, none, none, none, none, none, none, none]) rfl (by simp [hsu]) rfl (by omega) (by simp)]
            rfl
  subst he
  exact ⟨x2, x3, e⟩

/-! ### the law's symbol: the signs -/
def bump (z : Int) (c : Int × Int × Int) : Int × Int × Int := if (c.1 ≤ z ∧ z ≤ c.2.1) ∨ (c.1 ≤ z + 1 ∧ z + 1 ≤ c.2.1) then (c.1, c.2.1, c.2.2 + 4) else c
def bumps (low : Int) (k : Nat) (ch : List (Int × Int × Int)) : Option (List (Int × Int × Int)) := foldO (fun ch (t : Nat) => some (ch.map (bump (low + (t : Int) * 1)))) ch (List.range k)
def signL (O : Int → Bool) (σ : Nat → Int) (st : List Int × List (Int × Int × Int)) (i : Nat) : Option (List Int × List (Int × Int × Int)) :=
  if st.1.getD i 0 = -1 ∧ (List.range (stC (σ (i - 1)) (σ i))).all (stF O (σ (i - 1))) = true then
    (match bumps (σ (i - 1)) (σ i - σ (i - 1)).toNat st.2 with
      | some ch => some ((st.1.set i 1).set (i - 1) (0 - st.1.getD (i - 1) 0), ch)
      | none => none)
  else some st
def symL (n : Nat) (O : Int → Bool) (σ : Nat → Int) (u g m : Nat → Int) : Option (List (Int × Int × Bool × Int) × List (Int × Int)) :=
  match foldO (signL O σ) ((List.range n).map g, LC σ (fun i => O (σ i)) m n) ((List.range (n - 1)).map fun t => n - 1 - t) with
  | some (sg, ch) => some ((List.range n).map fun i => (σ i, u i, O (σ i), sg.getD i 0), ch.map fun c => (c.1, c.2.2 % 8))
  | none => none
section
variable (L : D) (kk : Int) (n : Nat) (σ : Nat → Int)
def frL (sg : List Int) (ch : List (Int × Int × Int)) (x4 x6 x7 x8 x9 x10 x11 : Option Cell) : Mn.Env := [some (0, L), some (0, I kk), some (0, IL ((List.range n).map σ)), some (2, CHD ch), x4, some (1, IL sg), x6, x7, x8, x9, x10, x11, none, none, none, none]
abbrev bBump : Mn.Env → Option Out := (sForM 3 12 (sIf (mtP (ptOr (pB (pChain dLe dLe (pBin dIx (pVar 12) (pC (.int 0))) (pVar 10) (pBin dIx (pVar 12) (pC (.int 1))))) (pB (pChain dLe dLe (pBin dIx (pVar 12) (pC (.int 0))) (pBin dAdd (pVar 10) (pC (.int 1))) (pBin dIx (pVar 12) (pC (.int 1))))))) (sSet 12 plNil (pC (.int 2)) (mP (pBin dAdd (pBin dIx (pVar 12) (pC (.int 2))) (pC (.int 4))))) sNx))
theorem bump_walk (sg : List Int) (ch : List (Int × Int × Int)) (x4 x6 x7 x8 x9 x11 : Option Cell) (z : Int) : bBump (frL L kk n σ sg ch x4 x6 x7 x8 x9 (some (0, I z)) x11) = some (.nx (frL L kk n σ sg (ch.map (bump z)) x4 x6 x7 x8 x9 (some (0, I z)) x11)) := by
  have hE : ∀ ch : List (Int × Int × Int), CHD ch = .lst (ch.map fun c => .lst [.int c.1, .int c.2.1, .int c.2.2]) := fun ch => by
    show D.lst _ = D.lst _
    rw [List.map_map]
    rfl
  have key := forM_map (α := Int × Int × Int) (i := 3) (r := 12) (k := 1) (ρ := frL L kk n σ sg ch x4 x6 x7 x8 x9 (some (0, I z)) x11) (ρ0 := [some (0, L), some (0, I kk), some (0, IL ((List.range n).map σ)), none, x4, some (1, IL sg), x6, x7, x8, x9, some (0, I z), x11, none, none, none, none])
    (body := (sIf (mtP (ptOr (pB (pChain dLe dLe (pBin dIx (pVar 12) (pC (.int 0))) (pVar 10) (pBin dIx (pVar 12) (pC (.int 1))))) (pB (pChain dLe dLe (pBin dIx (pVar 12) (pC (.int 0))) (pBin dAdd (pVar 10) (pC (.int 1))) (pBin dIx (pVar 12) (pC (.int 1))))))) (sSet 12 plNil (pC (.int 2)) (mP (pBin dAdd (pBin dIx (pVar 12) (pC (.int 2))) (pC (.int 4))))) sNx))
    (enc := fun c => .lst [.int c.1, .int c.2.1, .int c.2.2]) (enc' := fun c => .lst [.int (bump z c).1, .int (bump z c).2.1, .int (bump z c).2.2]) (l := ch) (by unfold frL; rw [hE]; rfl) (by decide) (by unfold frL; simp) rfl fun c _ => by
      generalize IL ((List.range n).map σ) = S
      generalize IL sg = G
      refine ⟨1, [some (0, L), some (0, I kk), some (0, S), none, x4, some (1, G), x6, x7, x8, x9, some (0, I z), x11, some (1, .lst [.int (bump z c).1, .int (bump z c).2.1, .int (bump z c).2.2]), none, none, none], ?_, rfl, rfl, Nat.le_refl _, rfl⟩
      show sIf _ _ _ [some (0, L), some (0, I kk), some (0, S), none, x4, some (1, G), x6, x7, x8, x9, some (0, I z), x11, some (1, .lst [.int c.1, .int c.2.1, .int c.2.2]), none, none, none] = _
      have ht : ∀ b, decide ((c.1 ≤ z ∧ z ≤ c.2.1) ∨ (c.1 ≤ z + 1 ∧ z + 1 ≤ c.2.1)) = b → (mtP (ptOr (pB (pChain dLe dLe (pBin dIx (pVar 12) (pC (.int 0))) (pVar 10) (pBin dIx (pVar 12) (pC (.int 1))))) (pB (pChain dLe dLe (pBin dIx (pVar 12) (pC (.int 0))) (pBin dAdd (pVar 10) (pC (.int 1))) (pBin dIx (pVar 12) (pC (.int 1))))))) [some (0, L), some (0, I kk), some (0, S), none, x4, some (1, G), x6, x7, x8, x9, some (0, I z), x11, some (1, .lst [.int c.1, .int c.2.1, .int c.2.2]), none, none, none]
          = some (b, [some (0, L), some (0, I kk), some (0, S), none, x4, some (1, G), x6, x7, x8, x9, some (0, I z), x11, some (1, .lst [.int c.1, .int c.2.1, .int c.2.2]), none, none, none]) := fun b hb => by
        rw [← hb]
        by_cases h1 : c.1 ≤ z <;> by_cases h2 : z ≤ c.2.1 <;> by_cases h3 : c.1 ≤ z + 1 <;> by_cases h4 : z + 1 ≤ c.2.1 <;> simp [h1, h2, h3, h4]
      rw [e_sIf]
      unfold bump
      by_cases h : (c.1 ≤ z ∧ z ≤ c.2.1) ∨ (c.1 ≤ z + 1 ∧ z + 1 ≤ c.2.1)
      · rw [ht true (decide_eq_true h), if_pos h]
        show sSet _ _ _ _ _ = _
        rw [set_row (p := 2) (k := 1) (kc := 0) (l := [.int c.1, .int c.2.1, .int c.2.2]) (d := .int (c.2.2 + 4)) (ρ1 := [some (0, L), some (0, I kk), some (0, S), none, x4, some (1, G), x6, x7, x8, x9, some (0, I z), x11, some (1, .lst [.int c.1, .int c.2.1, .int c.2.2]), none, none, none]) (by simp) rfl rfl (by simp) rfl (by omega)]
        rfl
      · rw [ht false (decide_eq_false h), if_neg h]
        rfl
  refine key.trans ?_
  unfold frL
  rw [hE (ch.map (bump z)), List.map_map]
  rfl
theorem bumps_walk (sg : List Int) (ch ch' : List (Int × Int × Int)) (x4 x6 x7 x8 x9 x10 x11 : Option Cell) (low : Int) (k : Nat) (h : bumps low k ch = some ch') : ∃ ρ', mLoop (tName 10) bBump (rng low 1 k) (frL L kk n σ sg ch x4 x6 x7 x8 x9 x10 x11) = some (.nx ρ') ∧ ∃ x10, ρ' = frL L kk n σ sg ch' x4 x6 x7 x8 x9 x10 x11 :=
  loopO (fun t : Nat => D.int (low + (t : Int) * 1)) (fun ch ρ => ∃ x10, ρ = frL L kk n σ sg ch x4 x6 x7 x8 x9 x10 x11) (fun ch (t : Nat) => some (ch.map (bump (low + (t : Int) * 1)))) (fun _ => True) (fun s t s' ρ _ hf ⟨x10, hρ⟩ => by
    cases hf
    subst hρ
    exact ⟨_, _, rfl, bump_walk L kk n σ sg s x4 x6 x7 x8 x9 x11 (low + (t : Int) * 1), _, rfl⟩) (List.range k) ch ch' _ (fun _ _ => trivial) h ⟨x10, rfl⟩
end

theorem lsigns_walk (L : D) (kk : Int) (n : Nat) (hn : n ≤ 63) (σ : Nat → Int) (O : Int → Bool) (hod : ∀ z, F__law_odd [L, I z] = some (0, .bl (O z))) (hbd : ∀ i, i < n → 0 ≤ σ i ∧ σ i ≤ 2000) (x4 x6 : Option Cell) (st st' : List Int × List (Int × Int × Int)) (hl : st.1.length = n)
    (hs : foldO (signL O σ) st ((List.range (n - 1)).map fun t => n - 1 - t) = some st') :
    ∃ ρ', mLoop (tName 7) (sSeq (sPar2 8 9 (mO (oIx (oVar 2) (pBin dSub (pVar 7) (pC (.int 1))))) (mO (oIx (oVar 2) (pVar 7))))
    (sSeq (sAsg 11 (mFz (mComp 0 (iRange (mCons 0 (mO (oVar 8)) (mCons 0 (mP (pCall dMinL (pCons (pVar 9) (pCons (pBin dAdd (pVar 8) (pC (.int 4))) pNil)))) mNil))) (tName 10) tYesM (mOr (mCall 2 F__law_odd (mCons 0 (mO (oVar 0)) (mCons 0 (mO (oVar 10)) mNil))) (mCall 2 F__law_odd (mCons 0 (mO (oVar 0)) (mCons 0 (mP (pBin dAdd (pVar 10) (pC (.int 1)))) mNil)))) [10])))
    (sIf (mtP (ptAnd (pB (pBin dEq (pBin dIx (pVar 5) (pVar 7)) (pUn dNeg (pC (.int 1))))) (pB (pBin dNotInG (pC (.bl false)) (pVar 11))))) (sSeq (sAsgT (mTup 0 (mCons 0 (mP (pC (.int 1))) (mCons 0 (mP (pBin dSub (pC (.int 0)) (pBin dIx (pVar 5) (pBin dSub (pVar 7) (pC (.int 1)))))) mNil))) (cTup 2 (csCons (cSub 5 plNil (pVar 7)) (csCons (cSub 5 plNil (pBin dSub (pVar 7) (pC (.int 1)))) csNil))))
    (sFor (iRange (mCons 0 (mO (oVar 8)) (mCons 0 (mO (oVar 9)) mNil))) (tName 10) bBump)) sNx)))
      (((List.range (n - 1)).map fun t => n - 1 - t).map fun t : Nat => D.int (t : Int)) (frL L kk n σ st.1 st.2 x4 x6 none none none none none) = some (.nx ρ') ∧ ∃ x7 x8 x9 x10 x11, ρ' = frL L kk n σ st'.1 st'.2 x4 x6 x7 x8 x9 x10 x11 ∧ st'.1.length = n := by
  refine loopO (fun t : Nat => D.int (t : Int)) (fun st ρ => ∃ x7 x8 x9 x10 x11, ρ = frL L kk n σ st.1 st.2 x4 x6 x7 x8 x9 x10 x11 ∧ st.1.length = n) (signL O σ) (fun i => 1 ≤ i ∧ i < n) (fun st i st' ρ hi hf ⟨x7, x8, x9, x10, x11, hρ, hl⟩ => ?_) _ st st' _ (fun a ha => ?_) hs ⟨none, none, none, none, none, rfl, hl⟩
  case refine_2 =>
    obtain ⟨t, ht, rfl⟩ := List.mem_map.mp ha
    have := List.mem_range.mp ht
    omega
  subst hρ
  obtain ⟨j, rfl⟩ : ∃ j, i = j + 1 := ⟨i - 1, by omega⟩
  have hS : IL ((List.range n).map σ) = .lst ((List.range n).map fun i => D.int (σ i)) := by simp
  have e2 := at_fun (fun i => D.int (σ i)) n (j + 1) hi.2
  have e2b := at_fun (fun i => D.int (σ i)) n j (by omega)
  have e5 := at_ints st.1 (j + 1) (by omega)
  have e5b := at_ints st.1 j (by omega)
  have b1 := hbd (j + 1) hi.2
  have b2 := hbd j (by omega)
  unfold signL at hf
  rw [show j + 1 - 1 = j from rfl] at hf
  have cj : ((j + 1 : Nat) : Int) = (j : Int) + 1 := rfl
  have cj2 : ((j : Int) + 1) - 1 = j := by omega
  have hst : stC (σ j) (σ (j + 1)) ≤ 4 := by unfold stC; split <;> omega
  have n1 := notIn_bl (List.range (stC (σ j) (σ (j + 1)))) (stF O (σ j))
  have hmin : dMinL [.int (σ (j + 1)), .int (σ j + 4)] = some (.int (if σ j + 4 < σ (j + 1) then σ j + 4 else σ (j + 1))) := rfl
  -- the frame behind the two settings
  let fr0 : List Int → List (Int × Int × Int) → Option Cell → Option Cell → Mn.Env := fun sg ch y10 y11 => frL L kk n σ sg ch x4 x6 (some (0, I ((j : Int) + 1))) (some (0, I (σ j))) (some (0, I (σ (j + 1)))) y10 y11
  have hc := comp_map1 (kc := 0) (it := (iRange (mCons 0 (mO (oVar 8)) (mCons 0 (mP (pCall dMinL (pCons (pVar 9) (pCons (pBin dAdd (pVar 8) (pC (.int 4))) pNil)))) mNil)))) (tg := tName 10) (x := (mOr (mCall 2 F__law_odd (mCons 0 (mO (oVar 0)) (mCons 0 (mO (oVar 10)) mNil))) (mCall 2 F__law_odd (mCons 0 (mO (oVar 0)) (mCons 0 (mP (pBin dAdd (pVar 10) (pC (.int 1)))) mNil))))) (own := [10])
    (ρ := fr0 st.1 st.2 x10 x11) (ρ1 := fr0 st.1 st.2 x10 x11) (ρ0 := fr0 st.1 st.2 none x11)
    (List.range (stC (σ j) (σ (j + 1)))) (fun t : Nat => .int (σ j + (t : Int) * 1)) (fun t => .bl (stF O (σ j) t)) (by
      rw [e_rg2 (i := σ j) (j := if σ j + 4 < σ (j + 1) then σ j + 4 else σ (j + 1)) (ρ1 := fr0 st.1 st.2 x10 x11) (by simp [fr0, frL]), okRng_mk (by omega), okRng_mk (by split <;> omega)]
      rfl) (by simp; omega) rfl fun t ht => ⟨fr0 st.1 st.2 (some (0, .int (σ j + (t : Int) * 1))) x11, rfl, rfl, 0, by
        have h1 := hod (σ j + (t : Int) * 1)
        have h2 := hod (σ j + (t : Int) * 1 + 1)
        unfold stF
        generalize σ j + (t : Int) * 1 = z at h1 h2 ⊢
        simp only [fr0, frL]
        cases hz : O z with
        | true => rw [hz] at h1; simp [h1]
        | false => rw [hz] at h1; simp [h1, h2], by simp⟩
  have s1 : sPar2 8 9 (mO (oIx (oVar 2) (pBin dSub (pVar 7) (pC (.int 1))))) (mO (oIx (oVar 2) (pVar 7))) (frL L kk n σ st.1 st.2 x4 x6 (some (0, I ((j : Int) + 1))) x8 x9 x10 x11) = some (.nx (fr0 st.1 st.2 x10 x11)) := by
    rw [cj] at e2
    simp only [fr0, frL, hS]
    generalize ((List.range n).map fun i => D.int (σ i)) = S at e2 e2b ⊢
    generalize IL st.1 = G
    generalize CHD st.2 = C
    simp [e2, e2b, cj2]
  have s2 : sAsg 11 (mFz (mComp 0 (iRange (mCons 0 (mO (oVar 8)) (mCons 0 (mP (pCall dMinL (pCons (pVar 9) (pCons (pBin dAdd (pVar 8) (pC (.int 4))) pNil)))) mNil))) (tName 10) tYesM (mOr (mCall 2 F__law_odd (mCons 0 (mO (oVar 0)) (mCons 0 (mO (oVar 10)) mNil))) (mCall 2 F__law_odd (mCons 0 (mO (oVar 0)) (mCons 0 (mP (pBin dAdd (pVar 10) (pC (.int 1)))) mNil)))) [10])) (fr0 st.1 st.2 x10 x11)
      = some (.nx (fr0 st.1 st.2 none (some (0, .lst ((List.range (stC (σ j) (σ (j + 1)))).map fun t => .bl (stF O (σ j) t)))))) := by
    rw [e_sAsg, e_mFz, hc]; rfl
  generalize D.lst ((List.range (stC (σ j) (σ (j + 1)))).map fun t => .bl (stF O (σ j) t)) = Q at n1 s2
  have hcond : ∀ c, decide (st.1.getD (j + 1) 0 = -1 ∧ (List.range (stC (σ j) (σ (j + 1)))).all (stF O (σ j)) = true) = c → (mtP (ptAnd (pB (pBin dEq (pBin dIx (pVar 5) (pVar 7)) (pUn dNeg (pC (.int 1))))) (pB (pBin dNotInG (pC (.bl false)) (pVar 11))))) (fr0 st.1 st.2 none (some (0, Q)))
      = some (c, fr0 st.1 st.2 none (some (0, Q))) := fun c hcc => by
    rw [← hcc]
    rw [cj] at e5
    simp only [fr0, frL]
    generalize st.1.getD (j + 1) 0 = y at e5 ⊢
    cases ha : (List.range (stC (σ j) (σ (j + 1)))).all (stF O (σ j)) with
    | false =>
      rw [ha] at n1
      by_cases h1 : y = -1
      · simp [e5, n1, h1]
      · simp [e5, h1]
    | true =>
      rw [ha] at n1
      by_cases h1 : y = -1
      · simp [e5, n1, h1]
      · simp [e5, h1]
  split at hf
  · rename_i hcc
    split at hf
    · rename_i ch2 hb2
      cases hf
      obtain ⟨ρ', e, y10, hz⟩ := bumps_walk L kk n σ ((st.1.set (j + 1) 1).set j (0 - st.1.getD j 0)) st.2 ch2 x4 x6 (some (0, I ((j : Int) + 1))) (some (0, I (σ j))) (some (0, I (σ (j + 1)))) none (some (0, Q)) (σ j) (σ (j + 1) - σ j).toNat hb2
      refine ⟨frL L kk n σ st.1 st.2 x4 x6 (some (0, I ((j : Int) + 1))) x8 x9 x10 x11, ρ', rfl, ?_, _, _, _, y10, _, hz, by simp [hl]⟩
      rw [seq_nx s1, seq_nx s2, e_sIf, hcond true (decide_eq_true hcc)]
      show sSeq _ _ _ = _
      rw [seq_nx (ρ1 := fr0 ((st.1.set (j + 1) 1).set j (0 - st.1.getD j 0)) st.2 none (some (0, Q))) (by
        have j1 := ixN_nat (n := st.1.length) (i := j + 1) (by omega)
        have j2 := ixN_nat (n := st.1.length) (i := j) (by omega)
        rw [cj] at j1
        simp only [fr0, frL]
        generalize st.1.getD j 0 = z at e5b ⊢
        generalize IL ((List.range n).map σ) = f1
        generalize CHD st.2 = f2
        have hq : (st.1.map D.int).length = st.1.length := List.length_map ..
        rw [show IL ((st.1.set (j + 1) 1).set j (0 - z)) = .lst (((st.1.map D.int).set (j + 1) (.int 1)).set j (.int (0 - z))) by rw [set_ints, set_ints]]
        rw [← hq] at j1 j2
        show sAsgT _ _ [_, _, _, _, _, some (1, .lst (st.1.map D.int)), _, _, _, _, _, _, _, _, _, _] = _
        generalize st.1.map D.int = M at e5b j1 j2 ⊢
        simp [e5b, plAt, D.at, D.put, j1, j2, cj2])]
      refine for_nx (ρ1 := fr0 ((st.1.set (j + 1) 1).set j (0 - st.1.getD j 0)) st.2 none (some (0, Q))) ?_ e
      rw [e_rg2 (i := σ j) (j := σ (j + 1)) (ρ1 := fr0 ((st.1.set (j + 1) 1).set j (0 - st.1.getD j 0)) st.2 none (some (0, Q))) (by simp [fr0, frL]), okRng_mk (by omega), okRng_mk (by omega)]
      rfl
    · cases hf
  · rename_i hcc
    cases hf
    refine ⟨frL L kk n σ st.1 st.2 x4 x6 (some (0, I ((j : Int) + 1))) x8 x9 x10 x11, fr0 st.1 st.2 none (some (0, Q)), rfl, ?_, _, _, _, _, _, rfl, hl⟩
    rw [seq_nx s1, seq_nx s2, e_sIf, hcond false (decide_eq_false hcc)]
    rfl

/-! ### the law's symbol -/
theorem own_unknowns (ps : List Pc) (s : Int) (hl : ps.length ≤ 1000) : F__law_unknowns [PL (ownS ps s)] = some (0, I (unP ps s)) :=
  law_unknowns_ok (ownS ps s) (Nat.le_trans (List.length_filter_le _ _) hl)
abbrev rTl (ps : List Pc) (sg : List Int) (i : Nat) : D := enc4 (sgm ps i, unP ps (sgm ps i), od ps (sgm ps i), sg.getD i 0)
def frM (ps : List Pc) (kk : Int) (sg : List Int) (ch : List (Int × Int × Int)) (x4 x6 x7 x8 x9 x10 x11 x13 x14 : Option Cell) : Mn.Env := [some (0, PL ps), some (0, I kk), some (0, IL ((List.range (scs ps).length).map (sgm ps))), some (2, CHD ch), x4, some (1, IL sg), x6, x7, x8, x9, x10, x11, none, x13, x14, none]
theorem rng_down1 (n : Nat) : rng ((n : Int) - 1) (-1) ((n : Int) - 1 - 0).toNat = ((List.range (n - 1)).map fun t => n - 1 - t).map fun t : Nat => D.int (t : Int) := by
  unfold rng
  rw [show ((n : Int) - 1 - 0).toNat = n - 1 by omega, List.map_map]
  refine List.map_congr_left fun i hi => ?_
  have := List.mem_range.mp hi
  show D.int _ = D.int ((n - 1 - i : Nat) : Int)
  congr 1
  omega
theorem told_walk {ps : List Pc} (g : Good ps) (kk : Int) (sg : List Int) (hsg : sg.length = (scs ps).length) (ch : List (Int × Int × Int)) (x4 x6 x7 x8 x9 x10 x11 : Option Cell) :
    ∃ ρ', mLoop (tTupT 2 (tsCons (tName 7) (tsCons (tName 4) tsNil))) (sSeq (sAsg 14 (mFz (mComp 0 (iSeq (mO (oVar 0))) (tName 15) (mtP (pB (pBin dEq (pBin dIx (pVar 15) (pC (.int 0))) (pVar 4)))) (mO (oVar 15)) [15])))
    (sApp0 13 (mTup 0 (mCons 0 (mO (oVar 4)) (mCons 0 (mCall 1 F__law_unknowns (mCons 0 (mO (oVar 14)) mNil)) (mCons 0 (mCall 2 F__law_odd (mCons 0 (mO (oVar 0)) (mCons 0 (mO (oVar 4)) mNil))) (mCons 0 (mO (oIx (oVar 5) (pVar 7))) mNil)))))))
      (enumD 0 ((List.range (scs ps).length).map fun i => D.int (sgm ps i))) (frM ps kk sg ch x4 x6 x7 x8 x9 x10 x11 (some (1, .lst [])) none) = some (.nx ρ') ∧
      ∃ x4 x7 x14, ρ' = frM ps kk sg ch x4 x6 x7 x8 x9 x10 x11 (some (1, .lst ((List.range (scs ps).length).map (rTl ps sg)))) x14 := by
  have hl := g.len
  have hs := scs_len ps
  refine loopE (scs ps).length (fun i => D.int (sgm ps i)) (fun i ρ => ∃ x4 x7 x14, ρ = frM ps kk sg ch x4 x6 x7 x8 x9 x10 x11 (some (1, .lst ((List.range i).map (rTl ps sg)))) x14) ⟨x4, x7, none, rfl⟩ fun i ρ hi ⟨x4, x7, x14, hρ⟩ => ?_
  subst hρ
  refine ⟨frM ps kk sg ch (some (0, I (sgm ps i))) x6 (some (0, I i)) x8 x9 x10 x11 (some (1, .lst ((List.range i).map (rTl ps sg)))) x14, frM ps kk sg ch (some (0, I (sgm ps i))) x6 (some (0, I i)) x8 x9 x10 x11 (some (1, .lst ((List.range (i + 1)).map (rTl ps sg)))) (some (0, PL (ownS ps (sgm ps i)))), rfl, ?_, _, _, _, rfl⟩
  have c := comp_map (kc := 0) (it := iSeq (mO (oVar 0))) (tg := tName 15) (t := mtP (pB (pBin dEq (pBin dIx (pVar 15) (pC (.int 0))) (pVar 4)))) (x := mO (oVar 15)) (own := [15])
    (ρ := frM ps kk sg ch (some (0, I (sgm ps i))) x6 (some (0, I i)) x8 x9 x10 x11 (some (1, .lst ((List.range i).map (rTl ps sg)))) x14) (ρ1 := frM ps kk sg ch (some (0, I (sgm ps i))) x6 (some (0, I i)) x8 x9 x10 x11 (some (1, .lst ((List.range i).map (rTl ps sg)))) x14) (ρ0 := frM ps kk sg ch (some (0, I (sgm ps i))) x6 (some (0, I i)) x8 x9 x10 x11 (some (1, .lst ((List.range i).map (rTl ps sg)))) x14)
    ps pcD (fun p => decide (p.1 = sgm ps i)) pcD (by unfold frM; simp) (by omega) rfl fun p hp => ⟨(frM ps kk sg ch (some (0, I (sgm ps i))) x6 (some (0, I i)) x8 x9 x10 x11 (some (1, .lst ((List.range i).map (rTl ps sg)))) x14).set 15 (some (0, pcD p)), rfl, by unfold frM; simp, rfl, fun _ => ⟨0, by unfold frM; simp, by simp⟩⟩
  rw [seq_nx (ρ1 := frM ps kk sg ch (some (0, I (sgm ps i))) x6 (some (0, I i)) x8 x9 x10 x11 (some (1, .lst ((List.range i).map (rTl ps sg)))) (some (0, PL (ownS ps (sgm ps i))))) (by rw [e_sAsg, e_mFz, c]; rfl)]
  rw [map_snoc (α := Nat)]
  have hu := own_unknowns ps (sgm ps i) (by omega)
  have ho := law_odd_ok ps (sgm ps i) (by omega)
  have e5 := at_ints sg i (by omega)
  have hrl : ((List.range i).map (rTl ps sg)).length = i := by simp
  generalize ((List.range i).map (rTl ps sg)) = T at hrl ⊢
  unfold rTl
  rw [app0_ok (x := .non) (l := T) (d := enc4 (sgm ps i, unP ps (sgm ps i), od ps (sgm ps i), sg.getD i 0)) (kc := 1) (ρ1 := frM ps kk sg ch (some (0, I (sgm ps i))) x6 (some (0, I i)) x8 x9 x10 x11 (some (1, .lst T)) (some (0, PL (ownS ps (sgm ps i))))) rfl (by
    unfold frM
    generalize PL ps = L at ho ⊢
    generalize PL (ownS ps (sgm ps i)) = Wn at hu ⊢
    generalize IL ((List.range (scs ps).length).map (sgm ps)) = S
    generalize CHD ch = C
    generalize sg.getD i 0 = z at e5 ⊢
    simp [hu, ho, e5]) rfl (by omega) (by simp)]
  rfl
theorem law_symbol_ok {ps : List Pc} (g : Good ps) (kk : Int) (r : List (Int × Int × Bool × Int) × List (Int × Int)) (hr : symL (scs ps).length (od ps) (sgm ps) (fun i => unP ps (sgm ps i)) (fun i => sgP ps (sgm ps i)) (mP' ps) = some r) :
    F__law_symbol [PL ps, I kk] = some (1, .tup [.lst (r.1.map enc4), .lst (r.2.map enc2), I (kk - (ps.map uk).sum)]) := by
  have hl := g.len
  have hs := scs_len ps
  unfold symL at hr
  split at hr
  · rename_i sg ch hf
    cases hr
    have hsc := law_scales_ok ps (by omega)
    have hS : IL (scs ps) = IL ((List.range (scs ps).length).map (sgm ps)) := congrArg IL (scs_range ps)
    have hS2 : IL ((List.range (scs ps).length).map (sgm ps)) = .lst ((List.range (scs ps).length).map fun i => D.int (sgm ps i)) := by simp
    rw [hS] at hsc
    have hun := law_unknowns_ok ps (by omega)
    have hsl : dLen [IL ((List.range (scs ps).length).map (sgm ps))] = some (.int (scs ps).length) := by simp
    obtain ⟨x4, x6, el⟩ := lchains_walk (PL ps) (IL ((List.range (scs ps).length).map (sgm ps))) (IL ((List.range (scs ps).length).map fun i => sgP ps (sgm ps i))) kk (scs ps).length (by omega) (sgm ps) (fun i => od ps (sgm ps i)) (mP' ps) (fun i => law_odd_ok ps _ (by omega)) (fun i => law_sum_ok ps _ (by omega))
    obtain ⟨ρ2, em, x7, x8, x9, x10, x11, rfl, hsg⟩ := lsigns_walk (PL ps) kk (scs ps).length (by omega) (sgm ps) (od ps) (fun z => law_odd_ok ps z (by omega)) (fun i hi => sgm_bd g hi) x4 x6 _ _ (by simp) hf
    obtain ⟨ρ3, et, y4, y7, y14, rfl⟩ := told_walk g kk sg hsg ch x4 x6 x7 x8 x9 x10 x11
    have c5 := comp_map1 (kc := 0) (it := iSeq (mO (oVar 2))) (tg := tName 4) (x := mCall 2 F__law_sign (mCons 0 (mO (oVar 0)) (mCons 0 (mO (oVar 4)) mNil))) (own := [4])
      (ρ := [some (0, PL ps), some (0, I kk), some (0, IL ((List.range (scs ps).length).map (sgm ps))), some (2, .lst []), none, none, none, none, none, none, none, none, none, none, none, none]) (ρ1 := [some (0, PL ps), some (0, I kk), some (0, IL ((List.range (scs ps).length).map (sgm ps))), some (2, .lst []), none, none, none, none, none, none, none, none, none, none, none, none]) (ρ0 := [some (0, PL ps), some (0, I kk), some (0, IL ((List.range (scs ps).length).map (sgm ps))), some (2, .lst []), none, none, none, none, none, none, none, none, none, none, none, none])
      (List.range (scs ps).length) (fun i => D.int (sgm ps i)) (fun i => D.int (sgP ps (sgm ps i))) (by rw [hS2]; simp) (by simp; omega) rfl fun i hi => ⟨[some (0, PL ps), some (0, I kk), some (0, IL ((List.range (scs ps).length).map (sgm ps))), some (2, .lst []), some (0, I (sgm ps i)), none, none, none, none, none, none, none, none, none, none, none], rfl, rfl, 0, by
        have h := law_sign_ok ps (sgm ps i)
        generalize IL ((List.range (scs ps).length).map (sgm ps)) = S
        generalize PL ps = L at h ⊢
        simp [h], by simp⟩
    have hLl := LC_len (sgm ps) (fun i => od ps (sgm ps i)) (mP' ps) (scs ps).length
    have hchl : ch.length ≤ (scs ps).length := by
      have := sets_len (signL (od ps) (sgm ps)) (fun st => st.2.length) (fun st i st' e => by
        unfold signL at e
        split at e
        · split at e
          · rename_i ch2 e2
            cases e
            unfold bumps at e2
            have h9 : ch2.length = st.2.length := sets_len _ List.length (fun s a s' e => by cases e; simp) _ _ _ e2
            exact h9
          · cases e
        · cases e; rfl) _ _ _ hf
      simp only at this
      omega
    have c3 : ∀ R : Mn.Env, R[3]? = some (some (2, CHD ch)) → R.length = 16 → R[12]? = some none → mThaw (mComp 1 (iSeq (mO (oVar 3))) (tName 12) tYesM (mTup 0 (mCons 0 (mO (oIx (oVar 12) (pC (.int 0)))) (mCons 0 (mP (pBin dMod (pCall dInt (pCons (pBin dIx (pVar 12) (pC (.int 2))) pNil)) (pC (.int 8)))) mNil))) [12]) R
        = some ((2, .lst (ch.map fun c => enc2 (c.1, c.2.2 % 8))), R) := fun R hR hRl hR12 => by
      have hlow3 : (low R)[3]? = some (some (0, CHD ch)) := by unfold low; rw [List.getElem?_map, hR]; rfl
      have hlowl : (low R).length = 16 := by unfold low; rw [List.length_map, hRl]
      have hw : wipeE (low R) [12] = low R := by
        have : (low R)[12]? = some none := by unfold low; rw [List.getElem?_map, hR12]; rfl
        show (low R).set 12 none = low R
        refine List.ext_getElem? fun q => ?_
        rw [List.getElem?_set]
        split
        · rename_i hq; subst hq; rw [if_pos (by omega), this]
        · rfl
      have c := comp_map1 (kc := 1) (it := iSeq (mO (oVar 3))) (tg := tName 12) (x := (mTup 0 (mCons 0 (mO (oIx (oVar 12) (pC (.int 0)))) (mCons 0 (mP (pBin dMod (pCall dInt (pCons (pBin dIx (pVar 12) (pC (.int 2))) pNil)) (pC (.int 8)))) mNil)))) (own := [12])
        (ρ := low R) (ρ1 := low R) (ρ0 := low R) ch (fun c => .lst [.int c.1, .int c.2.1, .int c.2.2]) (fun c => enc2 (c.1, c.2.2 % 8)) (by
          rw [show (ch.map fun c => D.lst [.int c.1, .int c.2.1, .int c.2.2]) = (ch.map chR).map fun r => .lst (r.map D.int) by rw [List.map_map]; rfl]
          simp [hlow3]) (by omega) hw fun c _ => ⟨(low R).set 12 (some (0, .lst [.int c.1, .int c.2.1, .int c.2.2])), by simp [hlowl], by
            show ((low R).set 12 _).set 12 none = low R
            rw [List.set_set]
            exact hw, 1, by simp [hlowl], by simp⟩
      have hfull : D.full 2 (.lst (ch.map fun c => enc2 (c.1, c.2.2 % 8))) = true := by
        rw [e_fullL, List.all_eq_true]
        intro d hd
        obtain ⟨k, _, rfl⟩ := List.mem_map.mp hd
        rfl
      rw [e_mThaw, c]
      simp only
      rw [if_pos hfull]
    refine run0_rt (ρ := [some (0, PL ps), some (0, I kk), none, none, none, none, none, none, none, none, none, none, none, none, none, none]) (ρ' := frM ps kk sg ch y4 x6 y7 x8 x9 x10 x11 (some (0, .lst ((List.range (scs ps).length).map (rTl ps sg)))) y14) rfl ?_
    unfold m__law_symbol
    rw [seq_nx (ρ1 := [some (0, PL ps), some (0, I kk), some (0, IL ((List.range (scs ps).length).map (sgm ps))), some (2, .lst []), none, none, none, none, none, none, none, none, none, none, none, none]) (by
      generalize IL ((List.range (scs ps).length).map (sgm ps)) = S at hsc ⊢
      generalize PL ps = L at hsc ⊢
      simp [hsc])]
    rw [seq_nx (ρ1 := [some (0, PL ps), some (0, I kk), some (0, IL ((List.range (scs ps).length).map (sgm ps))), some (2, .lst []), none, some (1, IL ((List.range (scs ps).length).map fun i => sgP ps (sgm ps i))), none, none, none, none, none, none, none, none, none, none]) (by
      rw [e_sAsg, c5, show (D.lst ((List.range (scs ps).length).map fun i => .int (sgP ps (sgm ps i)))) = IL ((List.range (scs ps).length).map fun i => sgP ps (sgm ps i)) by simp]
      rfl)]
    rw [seq_nx (for_nx (ρ1 := [some (0, PL ps), some (0, I kk), some (0, IL ((List.range (scs ps).length).map (sgm ps))), some (2, .lst []), none, some (1, IL ((List.range (scs ps).length).map fun i => sgP ps (sgm ps i))), none, none, none, none, none, none, none, none, none, none]) (ds := (List.range (scs ps).length).map fun i => D.int (sgm ps i)) (by
      rw [hS2]
      generalize PL ps = L
      generalize IL ((List.range (scs ps).length).map fun i => sgP ps (sgm ps i)) = G
      simp) el)]
    rw [seq_nx (for_nx (ρ1 := frL (PL ps) kk (scs ps).length (sgm ps) ((List.range (scs ps).length).map fun i => sgP ps (sgm ps i)) (LC (sgm ps) (fun i => od ps (sgm ps i)) (mP' ps) (scs ps).length) x4 x6 none none none none none) (ds := ((List.range ((scs ps).length - 1)).map fun t => (scs ps).length - 1 - t).map fun t : Nat => D.int (t : Int)) (by
      rw [← rng_down1]
      unfold frL
      generalize IL ((List.range (scs ps).length).map (sgm ps)) = S at hsl ⊢
      have h1 : okRng (((scs ps).length : Int) - 1) = true := okRng_mk (by omega)
      have h2 : okRng 0 = true := okRng_mk (by omega)
      unfold iRange
      simp [hsl, h1, h2]) em)]
    rw [seq_nx (ρ1 := frM ps kk sg ch x4 x6 x7 x8 x9 x10 x11 (some (1, .lst [])) none) (by unfold frL frM; simp)]
    rw [seq_nx (for_nx (ρ1 := frM ps kk sg ch x4 x6 x7 x8 x9 x10 x11 (some (1, .lst [])) none) (ds := enumD 0 ((List.range (scs ps).length).map fun i => D.int (sgm ps i))) (iEnumM_eq (by unfold frM; rw [hS2]; simp)) et)]
    have c3 := c3 (frM ps kk sg ch y4 x6 y7 x8 x9 x10 x11 (some (0, .lst ((List.range (scs ps).length).map (rTl ps sg)))) y14) rfl rfl rfl
    have q13 : mSh 13 (frM ps kk sg ch y4 x6 y7 x8 x9 x10 x11 (some (1, .lst ((List.range (scs ps).length).map (rTl ps sg)))) y14) = some ((0, .lst ((List.range (scs ps).length).map (rTl ps sg))), frM ps kk sg ch y4 x6 y7 x8 x9 x10 x11 (some (0, .lst ((List.range (scs ps).length).map (rTl ps sg)))) y14) := rfl
    have qz : mBin dSub (mO (oVar 1)) (mCall 1 F__law_unknowns (mCons 0 (mO (oVar 0)) mNil)) (frM ps kk sg ch y4 x6 y7 x8 x9 x10 x11 (some (0, .lst ((List.range (scs ps).length).map (rTl ps sg)))) y14)
        = some ((0, I (kk - (ps.map uk).sum)), frM ps kk sg ch y4 x6 y7 x8 x9 x10 x11 (some (0, .lst ((List.range (scs ps).length).map (rTl ps sg)))) y14) := by
      unfold frM
      generalize PL ps = L at hun ⊢
      generalize IL ((List.range (scs ps).length).map (sgm ps)) = S
      generalize (ps.map uk).sum = z at hun ⊢
      simp [hun]
    rw [List.map_map, List.map_map]
    show sRet _ _ = some (.rt (1, .tup [.lst ((List.range (scs ps).length).map (rTl ps sg)), .lst (ch.map fun c => enc2 (c.1, c.2.2 % 8)), I (kk - (ps.map uk).sum)]) _)
    rw [e_sRet, e_mTup, e_mCons, q13]
    simp only
    rw [e_mCons, c3]
    simp only
    rw [e_mCons, qz]
    simp
  · cases hr

/-! ### symbol_of -/
theorem unknowns_in_ok (ps : List Pc) (hl : ps.length ≤ 1000) : F_unknowns_in [PL ps] = some (0, I ((ps.map uk).sum)) := by
  have hu := comp_map1 (kc := 0) (it := iSeq (mO (oVar 0))) (tg := tTupT 2 (tsCons (tName 1) (tsCons (tName 2) tsNil))) (x := mP (pIf (pB (pBin dEq (pBin dMod (pVar 2) (pC (.int 2))) (pC (.int 1)))) (pC (.int 1)) (pC (.int 2)))) (own := [1, 2])
    (ρ := [some (0, PL ps), none, none]) (ρ1 := [some (0, PL ps), none, none]) (ρ0 := [some (0, PL ps), none, none])
    ps pcD (fun p => .int (uk p)) (by simp) (by omega) rfl fun p hp => ⟨[some (0, PL ps), some (0, .int p.1), some (0, .int p.2)], rfl, rfl, 0, by
      have hb := Int.emod_two_eq p.2
      unfold uk
      by_cases h : p.2 % 2 = 1
      · simp [h]
      · have h0 : p.2 % 2 = 0 := by omega
        simp [h0], by simp⟩
  have hsum : dSum [.lst (ps.map fun p => .int (uk p))] = some (.int ((ps.map uk).sum)) := by
    have := e_sum (ps.map uk)
    rw [List.map_map] at this
    exact this
  refine run0_rt (ρ := [some (0, PL ps), none, none]) (ρ' := [some (0, PL ps), none, none]) rfl ?_
  unfold m_unknowns_in
  rw [e_sRet, e_mCallF, e_mCons, hu]
  simp [hsum]
def symP (ps : List Pc) : Option (List (Int × Int × Bool × Int) × List (Int × Int)) := symO (scs ps).length (sgm ps) (oP ps) (fun i => unP ps (sgm ps i)) (fun i => sgP ps (sgm ps i)) (mP' ps)
def symQ (ps : List Pc) : Option (List (Int × Int × Bool × Int) × List (Int × Int)) := symL (scs ps).length (od ps) (sgm ps) (fun i => unP ps (sgm ps i)) (fun i => sgP ps (sgm ps i)) (mP' ps)
def unS (ps : List Pc) : Int := ((List.range (scs ps).length).map fun i => unP ps (sgm ps i)).sum
abbrev symD (r : List (Int × Int × Bool × Int) × List (Int × Int)) (z : Int) : D := .tup [.lst (r.1.map enc4), .lst (r.2.map enc2), I z]
theorem symbol_of_ok {ps : List Pc} (g : Good ps) (k : Int) (h1 : (ps.map uk).sum ≤ k) (h2 : 1 ≤ k) (h3 : k ≤ 6) (r : List (Int × Int × Bool × Int) × List (Int × Int)) (hr : symP ps = some r) : F_symbol_of [PL ps, I k] = some (1, symD r (k - unS ps)) := by
  have hl := g.len
  have hs := scs_len ps
  have hm := symbol_made_ok (PL ps) k (scs ps).length (by omega) (sgm ps) (oP ps) (fun i => unP ps (sgm ps i)) (fun i => sgP ps (sgm ps i)) (mP' ps) (tell_range ps (by omega)) r hr
  have hck := check_pieces_ok g
  have hun := unknowns_in_ok ps (by omega)
  have hb := is_between_I k (if 1 > (ps.map uk).sum then 1 else (ps.map uk).sum) 6
  have hb2 : decide ((if 1 > (ps.map uk).sum then 1 else (ps.map uk).sum) ≤ k) = true := decide_eq_true (by split <;> omega)
  rw [hb2, decide_eq_true h3] at hb
  show _ = some (1, D.tup [.lst (r.1.map enc4), .lst (r.2.map enc2), I (k - unS ps)])
  unfold unS
  generalize D.tup [.lst (r.1.map enc4), .lst (r.2.map enc2), I (k - ((List.range (scs ps).length).map fun i => unP ps (sgm ps i)).sum)] = V at hm ⊢
  generalize PL ps = L at hm hck hun ⊢
  generalize (ps.map uk).sum = z at hun hb ⊢
  refine run0_rt (ρ := [some (0, L), some (0, I k)]) (ρ' := [some (0, L), some (0, I k)]) rfl ?_
  unfold m_symbol_of
  rw [seq_nx (ρ1 := [some (0, L), some (0, I k)]) (by simp [hck])]
  rw [seq_nx (ρ1 := [some (0, L), some (0, I k)]) (by simp [hun, hb])]
  simp [hm]

/-! ### all lists of pieces of up to three unknowns at scales 0 to 2 -/
def pcs3 : List Pc := ([0, 1, 2] : List Int).flatMap fun s => kindsL.map fun k => (s, k)
def okP (ps : List Pc) : Bool := decide ((ps.map uk).sum ≤ 3)
def ext (l : List (List Pc)) : List (List Pc) := l.flatMap fun r => (pcs3.filter fun p => match r with
    | [] => true
    | q :: _ => lePc p q).filterMap fun p => if okP (p :: r) then some (p :: r) else none
def all1 : List (List Pc) := ext [[]]
def all2 : List (List Pc) := ext all1
def all3 : List (List Pc) := ext all2
def allP : List (List Pc) := [[]] ++ (all1 ++ (all2 ++ all3))
structure P3 (ps : List Pc) : Prop where
  el : ∀ p ∈ ps, p ∈ pcs3
  up : ps.Pairwise (fun a b => lePc a b = true)
  un : (ps.map uk).sum ≤ 3
theorem ext_mem {l : List (List Pc)} {p : Pc} {r : List Pc} (h : r ∈ l) (hp : p ∈ pcs3) (hr : ∀ q ∈ r, lePc p q = true) (hu : ((p :: r).map uk).sum ≤ 3) : p :: r ∈ ext l := by
  unfold ext
  refine List.mem_flatMap.mpr ⟨r, h, List.mem_filterMap.mpr ⟨p, List.mem_filter.mpr ⟨hp, ?_⟩, ?_⟩⟩
  · cases r with
    | nil => rfl
    | cons q t => exact hr q List.mem_cons_self
  · rw [if_pos (show okP (p :: r) = true from decide_eq_true hu)]
theorem P3.mem {ps : List Pc} (h : P3 ps) : ps ∈ allP := by
  have tl : ∀ {p : Pc} {r : List Pc}, P3 (p :: r) → P3 r ∧ p ∈ pcs3 ∧ (∀ q ∈ r, lePc p q = true) := fun {p r} h => by
    refine ⟨⟨fun q hq => h.el q (List.mem_cons_of_mem _ hq), (List.pairwise_cons.mp h.up).2, ?_⟩, h.el p List.mem_cons_self, (List.pairwise_cons.mp h.up).1⟩
    have := h.un
    rw [List.map_cons, List.sum_cons] at this
    have : 1 ≤ uk p := by unfold uk; omega
    omega
  have hl : ps.length ≤ 3 := by have := uk_pos ps; have := h.un; omega
  have h0 : ([] : List Pc) ∈ [([] : List Pc)] := List.mem_cons_self
  unfold allP
  match ps, h, hl with
  | [], _, _ => exact List.mem_append_left _ h0
  | [a], h, _ =>
    obtain ⟨_, a1, a2⟩ := tl h
    exact List.mem_append_right _ (List.mem_append_left _ (ext_mem h0 a1 a2 h.un))
  | [a, b], h, _ =>
    obtain ⟨hb, a1, a2⟩ := tl h
    obtain ⟨_, b1, b2⟩ := tl hb
    exact List.mem_append_right _ (List.mem_append_right _ (List.mem_append_left _ (ext_mem (ext_mem h0 b1 b2 hb.un) a1 a2 h.un)))
  | [a, b, c], h, _ =>
    obtain ⟨hb, a1, a2⟩ := tl h
    obtain ⟨hc, b1, b2⟩ := tl hb
    obtain ⟨_, c1, c2⟩ := tl hc
    exact List.mem_append_right _ (List.mem_append_right _ (List.mem_append_right _ (ext_mem (ext_mem (ext_mem h0 c1 c2 hc.un) b1 b2 hb.un) a1 a2 h.un)))
  | a :: b :: c :: d :: r, _, hl => simp at hl
theorem pcs3_good : ∀ p ∈ pcs3, 0 ≤ p.1 ∧ p.1 ≤ 2 ∧ p.2 ∈ kindsL := by decide
theorem P3.good {ps : List Pc} (h : P3 ps) : Good ps := ⟨fun p hp => by have := pcs3_good p (h.el p hp); exact ⟨this.1, by omega, this.2.2⟩, h.up, by have := h.un; omega⟩
theorem P3_good {ps : List Pc} (g : Good ps) (h : ∀ p ∈ ps, p.1 ≤ 2) (hu : (ps.map uk).sum ≤ 3) : P3 ps := by
  refine ⟨fun p hp => ?_, g.up, hu⟩
  obtain ⟨h1, h2, h3⟩ := g.el p hp
  have h4 := h p hp
  obtain ⟨s, k⟩ := p
  simp only at h1 h2 h3 h4
  have : s = 0 ∨ s = 1 ∨ s = 2 := by omega
  refine List.mem_flatMap.mpr ⟨s, ?_, List.mem_map.mpr ⟨k, h3, rfl⟩⟩
  rcases this with rfl | rfl | rfl <;> decide
theorem sym_all : (allP.all fun ps => decide (symP ps = symQ ps) && ((symP ps).isSome && decide (unS ps = (ps.map uk).sum))) = true := by decide +kernel

/-! ### counts as figures of one number -/
section
variable (X : Nat)
def enc : List Nat → Nat
  | [] => 0
  | a :: r => a + X * enc r
theorem enc_append : ∀ (l r : List Nat), enc X (l ++ r) = enc X l + X ^ l.length * enc X r
  | [], r => by simp [enc]
  | a :: l, r => by
    rw [List.cons_append, enc, enc_append l r, enc, List.length_cons, Nat.pow_succ, Nat.mul_add, ← Nat.mul_assoc, Nat.mul_comm X (X ^ l.length), Nat.add_assoc]
theorem enc_zeros : ∀ k, enc X (List.replicate k 0) = 0
  | 0 => rfl
  | k + 1 => by rw [List.replicate_succ, enc, enc_zeros k]; simp
def inc (l : List Nat) (i : Nat) : List Nat := l.set i (l.getD i 0 + 1)
theorem inc_len (l : List Nat) (i : Nat) : (inc l i).length = l.length := by unfold inc; rw [List.length_set]
theorem enc_inc : ∀ (l : List Nat) (i : Nat), i < l.length → enc X (inc l i) = enc X l + X ^ i
  | a :: l, 0, _ => by simp [inc, enc]; omega
  | a :: l, i + 1, h => by
    have ih := enc_inc l i (by simpa using h)
    show enc X (a :: l.set i ((a :: l).getD (i + 1) 0 + 1)) = _
    rw [List.getD_cons_succ, show l.set i (l.getD i 0 + 1) = inc l i from rfl, enc, ih, enc, Nat.pow_succ, Nat.mul_add, Nat.mul_comm X (X ^ i), Nat.add_assoc]
theorem enc_lin (m : Nat) : ∀ (l : List Nat) (f g : Nat → Nat), (∀ i, i < l.length → l.getD i 0 = f i + m * g i) → enc X l = enc X ((List.range l.length).map f) + m * enc X ((List.range l.length).map g)
  | [], _, _, _ => by simp [enc]
  | a :: l, f, g, h => by
    have h0 := h 0 (by simp)
    rw [List.getD_cons_zero] at h0
    have ih := enc_lin m l (fun i => f (i + 1)) (fun i => g (i + 1)) fun i hi => by
      have := h (i + 1) (by simpa using hi)
      rwa [List.getD_cons_succ] at this
    rw [List.length_cons, List.range_succ_eq_map, List.map_cons, List.map_cons, List.map_map, List.map_map, enc, enc, enc, ih, h0]
    show _ + X * (enc X ((List.range l.length).map fun i => f (i + 1)) + m * enc X ((List.range l.length).map fun i => g (i + 1))) = _
    rw [Nat.mul_add, Nat.mul_add, Nat.mul_left_comm X m]
    have e1 : (f ∘ Nat.succ) = fun i => f (i + 1) := rfl
    have e2 : (g ∘ Nat.succ) = fun i => g (i + 1) := rfl
    rw [e1, e2]
    omega
theorem range_get (l : List Nat) : (List.range l.length).map (fun i => l.getD i 0) = l := by
  refine List.ext_getElem (by simp) fun i h1 h2 => ?_
  rw [List.getElem_map, List.getElem_range, List.getD_eq_getElem?_getD, List.getElem?_eq_getElem h2]
  rfl
def rot (b : List Nat) (low : Nat) : List Nat := (List.range 64).map fun i => b.getD ((i + 64 - low) % 64) 0
theorem rot_eq {b : List Nat} (hb : b.length = 64) {low : Nat} (hl : low < 64) : rot b low = b.drop (64 - low) ++ b.take (64 - low) := by
  unfold rot
  refine List.ext_getElem (by simp [hb]) fun i h1 h2 => ?_
  have hi : i < 64 := by simpa using h1
  rw [List.getElem_map, List.getElem_range, List.getD_eq_getElem?_getD, List.getElem?_eq_getElem (by omega)]
  show b[(i + 64 - low) % 64] = _
  by_cases c : i < low
  · rw [List.getElem_append_left (by simp [hb]; omega), List.getElem_drop]
    congr 1
    omega
  · rw [List.getElem_append_right (by simp [hb]; omega), List.getElem_take]
    congr 1
    simp [hb]
    omega
theorem enc_rot {b : List Nat} (hb : b.length = 64) {low : Nat} (hl : low < 64) (hX : 0 < X) : ∃ q, X ^ low * enc X b = enc X (rot b low) + (X ^ 64 - 1) * q := by
  refine ⟨enc X (b.drop (64 - low)), ?_⟩
  rw [rot_eq hb hl, enc_append]
  have h1 : enc X b = enc X (b.take (64 - low)) + X ^ (64 - low) * enc X (b.drop (64 - low)) := by
    have := enc_append X (b.take (64 - low)) (b.drop (64 - low))
    rw [List.take_append_drop, List.length_take, hb, Nat.min_eq_left (by omega)] at this
    exact this
  have h2 : (b.drop (64 - low)).length = low := by rw [List.length_drop, hb]; omega
  rw [h1, h2]
  generalize enc X (b.take (64 - low)) = t
  generalize enc X (b.drop (64 - low)) = d
  rw [Nat.mul_add, ← Nat.mul_assoc, ← Nat.pow_add, show low + (64 - low) = 64 by omega]
  have h3 : 0 < X ^ 64 := Nat.pow_pos hX
  generalize X ^ 64 = Y at h3
  obtain ⟨z, rfl⟩ : ∃ z, Y = z + 1 := ⟨Y - 1, by omega⟩
  rw [Nat.add_sub_cancel, Nat.add_mul, Nat.one_mul]
  omega
def both1 (a b : List Nat) (f : List Nat) (low : Nat) : List Nat := if 0 < a.getD low 0 then (List.range 64).map fun i => f.getD i 0 + a.getD low 0 * b.getD ((i + 64 - low) % 64) 0 else f
def bothN (a b : List Nat) (k : Nat) : List Nat := (List.range k).foldl (both1 a b) (List.replicate 64 0)
theorem bothN_succ (a b : List Nat) (k : Nat) : bothN a b (k + 1) = both1 a b (bothN a b k) k := by unfold bothN; rw [@List.range_succ k, List.foldl_append]; rfl
theorem bothN_len (a b : List Nat) : ∀ k, (bothN a b k).length = 64
  | 0 => by simp [bothN]
  | k + 1 => by
    rw [bothN_succ]
    unfold both1
    split
    · simp
    · exact bothN_len a b k
theorem enc_take_succ (a : List Nat) (k : Nat) (h : k < a.length) : enc X (a.take (k + 1)) = enc X (a.take k) + X ^ k * a.getD k 0 := by
  rw [List.take_add_one, List.getElem?_eq_getElem h, enc_append, List.length_take, Nat.min_eq_left (by omega), List.getD_eq_getElem?_getD, List.getElem?_eq_getElem h]
  simp [enc]
theorem enc_both {a b : List Nat} (ha : a.length = 64) (hb : b.length = 64) (hX : 0 < X) : ∀ k, k ≤ 64 → ∃ q, enc X (a.take k) * enc X b = enc X (bothN a b k) + (X ^ 64 - 1) * q
  | 0, _ => ⟨0, by rw [List.take_zero, show bothN a b 0 = List.replicate 64 0 from rfl, enc_zeros]; simp [enc]⟩
  | k + 1, h => by
    obtain ⟨q, hq⟩ := enc_both ha hb hX k (by omega)
    obtain ⟨p, hp⟩ := enc_rot X hb (low := k) (by omega) hX
    rw [enc_take_succ X a k (by omega), bothN_succ]
    have hlen := bothN_len a b k
    generalize bothN a b k = f at hq hlen
    unfold both1
    by_cases c : 0 < a.getD k 0
    · rw [if_pos c]
      have hlin := enc_lin X (a.getD k 0) ((List.range 64).map fun i => f.getD i 0 + a.getD k 0 * b.getD ((i + 64 - k) % 64) 0) (fun i => f.getD i 0) (fun i => b.getD ((i + 64 - k) % 64) 0) fun i hi => by
        have hi : i < 64 := by simpa using hi
        rw [List.getD_eq_getElem?_getD, List.getElem?_map, List.getElem?_range hi]
        rfl
      rw [List.length_map, List.length_range] at hlin
      have hf := range_get f
      rw [hlen] at hf
      rw [hf, show ((List.range 64).map fun i => b.getD ((i + 64 - k) % 64) 0) = rot b k from rfl] at hlin
      refine ⟨q + a.getD k 0 * p, ?_⟩
      rw [hlin, Nat.add_mul, hq, Nat.mul_add (X ^ 64 - 1) q, Nat.mul_right_comm, hp, Nat.add_mul]
      generalize a.getD k 0 = m
      generalize X ^ 64 - 1 = M
      rw [Nat.mul_comm (enc X (rot b k)) m, Nat.mul_assoc M p m, Nat.mul_comm p m]
      omega
    · rw [if_neg c]
      have : a.getD k 0 = 0 := by omega
      refine ⟨q, ?_⟩
      rw [this, Nat.mul_zero, Nat.add_zero, hq]
theorem enc_lt : ∀ (l : List Nat), l ≠ [] → (∀ a ∈ l, a + 2 ≤ X) → enc X l + 2 ≤ X ^ l.length
  | [], h, _ => absurd rfl h
  | [a], _, h => by have := h a List.mem_cons_self; simp [enc]; exact this
  | a :: b :: r, _, h => by
    have ih := enc_lt (b :: r) (by simp) fun x hx => h x (List.mem_cons_of_mem _ hx)
    have ha := h a List.mem_cons_self
    rw [List.length_cons, Nat.pow_succ, enc]
    generalize enc X (b :: r) = e at ih
    generalize X ^ (b :: r).length = Y at ih
    have : X * (e + 2) ≤ X * Y := Nat.mul_le_mul_left X ih
    rw [Nat.mul_add] at this
    rw [Nat.mul_comm Y X]
    omega
theorem enc_inj (hX : 0 < X) : ∀ (l m : List Nat), l.length = m.length → (∀ a ∈ l, a < X) → (∀ a ∈ m, a < X) → enc X l = enc X m → l = m
  | [], [], _, _, _, _ => rfl
  | a :: l, b :: m, hl, h1, h2, e => by
    have ha := h1 a List.mem_cons_self
    have hb := h2 b List.mem_cons_self
    rw [enc, enc] at e
    have e1 : a = b := by
      have := congrArg (· % X) e
      simp only [Nat.add_mul_mod_self_left, Nat.mod_eq_of_lt ha, Nat.mod_eq_of_lt hb] at this
      exact this
    subst e1
    have e2 : enc X l = enc X m := Nat.eq_of_mul_eq_mul_left hX (by omega)
    rw [enc_inj hX l m (by simpa using hl) (fun x hx => h1 x (List.mem_cons_of_mem _ hx)) (fun x hx => h2 x (List.mem_cons_of_mem _ hx)) e2]
end

/-! ### counts: the walk -/
abbrev NL (h : List Nat) : D := .lst (h.map fun c : Nat => .int (c : Int))
theorem at_NL (h : List Nat) (i : Nat) (hi : i < h.length) : atI (h.map fun c : Nat => D.int (c : Int)) (i : Int) = some (.int ((h.getD i 0 : Nat) : Int)) := by
  rw [at_map, List.getD_eq_getElem?_getD, List.getElem?_eq_getElem hi]; rfl
theorem law_power_ok (s : Nat) (hs : s ≤ 60) : F__law_power [I s] = some (0, I ((2 ^ s : Nat) : Int)) := by
  obtain ⟨ρ', e, x2, he⟩ := loopR (tg := tName 2) (body := (sAsg 1 (mFz (mBinF dAddG (mO (oVar 1)) (mO (oVar 1))))))
    s (fun i ρ => ∃ x2, ρ = [some (0, I s), some (0, I ((2 ^ i : Nat) : Int)), x2]) (ρ := [some (0, I s), some (0, I 1), none]) ⟨none, rfl⟩ fun i ρ hi ⟨x2, hρ⟩ => by
      subst hρ
      refine ⟨[some (0, I s), some (0, I ((2 ^ i : Nat) : Int)), some (0, I i)], [some (0, I s), some (0, I ((2 ^ (i + 1) : Nat) : Int)), some (0, I i)], rfl, ?_, _, rfl⟩
      rw [show ((2 ^ (i + 1) : Nat) : Int) = ((2 ^ i : Nat) : Int) + ((2 ^ i : Nat) : Int) by rw [Nat.pow_succ]; omega]
      generalize ((2 ^ i : Nat) : Int) = z
      simp
  subst he
  refine run0_rt (ρ := [some (0, I s), none, none]) (ρ' := [some (0, I s), some (0, I ((2 ^ s : Nat) : Int)), x2]) rfl ?_
  unfold m__law_power
  rw [seq_nx (ρ1 := [some (0, I s), some (0, I 1), none]) (by simp)]
  rw [seq_nx (for_nx (ρ1 := [some (0, I s), some (0, I 1), none]) (ds := rng 0 1 s) (by
    rw [e_rg1 (j := s) (ρ1 := [some (0, I s), some (0, I 1), none]) (by simp), okRng_nat (by omega)]
    simp) e)]
  generalize ((2 ^ s : Nat) : Int) = z
  simp
def ix1 (s k low : Nat) : Nat := (2 ^ s * k * low * low) % 64
def ix2 (s k low high : Nat) : Nat := (2 ^ s * (k * low * low + 2 * low * high + k * high * high)) % 64
def row2 (s k low : Nat) (h : List Nat) (j : Nat) : List Nat := (List.range j).foldl (fun h high => inc h (ix2 s k low high)) h
def hst (s k : Nat) (j : Nat) : List Nat := (List.range j).foldl (fun h low => if k % 2 = 1 then inc h (ix1 s k low) else row2 s k low h 64) (List.replicate 64 0)
theorem row2_succ (s k low : Nat) (h : List Nat) (j : Nat) : row2 s k low h (j + 1) = inc (row2 s k low h j) (ix2 s k low j) := by unfold row2; rw [@List.range_succ j, List.foldl_append]; rfl
theorem hst_succ (s k : Nat) (j : Nat) : hst s k (j + 1) = if k % 2 = 1 then inc (hst s k j) (ix1 s k j) else row2 s k j (hst s k j) 64 := by unfold hst; rw [@List.range_succ j, List.foldl_append]; rfl
theorem row2_len (s k low : Nat) (h : List Nat) : ∀ j, (row2 s k low h j).length = h.length
  | 0 => rfl
  | j + 1 => by rw [row2_succ, inc_len, row2_len s k low h j]
theorem hst_len (s k : Nat) : ∀ j, (hst s k j).length = 64
  | 0 => by simp [hst]
  | j + 1 => by
    rw [hst_succ]
    split
    · rw [inc_len, hst_len s k j]
    · rw [row2_len, hst_len s k j]
/-- found[at] = found[at] + 1 -/
theorem inc_walk {ρ : Mn.Env} {h : List Nat} {i : Nat} (e2 : ρ[2]? = some (some (1, NL h))) (e4 : ρ[4]? = some (some (0, I i))) (hi : i < h.length) : sSet 2 plNil (pVar 4) (mP (pBin dAdd (pBin dIx (pVar 2) (pVar 4)) (pC (.int 1)))) ρ = some (.nx (ρ.set 2 (some (1, NL (inc h i))))) := by
  have ea := at_NL h i hi
  rw [set_row (p := i) (k := 1) (kc := 0) (l := h.map fun c : Nat => D.int (c : Int)) (d := .int (((h.getD i 0 : Nat) : Int) + 1)) (ρ1 := ρ) (by
    generalize ((h.getD i 0 : Nat) : Int) = z at ea ⊢
    simp [e2, e4, ea]) e2 (by simp [e4]) (by rw [List.length_map]; exact hi) rfl (by omega)]
  unfold inc
  rw [show ((h.getD i 0 : Nat) : Int) + 1 = ((h.getD i 0 + 1 : Nat) : Int) by omega]
  rw [show NL (h.set i (h.getD i 0 + 1)) = .lst ((h.map fun c : Nat => D.int (c : Int)).set i (.int ((h.getD i 0 + 1 : Nat) : Int))) by rw [show NL (h.set i (h.getD i 0 + 1)) = .lst ((h.set i (h.getD i 0 + 1)).map fun c : Nat => D.int (c : Int)) from rfl, List.map_set]]
theorem zeros64 : (mBinF dMulG (mLst 0 (mCons 0 (mP (pC (.int 0))) mNil)) (mP (pC (.int 64)))) = (mBinF dMulG (mLst 0 (mCons 0 (mP (pC (.int 0))) mNil)) (mP (pC (.int 64)))) := rfl
theorem law_counted_ok (s k : Nat) (hs : s ≤ 10) (hk : k ≤ 7) : F__law_counted [I s, I k] = some (1, NL (hst s k 64)) := by
  have hp := law_power_ok s (by omega)
  have hp2 : 2 ^ s ≤ 1024 := Nat.le_trans (Nat.pow_le_pow_right (by decide) hs) (by decide)
  have hpa : ((2 ^ s : Nat) : Int).natAbs < 2 ^ 100 := by rw [Int.natAbs_natCast]; exact Nat.lt_of_le_of_lt hp2 (by decide)
  have hix1 : ∀ low, ((2 ^ s : Nat) : Int) * k * low * low % 64 = ((ix1 s k low : Nat) : Int) := fun low => by unfold ix1; push_cast; rfl
  have hix2 : ∀ low high, ((2 ^ s : Nat) : Int) * (k * low * low + 2 * low * high + k * high * high) % 64 = ((ix2 s k low high : Nat) : Int) := fun low high => by unfold ix2; push_cast; rfl
  have hkm : ((k : Int) % 2 = 1) ↔ (k % 2 = 1) := by omega
  obtain ⟨ρ', e, x3, x4, x5, he⟩ := loopR (tg := tName 3) (body := (sIf (mtP (pB (pBin dEq (pBin dMod (pCall dInt (pCons (pVar 1) pNil)) (pC (.int 2))) (pC (.int 1))))) (sSeq (sAsg 4 (mFz (mBin dMod (mCallF (ofN dInt) (mCons 0 (mBinF dMulG (mBinF dMulG (mBinF dMulG (mCall 1 F__law_power (mCons 0 (mO (oVar 0)) mNil)) (mO (oVar 1))) (mO (oVar 3))) (mO (oVar 3))) mNil)) (mP (pC (.int 64))))))
    (sSet 2 plNil (pVar 4) (mP (pBin dAdd (pBin dIx (pVar 2) (pVar 4)) (pC (.int 1)))))) (sFor (iRange (mCons 0 (mP (pC (.int 64))) mNil)) (tName 5) (sSeq (sAsg 4 (mFz (mBin dMod (mCallF (ofN dInt) (mCons 0 (mBinF dMulG (mCall 1 F__law_power (mCons 0 (mO (oVar 0)) mNil)) (mP (pBin dAdd (pBin dAdd (pBin dMul (pBin dMul (pVar 1) (pVar 3)) (pVar 3)) (pBin dMul (pBin dMul (pC (.int 2)) (pVar 3)) (pVar 5))) (pBin dMul (pBin dMul (pVar 1) (pVar 5)) (pVar 5))))) mNil)) (mP (pC (.int 64))))))
    (sSet 2 plNil (pVar 4) (mP (pBin dAdd (pBin dIx (pVar 2) (pVar 4)) (pC (.int 1)))))))))
    64 (fun i ρ => ∃ x3 x4 x5, ρ = [some (0, I s), some (0, I k), some (1, NL (hst s k i)), x3, x4, x5]) (ρ := [some (0, I s), some (0, I k), some (1, NL (List.replicate 64 0)), none, none, none]) ⟨none, none, none, rfl⟩ fun i ρ hi ⟨x3, x4, x5, hρ⟩ => by
      subst hρ
      have hlen := hst_len s k i
      have hc : ∀ c, decide (k % 2 = 1) = c → (mtP (pB (pBin dEq (pBin dMod (pCall dInt (pCons (pVar 1) pNil)) (pC (.int 2))) (pC (.int 1))))) [some (0, I s), some (0, I k), some (1, NL (hst s k i)), some (0, I i), x4, x5] = some (c, [some (0, I s), some (0, I k), some (1, NL (hst s k i)), some (0, I i), x4, x5]) := fun c h => by
        rw [← h]
        simp [hkm]
      rw [hst_succ]
      by_cases c : k % 2 = 1
      · rw [if_pos c]
        refine ⟨[some (0, I s), some (0, I k), some (1, NL (hst s k i)), some (0, I i), x4, x5], [some (0, I s), some (0, I k), some (1, NL (inc (hst s k i) (ix1 s k i))), some (0, I i), some (0, I (ix1 s k i)), x5], rfl, ?_, _, _, _, rfl⟩
        rw [e_sIf, hc true (decide_eq_true c)]
        show sSeq _ _ _ = _
        rw [seq_nx (ρ1 := [some (0, I s), some (0, I k), some (1, NL (hst s k i)), some (0, I i), some (0, I (ix1 s k i)), x5]) (by
          have h1 := hix1 i
          have hb : 2 ^ s * k ≤ 1024 * 7 := Nat.mul_le_mul hp2 hk
          have hb2 : 2 ^ s * k * i ≤ 1024 * 7 * 64 := Nat.mul_le_mul hb (by omega)
          have c1 : ((2 ^ s : Nat) : Int) * (k : Int) = ((2 ^ s * k : Nat) : Int) := by push_cast; rfl
          have c2 : ((2 ^ s * k : Nat) : Int) * (i : Int) = ((2 ^ s * k * i : Nat) : Int) := by push_cast; rfl
          have a1 : okMul ((2 ^ s : Nat) : Int) k = true := okMul_small hpa (by omega)
          have a2 : okMul ((2 ^ s * k : Nat) : Int) i = true := okMul_small (by omega) (by omega)
          have a3 : okMul ((2 ^ s * k * i : Nat) : Int) i = true := okMul_small (by omega) (by omega)
          rw [c1, c2] at h1
          generalize ((2 ^ s * k * i : Nat) : Int) = z3 at h1 c2 a3
          generalize ((2 ^ s * k : Nat) : Int) = z2 at c1 c2 a2
          generalize ((2 ^ s : Nat) : Int) = z1 at hp c1 a1
          simp [hp, a1, c1, a2, c2, a3, h1])]
        rw [inc_walk rfl rfl (by rw [hlen]; exact Nat.mod_lt _ (by decide))]
        rfl
      · rw [if_neg c]
        obtain ⟨ρ', e, x4', x5', he⟩ := loopR (tg := tName 5) (body := (sSeq (sAsg 4 (mFz (mBin dMod (mCallF (ofN dInt) (mCons 0 (mBinF dMulG (mCall 1 F__law_power (mCons 0 (mO (oVar 0)) mNil)) (mP (pBin dAdd (pBin dAdd (pBin dMul (pBin dMul (pVar 1) (pVar 3)) (pVar 3)) (pBin dMul (pBin dMul (pC (.int 2)) (pVar 3)) (pVar 5))) (pBin dMul (pBin dMul (pVar 1) (pVar 5)) (pVar 5))))) mNil)) (mP (pC (.int 64))))))
            (sSet 2 plNil (pVar 4) (mP (pBin dAdd (pBin dIx (pVar 2) (pVar 4)) (pC (.int 1)))))))
          64 (fun j ρ => ∃ x4 x5, ρ = [some (0, I s), some (0, I k), some (1, NL (row2 s k i (hst s k i) j)), some (0, I i), x4, x5]) (ρ := [some (0, I s), some (0, I k), some (1, NL (hst s k i)), some (0, I i), x4, x5]) ⟨x4, x5, rfl⟩ fun j ρ hj ⟨x4, x5, hρ⟩ => by
            subst hρ
            have hlen2 := row2_len s k i (hst s k i) j
            refine ⟨[some (0, I s), some (0, I k), some (1, NL (row2 s k i (hst s k i) j)), some (0, I i), x4, some (0, I j)], [some (0, I s), some (0, I k), some (1, NL (row2 s k i (hst s k i) (j + 1))), some (0, I i), some (0, I (ix2 s k i j)), some (0, I j)], rfl, ?_, _, _, rfl⟩
            rw [row2_succ]
            generalize row2 s k i (hst s k i) j = R at hlen2 ⊢
            rw [seq_nx (ρ1 := [some (0, I s), some (0, I k), some (1, NL R), some (0, I i), some (0, I (ix2 s k i j)), some (0, I j)]) (by
              have h2 := hix2 i j
              have b1 : k * i ≤ 7 * 64 := Nat.mul_le_mul hk (by omega)
              have b2 : k * i * i ≤ 7 * 64 * 64 := Nat.mul_le_mul b1 (by omega)
              have b3 : 2 * i * j ≤ 2 * 64 * 64 := Nat.mul_le_mul (by omega) (by omega)
              have b4 : k * j ≤ 7 * 64 := Nat.mul_le_mul hk (by omega)
              have b5 : k * j * j ≤ 7 * 64 * 64 := Nat.mul_le_mul b4 (by omega)
              have c1 : (k : Int) * i = ((k * i : Nat) : Int) := by push_cast; rfl
              have c2 : ((k * i : Nat) : Int) * i = ((k * i * i : Nat) : Int) := by push_cast; rfl
              have c3 : (2 : Int) * i * j = ((2 * i * j : Nat) : Int) := by push_cast; rfl
              have c4 : (k : Int) * j = ((k * j : Nat) : Int) := by push_cast; rfl
              have c5 : ((k * j : Nat) : Int) * j = ((k * j * j : Nat) : Int) := by push_cast; rfl
              have a1 : okMul (k : Int) i = true := okMul_small (by omega) (by omega)
              have a2 : okMul ((k * i : Nat) : Int) i = true := okMul_small (by omega) (by omega)
              have a3 : okMul 2 (i : Int) = true := okMul_small (by omega) (by omega)
              have a4 : okMul (2 * (i : Int)) j = true := okMul_small (by omega) (by omega)
              have a5 : okMul (k : Int) j = true := okMul_small (by omega) (by omega)
              have a6 : okMul ((k * j : Nat) : Int) j = true := okMul_small (by omega) (by omega)
              have a7 : okMul ((2 ^ s : Nat) : Int) (((k * i * i : Nat) : Int) + ((2 * i * j : Nat) : Int) + ((k * j * j : Nat) : Int)) = true := okMul_small hpa (by omega)
              rw [c1, c2, c3, c4, c5] at h2
              generalize ((k * i * i : Nat) : Int) = y2 at c2 a7 h2
              generalize ((k * j * j : Nat) : Int) = y5 at c5 a7 h2
              generalize ((2 * i * j : Nat) : Int) = y3 at c3 a7 h2
              generalize ((k * i : Nat) : Int) = y1 at c1 c2 a2
              generalize ((k * j : Nat) : Int) = y4 at c4 c5 a6
              generalize ((2 ^ s : Nat) : Int) = z1 at hp a7 h2
              simp [hp, a1, c1, a2, c2, a3, a4, c3, a5, c4, a6, c5, a7, h2])]
            rw [inc_walk rfl rfl (by rw [hlen2, hlen]; exact Nat.mod_lt _ (by decide))]
            rfl
        subst he
        refine ⟨[some (0, I s), some (0, I k), some (1, NL (hst s k i)), some (0, I i), x4, x5], [some (0, I s), some (0, I k), some (1, NL (row2 s k i (hst s k i) 64)), some (0, I i), x4', x5'], rfl, ?_, _, _, _, rfl⟩
        rw [e_sIf, hc false (decide_eq_false c)]
        refine for_nx (ρ1 := [some (0, I s), some (0, I k), some (1, NL (hst s k i)), some (0, I i), x4, x5]) (ds := rng 0 1 64) ?_ e
        rw [e_rg1 (j := 64) (ρ1 := [some (0, I s), some (0, I k), some (1, NL (hst s k i)), some (0, I i), x4, x5]) (by simp), okRng_mk (by omega)]
        rfl
  subst he
  refine run0_rt (ρ := [some (0, I s), some (0, I k), none, none, none, none]) (ρ' := [some (0, I s), some (0, I k), none, x3, x4, x5]) rfl ?_
  unfold m__law_counted
  rw [seq_nx (ρ1 := [some (0, I s), some (0, I k), some (1, NL (List.replicate 64 0)), none, none, none]) (by
    have hok : okIx 64 = true := okIx_mk (by omega)
    simp [hok, sizeLine])]
  rw [seq_nx (for_nx (ρ1 := [some (0, I s), some (0, I k), some (1, NL (List.replicate 64 0)), none, none, none]) (ds := rng 0 1 64) (by
    rw [e_rg1 (j := 64) (ρ1 := [some (0, I s), some (0, I k), some (1, NL (List.replicate 64 0)), none, none, none]) (by simp), okRng_mk (by omega)]
    rfl) e)]
  generalize NL (hst s k 64) = H
  simp

/-! ### counts: bounds and figures -/
theorem getD_le {l : List Nat} {A : Nat} (h : ∀ x ∈ l, x ≤ A) (i : Nat) : l.getD i 0 ≤ A := by
  rw [List.getD_eq_getElem?_getD]
  cases e : l[i]? with
  | none => exact Nat.zero_le _
  | some x => exact h x (List.mem_of_getElem? e)
theorem inc_le {l : List Nat} {A i : Nat} (h : ∀ x ∈ l, x ≤ A) : ∀ x ∈ inc l i, x ≤ A + 1 := fun x hx => by
  rcases List.mem_or_eq_of_mem_set hx with h1 | h1
  · have := h x h1; omega
  · have := getD_le h i; omega
theorem row2_le (s k low : Nat) {h : List Nat} {A : Nat} (hA : ∀ x ∈ h, x ≤ A) : ∀ j, ∀ x ∈ row2 s k low h j, x ≤ A + j
  | 0 => hA
  | j + 1 => by rw [row2_succ]; exact inc_le (row2_le s k low hA j)
theorem hst_le (s k : Nat) : ∀ j, ∀ x ∈ hst s k j, x ≤ 64 * j
  | 0 => fun x hx => by
    have := List.eq_of_mem_replicate hx
    omega
  | j + 1 => by
    intro x hx
    rw [hst_succ] at hx
    split at hx
    · have := inc_le (hst_le s k j) x hx; omega
    · have := row2_le s k j (hst_le s k j) 64 x hx; omega
theorem bothN_le {a b : List Nat} {A B : Nat} (ha : ∀ x ∈ a, x ≤ A) (hb : ∀ x ∈ b, x ≤ B) : ∀ k, ∀ x ∈ bothN a b k, x ≤ k * (A * B)
  | 0 => fun x hx => by
    have := List.eq_of_mem_replicate hx
    omega
  | k + 1 => fun x hx => by
    have ih := bothN_le ha hb k
    rw [bothN_succ] at hx
    unfold both1 at hx
    rw [Nat.add_mul, Nat.one_mul]
    split at hx
    · obtain ⟨i, _, rfl⟩ := List.mem_map.mp hx
      have h1 := getD_le ih i
      have h2 := Nat.mul_le_mul (getD_le ha k) (getD_le hb ((i + 64 - k) % 64))
      omega
    · have := ih x hx; omega
def cfold (ps : List Pc) : List Nat := ps.foldl (fun f p => bothN f (hst p.1.toNat p.2.toNat 64) 64) (1 :: List.replicate 63 0)
theorem cfold_snoc (ps : List Pc) (p : Pc) : cfold (ps ++ [p]) = bothN (cfold ps) (hst p.1.toNat p.2.toNat 64) 64 := by unfold cfold; rw [List.foldl_append]; rfl
theorem cfold_len : ∀ ps : List Pc, (cfold ps).length = 64 := fun ps => by
  rcases List.eq_nil_or_concat ps with rfl | ⟨q, p, rfl⟩
  · rfl
  · rw [List.concat_eq_append, cfold_snoc]; exact bothN_len _ _ 64
theorem cfold_le (ps : List Pc) : ∀ i, i ≤ ps.length → ∀ x ∈ cfold (ps.take i), x ≤ 262144 ^ i
  | 0, _ => fun x hx => by
    have : x ∈ (1 :: List.replicate 63 0 : List Nat) := hx
    rcases List.mem_cons.mp this with rfl | h
    · decide
    · have := List.eq_of_mem_replicate h; omega
  | i + 1, h => fun x hx => by
    have ih := cfold_le ps i (by omega)
    rw [List.take_add_one, List.getElem?_eq_getElem (show i < ps.length by omega)] at hx
    have hx : x ∈ cfold (ps.take i ++ [ps[i]'(by omega)]) := hx
    rw [cfold_snoc] at hx
    have := bothN_le ih (hst_le _ _ 64) 64 x hx
    rw [Nat.pow_succ]
    omega
theorem cfold_bd {ps : List Pc} (h : ps.length ≤ 3) : ∀ x ∈ cfold ps, x ≤ 262144 ^ 3 := fun x hx => by
  have := cfold_le ps ps.length (Nat.le_refl _) x (by rwa [List.take_length])
  exact Nat.le_trans this (Nat.pow_le_pow_right (by decide) h)
def cnt (ps : List Pc) (t : Nat) : List Nat := (cfold ps).map fun m => 64 ^ t * m
section
variable (X : Nat)
def cN (s k : Nat) : Nat := (List.range 64).foldl (fun z low => if k % 2 = 1 then z + X ^ (ix1 s k low) else (List.range 64).foldl (fun z high => z + X ^ (ix2 s k low high)) z) 0
theorem enc_row2 (s k low : Nat) (h : List Nat) (hl : h.length = 64) : ∀ j, enc X (row2 s k low h j) = (List.range j).foldl (fun z high => z + X ^ (ix2 s k low high)) (enc X h)
  | 0 => rfl
  | j + 1 => by
    rw [row2_succ, enc_inc X _ _ (by rw [row2_len, hl]; exact Nat.mod_lt _ (by decide)), enc_row2 s k low h hl j, @List.range_succ j, List.foldl_append]
    rfl
theorem enc_hst (s k : Nat) : ∀ j, enc X (hst s k j) = (List.range j).foldl (fun z low => if k % 2 = 1 then z + X ^ (ix1 s k low) else (List.range 64).foldl (fun z high => z + X ^ (ix2 s k low high)) z) 0
  | 0 => by rw [show hst s k 0 = List.replicate 64 0 from rfl, enc_zeros]; rfl
  | j + 1 => by
    rw [hst_succ, @List.range_succ j, List.foldl_append, ← enc_hst s k j]
    show _ = (if k % 2 = 1 then enc X (hst s k j) + X ^ (ix1 s k j) else (List.range 64).foldl (fun z high => z + X ^ (ix2 s k j high)) (enc X (hst s k j)))
    split
    · rw [enc_inc X _ _ (by rw [hst_len]; exact Nat.mod_lt _ (by decide))]
    · rw [enc_row2 X s k j _ (hst_len s k j)]
def prd (ps : List Pc) : Nat := ps.foldl (fun z p => z * cN X p.1.toNat p.2.toNat) 1
theorem prd_snoc (ps : List Pc) (p : Pc) : prd X (ps ++ [p]) = prd X ps * cN X p.1.toNat p.2.toNat := by unfold prd; rw [List.foldl_append]; rfl
theorem enc_cfold (hX : 0 < X) (ps : List Pc) : ∀ i, i ≤ ps.length → ∃ q, prd X (ps.take i) = enc X (cfold (ps.take i)) + (X ^ 64 - 1) * q
  | 0, _ => ⟨0, by rw [List.take_zero, show cfold [] = 1 :: List.replicate 63 0 from rfl, enc, enc_zeros]; simp [prd]⟩
  | i + 1, h => by
    obtain ⟨q, hq⟩ := enc_cfold hX ps i (by omega)
    rw [List.take_add_one, List.getElem?_eq_getElem (show i < ps.length by omega)]
    show ∃ q, prd X (ps.take i ++ [ps[i]'(by omega)]) = enc X (cfold (ps.take i ++ [ps[i]'(by omega)])) + (X ^ 64 - 1) * q
    rw [cfold_snoc, prd_snoc, hq]
    generalize ps[i]'(by omega) = p
    have hl := cfold_len (ps.take i)
    generalize cfold (ps.take i) = f at hl
    obtain ⟨q2, h2⟩ := enc_both X hl (hst_len p.1.toNat p.2.toNat 64) hX 64 (Nat.le_refl _)
    rw [List.take_of_length_le (by omega)] at h2
    have he : enc X (hst p.1.toNat p.2.toNat 64) = cN X p.1.toNat p.2.toNat := enc_hst X p.1.toNat p.2.toNat 64
    rw [he] at h2
    refine ⟨q2 + q * cN X p.1.toNat p.2.toNat, ?_⟩
    rw [Nat.add_mul, h2, Nat.mul_add, Nat.mul_assoc]
    omega
theorem enc_scale (c : Nat) : ∀ l : List Nat, enc X (l.map fun m => c * m) = c * enc X l
  | [] => by simp [enc]
  | a :: r => by rw [List.map_cons, enc, enc_scale c r, enc, Nat.mul_add, Nat.mul_left_comm]
end
/-- the key of a list of pieces with so many unknowns more -/
def keyN (ps : List Pc) (t : Nat) : Nat := (64 ^ t * prd (2 ^ 80) ps) % ((2 ^ 80) ^ 64 - 1)
theorem cnt_bd {ps : List Pc} (h : ps.length ≤ 3) {t : Nat} (ht : t ≤ 3) : ∀ x ∈ cnt ps t, x + 2 ≤ 2 ^ 80 := fun x hx => by
  obtain ⟨m, hm, rfl⟩ := List.mem_map.mp hx
  have h1 := cfold_bd h m hm
  have h2 : 64 ^ t ≤ 64 ^ 3 := Nat.pow_le_pow_right (by decide) ht
  have h3 := Nat.mul_le_mul h2 h1
  have h4 : 64 ^ 3 * 262144 ^ 3 + 2 ≤ 2 ^ 80 := by decide
  omega
theorem cnt_len (ps : List Pc) (t : Nat) : (cnt ps t).length = 64 := by unfold cnt; rw [List.length_map, cfold_len]
theorem key_enc {ps : List Pc} (h : ps.length ≤ 3) {t : Nat} (ht : t ≤ 3) : keyN ps t = enc (2 ^ 80) (cnt ps t) := by
  obtain ⟨q, hq⟩ := enc_cfold (2 ^ 80) (by decide) ps ps.length (Nat.le_refl _)
  rw [List.take_length] at hq
  have hlt := enc_lt (2 ^ 80) (cnt ps t) (fun e => by have := cnt_len ps t; rw [e] at this; cases this) (cnt_bd h ht)
  rw [cnt_len] at hlt
  unfold keyN
  have he : enc (2 ^ 80) (cnt ps t) = 64 ^ t * enc (2 ^ 80) (cfold ps) := enc_scale (2 ^ 80) (64 ^ t) (cfold ps)
  rw [hq, Nat.mul_add, ← he, Nat.mul_left_comm, Nat.add_mul_mod_self_left, Nat.mod_eq_of_lt]
  generalize (2 ^ 80) ^ 64 = Y at hlt
  omega
theorem scale_inj {c : Nat} (hc : 0 < c) : ∀ (l m : List Nat), (l.map fun x => c * x) = (m.map fun x => c * x) → l = m
  | [], [], _ => rfl
  | [], _ :: _, h => by cases h
  | _ :: _, [], h => by cases h
  | a :: l, b :: m, h => by
    rw [List.map_cons, List.map_cons] at h
    injection h with h1 h2
    rw [Nat.eq_of_mul_eq_mul_left hc h1, scale_inj hc l m h2]
theorem cnt_iff {ps qs : List Pc} (hp : ps.length ≤ 3) (hq : qs.length ≤ 3) {t t' c : Nat} (ht : t + c ≤ 3) (ht' : t' + c ≤ 3) : cnt ps t = cnt qs t' ↔ keyN ps (t + c) = keyN qs (t' + c) := by
  have hs : ∀ (ps : List Pc) t, cnt ps (t + c) = (cnt ps t).map fun x => 64 ^ c * x := fun ps t => by
    unfold cnt
    rw [List.map_map]
    refine List.map_congr_left fun x _ => ?_
    show 64 ^ (t + c) * x = 64 ^ c * (64 ^ t * x)
    rw [Nat.pow_add, Nat.mul_comm (64 ^ t), Nat.mul_assoc]
  rw [key_enc hp ht, key_enc hq ht']
  constructor
  · intro h
    rw [hs, hs, h]
  · intro h
    have := enc_inj (2 ^ 80) (by decide) _ _ (by rw [cnt_len, cnt_len]) (fun a ha => by have := cnt_bd hp ht a ha; omega) (fun a ha => by have := cnt_bd hq ht' a ha; omega) h
    rw [hs, hs] at this
    exact scale_inj (Nat.pow_pos (by decide)) _ _ this

/-! ### symbols tell the counts -/
def dd {κ : Type} [DecidableEq κ] : List κ → List κ → List κ
  | [], acc => acc
  | a :: r, acc => if a ∈ acc then dd r acc else dd r (a :: acc)
theorem dd_acc {κ : Type} [DecidableEq κ] {x : κ} : ∀ (l acc : List κ), x ∈ acc → x ∈ dd l acc
  | [], _, h => h
  | a :: r, acc, h => by
    unfold dd
    split
    · exact dd_acc r acc h
    · exact dd_acc r (a :: acc) (List.mem_cons_of_mem _ h)
theorem dd_mem {κ : Type} [DecidableEq κ] {x : κ} : ∀ (l acc : List κ), x ∈ l → x ∈ dd l acc
  | a :: r, acc, h => by
    unfold dd
    rcases List.mem_cons.mp h with rfl | h
    · split
      · rename_i q; exact dd_acc r acc q
      · exact dd_acc r _ List.mem_cons_self
    · split
      · exact dd_mem r acc h
      · exact dd_mem r _ h
abbrev Sy := List (Int × Int × Bool × Int) × List (Int × Int)
instance : DecidableEq (Int × Int × Bool × Int) := inferInstance
instance : DecidableEq (Int × Int) := inferInstance
instance : DecidableEq Sy := inferInstance
instance : DecidableEq (Option Sy) := inferInstance
instance : DecidableEq (Option Sy × Int) := inferInstance
def kyP (ps : List Pc) : Nat × Option Sy × Int := (keyN ps (3 - unS ps).toNat, symP ps, unS ps)
def classes : List (Nat × Option Sy × Int) := dd (allP.map kyP) []
theorem classes_ok : (classes.all fun a => classes.all fun b => decide (a.1 = b.1) == decide (a.2 = b.2)) = true := by decide +kernel
theorem keys_tell {ps qs : List Pc} (hp : ps ∈ allP) (hq : qs ∈ allP) : keyN ps (3 - unS ps).toNat = keyN qs (3 - unS qs).toNat ↔ symP ps = symP qs ∧ unS ps = unS qs := by
  have h1 : kyP ps ∈ classes := dd_mem _ _ (List.mem_map.mpr ⟨ps, hp, rfl⟩)
  have h2 : kyP qs ∈ classes := dd_mem _ _ (List.mem_map.mpr ⟨qs, hq, rfl⟩)
  have h := List.all_eq_true.mp (List.all_eq_true.mp classes_ok _ h1) _ h2
  rw [beq_iff_eq] at h
  have h : decide (keyN ps (3 - unS ps).toNat = keyN qs (3 - unS qs).toNat) = decide ((symP ps, unS ps) = (symP qs, unS qs)) := h
  rw [decide_eq_decide] at h
  rw [h]
  constructor
  · intro e
    injection e with e1 e2
    exact ⟨e1, e2⟩
  · rintro ⟨e1, e2⟩
    rw [e1, e2]

/-! ### both, counts: the walk -/
theorem NL_range (h : List Nat) : NL h = .lst ((List.range h.length).map fun i => D.int ((h.getD i 0 : Nat) : Int)) := by
  have := congrArg (List.map fun c : Nat => D.int (c : Int)) (range_get h)
  rw [List.map_map] at this
  show D.lst _ = _
  rw [← this]
  rfl
theorem law_both_ok (a b : List Nat) (ha : a.length = 64) (hb : b.length = 64) (ba : ∀ x ∈ a, x < 2 ^ 90) (bb : ∀ x ∈ b, x < 2 ^ 90) : F__law_both [NL a, NL b] = some (0, NL (bothN a b 64)) := by
  have hba : ∀ i, (a.getD i 0) < 2 ^ 90 := fun i => by
    have := getD_le (l := a) (A := 2 ^ 90 - 1) (fun x hx => by have := ba x hx; omega) i
    omega
  have hbb : ∀ i, (b.getD i 0) < 2 ^ 90 := fun i => by
    have := getD_le (l := b) (A := 2 ^ 90 - 1) (fun x hx => by have := bb x hx; omega) i
    omega
  obtain ⟨ρ', e, x3, x4, he⟩ := loopE (tg := tTupT 2 (tsCons (tName 3) (tsCons (tName 4) tsNil))) (body := (sIf (mtP (pB (pBin dGt (pVar 4) (pC (.int 0))))) (sAsg 2 (mFz (mComp 0 (iEnumM (mCons 0 (mO (oVar 2)) mNil)) (tTupT 2 (tsCons (tName 5) (tsCons (tName 6) tsNil))) tYesM (mP (pBin dAdd (pVar 6) (pBin dMul (pVar 4) (pBin dIx (pVar 1) (pBin dMod (pCall dInt (pCons (pBin dSub (pVar 5) (pVar 3)) pNil)) (pC (.int 64))))))) [5, 6]))) sNx))
    64 (fun i => .int ((a.getD i 0 : Nat) : Int)) (fun i ρ => ∃ x3 x4, ρ = [some (0, NL a), some (0, NL b), some (0, NL (bothN a b i)), x3, x4, none, none])
    (ρ := [some (0, NL a), some (0, NL b), some (0, NL (List.replicate 64 0)), none, none, none, none]) ⟨none, none, rfl⟩ fun i ρ hi ⟨x3, x4, hρ⟩ => by
      subst hρ
      have hlen := bothN_len a b i
      have hm := hba i
      rw [bothN_succ]
      generalize bothN a b i = f at hlen ⊢
      unfold both1
      generalize a.getD i 0 = m at hm ⊢
      generalize NL a = A
      by_cases c : 0 < m
      · rw [if_pos c]
        have hf := NL_range f
        rw [hlen] at hf
        have hen : enumD 0 ((List.range 64).map fun i => D.int ((f.getD i 0 : Nat) : Int)) = (List.range 64).map fun i : Nat => .tup [.int (i : Int), .int ((f.getD i 0 : Nat) : Int)] := enum_range ..
        have hc := comp_map1 (kc := 0) (it := (iEnumM (mCons 0 (mO (oVar 2)) mNil))) (tg := (tTupT 2 (tsCons (tName 5) (tsCons (tName 6) tsNil)))) (x := (mP (pBin dAdd (pVar 6) (pBin dMul (pVar 4) (pBin dIx (pVar 1) (pBin dMod (pCall dInt (pCons (pBin dSub (pVar 5) (pVar 3)) pNil)) (pC (.int 64)))))))) (own := [5, 6])
          (ρ := [some (0, A), some (0, NL b), some (0, NL f), some (0, I i), some (0, I m), none, none]) (ρ1 := [some (0, A), some (0, NL b), some (0, NL f), some (0, I i), some (0, I m), none, none]) (ρ0 := [some (0, A), some (0, NL b), some (0, NL f), some (0, I i), some (0, I m), none, none])
          (List.range 64) (fun j : Nat => .tup [.int (j : Int), .int ((f.getD j 0 : Nat) : Int)]) (fun j => .int ((f.getD j 0 + m * b.getD ((j + 64 - i) % 64) 0 : Nat) : Int)) (by
            rw [← hen]
            refine iEnumM_eq ?_
            rw [hf]
            rfl) (by simp) rfl fun j hj => ⟨[some (0, A), some (0, NL b), some (0, NL f), some (0, I i), some (0, I m), some (0, I j), some (0, I ((f.getD j 0 : Nat) : Int))], rfl, rfl, 0, by
              have hj := List.mem_range.mp hj
              have h1 : ((j : Int) - i) % 64 = (((j + 64 - i) % 64 : Nat) : Int) := by omega
              have h2 := at_NL b ((j + 64 - i) % 64) (by rw [hb]; exact Nat.mod_lt _ (by decide))
              have h3 := hbb ((j + 64 - i) % 64)
              generalize (((j + 64 - i) % 64 : Nat)) = w at h1 h2 h3 ⊢
              generalize b.getD w 0 = y at h2 h3 ⊢
              generalize f.getD j 0 = z
              have h4 : okMul (m : Int) (y : Int) = true := okMul_small (by rw [Int.natAbs_natCast]; omega) (by rw [Int.natAbs_natCast]; omega)
              have h5 : ((z + m * y : Nat) : Int) = (z : Int) + (m : Int) * (y : Int) := by push_cast; rfl
              rw [h5]
              generalize NL f = F
              simp [h1, h2, h4], by simp⟩
        refine ⟨[some (0, A), some (0, NL b), some (0, NL f), some (0, I i), some (0, I m), none, none], [some (0, A), some (0, NL b), some (0, NL ((List.range 64).map fun j => f.getD j 0 + m * b.getD ((j + 64 - i) % 64) 0)), some (0, I i), some (0, I m), none, none], rfl, ?_, _, _, rfl⟩
        rw [e_sIf, show (mtP (pB (pBin dGt (pVar 4) (pC (.int 0))))) [some (0, A), some (0, NL b), some (0, NL f), some (0, I i), some (0, I m), none, none] = some (true, [some (0, A), some (0, NL b), some (0, NL f), some (0, I i), some (0, I m), none, none]) by simp [c]]
        show sAsg _ _ _ = _
        rw [e_sAsg, e_mFz, hc]
        rw [show NL ((List.range 64).map fun j => f.getD j 0 + m * b.getD ((j + 64 - i) % 64) 0) = .lst ((List.range 64).map fun j => .int ((f.getD j 0 + m * b.getD ((j + 64 - i) % 64) 0 : Nat) : Int)) by show D.lst _ = _; rw [List.map_map]; rfl]
        rfl
      · rw [if_neg c]
        refine ⟨[some (0, A), some (0, NL b), some (0, NL f), some (0, I i), some (0, I m), none, none], [some (0, A), some (0, NL b), some (0, NL f), some (0, I i), some (0, I m), none, none], rfl, ?_, _, _, rfl⟩
        have c2 : m = 0 := by omega
        subst c2
        generalize NL f = F
        generalize NL b = B
        simp
  subst he
  have hA := NL_range a
  rw [ha] at hA
  refine run0_rt (ρ := [some (0, NL a), some (0, NL b), none, none, none, none, none]) (ρ' := [some (0, NL a), some (0, NL b), some (0, NL (bothN a b 64)), x3, x4, none, none]) rfl ?_
  unfold m__law_both
  rw [seq_nx (ρ1 := [some (0, NL a), some (0, NL b), some (0, NL (List.replicate 64 0)), none, none, none, none]) (by
    have hok : okIx 64 = true := okIx_mk (by omega)
    generalize NL a = A
    generalize NL b = B
    simp [hok, sizeLine])]
  rw [seq_nx (for_nx (ρ1 := [some (0, NL a), some (0, NL b), some (0, NL (List.replicate 64 0)), none, none, none, none]) (ds := enumD 0 ((List.range 64).map fun i => D.int ((a.getD i 0 : Nat) : Int))) (iEnumM_eq (by rw [hA]; rfl)) e)]
  generalize NL (bothN a b 64) = H
  simp
theorem law_counts_ok {ps : List Pc} (h : P3 ps) (t : Nat) (ht : t ≤ 3) : F__law_counts [PL ps, I ((ps.map uk).sum + t)] = some (0, NL (cnt ps t)) := by
  have hl : ps.length ≤ 3 := by have := uk_pos ps; have := h.un; omega
  have hun := law_unknowns_ok ps (by omega)
  have hbd := cfold_bd hl
  generalize hK : (ps.map uk).sum + (t : Int) = K
  obtain ⟨ρ', e, x3, x4, he⟩ := loopL (tg := (tTupT 2 (tsCons (tName 3) (tsCons (tName 4) tsNil)))) (body := (sAsg 2 (mFz (mCall 2 F__law_both (mCons 0 (mO (oVar 2)) (mCons 0 (mCall 2 F__law_counted (mCons 0 (mO (oVar 3)) (mCons 0 (mO (oVar 4)) mNil))) mNil))))))
    ps pcD (fun i ρ => ∃ x3 x4, ρ = [some (0, PL ps), some (0, I K), some (0, NL (cfold (ps.take i))), x3, x4, none, none]) (ρ := [some (0, PL ps), some (0, I K), some (0, NL (1 :: List.replicate 63 0)), none, none, none, none]) ⟨none, none, rfl⟩ fun i p ρ hi ⟨x3, x4, hρ⟩ => by
      subst hρ
      obtain ⟨hi2, hpe⟩ := List.getElem?_eq_some_iff.mp hi
      obtain ⟨p1, p2, p3⟩ := pcs3_good p (h.el p (List.mem_of_getElem? hi))
      have p4 := kinds_le p3
      have hb := cfold_le ps i (by omega)
      have hi3 : 262144 ^ i ≤ 262144 ^ 3 := Nat.pow_le_pow_right (by decide) (by omega)
      rw [List.take_add_one, hi]
      show ∃ ρ1 ρ2, _ ∧ _ ∧ ∃ x3 x4, ρ2 = [some (0, PL ps), some (0, I K), some (0, NL (cfold (ps.take i ++ [p]))), x3, x4, none, none]
      rw [cfold_snoc]
      have hlen := cfold_len (ps.take i)
      generalize cfold (ps.take i) = f at hb hlen ⊢
      have h1 := law_counted_ok p.1.toNat p.2.toNat (by omega) (by omega)
      rw [show ((p.1.toNat : Nat) : Int) = p.1 by omega, show ((p.2.toNat : Nat) : Int) = p.2 by omega] at h1
      have h2 := law_both_ok f (hst p.1.toNat p.2.toNat 64) hlen (hst_len _ _ 64) (fun x hx => by
        have := hb x hx
        exact Nat.lt_of_le_of_lt (Nat.le_trans this hi3) (by decide)) (fun x hx => Nat.lt_of_le_of_lt (hst_le _ _ 64 x hx) (by decide))
      refine ⟨[some (0, PL ps), some (0, I K), some (0, NL f), some (0, .int p.1), some (0, .int p.2), none, none], [some (0, PL ps), some (0, I K), some (0, NL (bothN f (hst p.1.toNat p.2.toNat 64) 64)), some (0, .int p.1), some (0, .int p.2), none, none], rfl, ?_, _, _, rfl⟩
      generalize NL (bothN f (hst p.1.toNat p.2.toNat 64) 64) = R at h2 ⊢
      generalize NL (hst p.1.toNat p.2.toNat 64) = H at h1 h2
      generalize NL f = F at h2 ⊢
      generalize PL ps = L
      simp [h1, h2]
  rw [List.take_length] at he
  subst he
  obtain ⟨ρ2, e2, x5, he2⟩ := loopR (tg := tName 5) (body := (sAsg 2 (mFz (mComp 0 (iSeq (mO (oVar 2))) (tName 6) tYesM (mP (pBin dMul (pC (.int 64)) (pVar 6))) [6]))))
    t (fun i ρ => ∃ x5, ρ = [some (0, PL ps), some (0, I K), some (0, NL (cnt ps i)), x3, x4, x5, none]) (ρ := [some (0, PL ps), some (0, I K), some (0, NL (cfold ps)), x3, x4, none, none]) ⟨none, by
      rw [show cnt ps 0 = cfold ps by unfold cnt; simp]⟩ fun i ρ hi ⟨x5, hρ⟩ => by
      subst hρ
      have hb := cnt_bd hl (t := i) (by omega)
      have hlen := cnt_len ps i
      have hs : cnt ps (i + 1) = (cnt ps i).map fun m => 64 * m := by
        unfold cnt
        rw [List.map_map]
        refine List.map_congr_left fun x _ => ?_
        show 64 ^ (i + 1) * x = 64 * (64 ^ i * x)
        rw [Nat.pow_succ, Nat.mul_comm (64 ^ i), Nat.mul_assoc]
      rw [hs]
      generalize cnt ps i = f at hb hlen ⊢
      generalize PL ps = L
      have hc := comp_map1 (kc := 0) (it := (iSeq (mO (oVar 2)))) (tg := tName 6) (x := (mP (pBin dMul (pC (.int 64)) (pVar 6)))) (own := [6])
        (ρ := [some (0, L), some (0, I K), some (0, NL f), x3, x4, some (0, I i), none]) (ρ1 := [some (0, L), some (0, I K), some (0, NL f), x3, x4, some (0, I i), none]) (ρ0 := [some (0, L), some (0, I K), some (0, NL f), x3, x4, some (0, I i), none])
        f (fun c : Nat => D.int (c : Int)) (fun c : Nat => D.int ((64 * c : Nat) : Int)) (by simp) (by omega) rfl fun c hc => ⟨[some (0, L), some (0, I K), some (0, NL f), x3, x4, some (0, I i), some (0, I c)], rfl, rfl, 0, by
          have h4 : okMul 64 (c : Int) = true := okMul_small (by decide) (by rw [Int.natAbs_natCast]; have := hb c hc; omega)
          generalize NL f = F
          simp [h4], by simp⟩
      refine ⟨[some (0, L), some (0, I K), some (0, NL f), x3, x4, some (0, I i), none], [some (0, L), some (0, I K), some (0, NL (f.map fun m => 64 * m)), x3, x4, some (0, I i), none], rfl, ?_, _, rfl⟩
      rw [e_sAsg, e_mFz, hc, show NL (f.map fun m => 64 * m) = .lst (f.map fun c : Nat => D.int ((64 * c : Nat) : Int)) by show D.lst _ = _; rw [List.map_map]; rfl]
      rfl
  subst he2
  refine run0_rt (ρ := [some (0, PL ps), some (0, I K), none, none, none, none, none]) (ρ' := [some (0, PL ps), some (0, I K), some (0, NL (cnt ps t)), x3, x4, x5, none]) rfl ?_
  unfold m__law_counts
  rw [seq_nx (ρ1 := [some (0, PL ps), some (0, I K), some (0, NL (1 :: List.replicate 63 0)), none, none, none, none]) (by
    have hok : okIx 63 = true := okIx_mk (by omega)
    generalize PL ps = L
    simp [hok, sizeLine])]
  rw [seq_nx (for_nx (ρ1 := [some (0, PL ps), some (0, I K), some (0, NL (1 :: List.replicate 63 0)), none, none, none, none]) (ds := ps.map pcD) (by simp) e)]
  rw [seq_nx (for_nx (ρ1 := [some (0, PL ps), some (0, I K), some (0, NL (cfold ps)), x3, x4, none, none]) (ds := rng 0 1 t) (by
    have hsb : mBin dSub (mO (oVar 1)) (mCall 1 F__law_unknowns (mCons 0 (mO (oVar 0)) mNil)) [some (0, PL ps), some (0, I K), some (0, NL (cfold ps)), x3, x4, none, none] = some ((0, I t), [some (0, PL ps), some (0, I K), some (0, NL (cfold ps)), x3, x4, none, none]) := by
      generalize PL ps = L at hun ⊢
      generalize NL (cfold ps) = F
      have : K - (ps.map uk).sum = t := by omega
      simp [hun, this]
    rw [e_rg1 (j := t) (ρ1 := [some (0, PL ps), some (0, I K), some (0, NL (cfold ps)), x3, x4, none, none]) (by rw [e_mCons, hsb]; rfl), okRng_nat (by omega)]
    simp) e2)]
  generalize NL (cnt ps t) = H
  simp

/-! ### pieces drawn -/
theorem size_ok {n : Nat} {c : Cell} (h : Gn n c) (hn : n ≤ 10 ^ 15) (a b : Int) (hab : a ≤ b) (hb : b - a + 1 ≤ 10 ^ 6) : ∃ r c', F__law_size c [I a, I b] = some ((0, I r), c') ∧ a ≤ r ∧ r ≤ b ∧ Gn (n + 101) c' := by
  obtain ⟨r, c', e, h1, h2, h3⟩ := random_ok h hn (b - a + 1) (by omega) (Nat.lt_of_lt_of_le (log2_lt (k := 30) (by omega) (by decide)) (by decide))
  refine ⟨a + r, c', ?_, by omega, by omega, h3⟩
  simp [F__law_size, m__law_size, e]
theorem app_in0 {v kc : Nat} {ρ ρ1 : Mn.Env} {a rest : List D} {d : D} {m : Mn.Env → Option (Cell × Mn.Env)} (e : ρ[v]? = some (some (2, .lst (.lst a :: rest)))) (hm : m (ρ.set v none) = some ((kc, d), ρ1)) (ha : a.length < 16777216) :
    sApp v (plIx v plNil (pC (.int 0))) m ρ = some (.nx (ρ1.set v (some (2, .lst (.lst (a ++ [d]) :: rest))))) := by
  unfold sApp plIx plAt
  have hl : (0 : Int) < (rest.length : Int) + 1 := by omega
  simp [e, D.at, D.put, ixN, ha, plAt, plIx, hm, hl]
theorem app_in1 {v kc : Nat} {ρ ρ1 : Mn.Env} {a rest : List D} {d z : D} {m : Mn.Env → Option (Cell × Mn.Env)} (e : ρ[v]? = some (some (2, .lst (z :: .lst a :: rest)))) (hm : m (ρ.set v none) = some ((kc, d), ρ1)) (ha : a.length < 16777216) :
    sApp v (plIx v plNil (pC (.int 1))) m ρ = some (.nx (ρ1.set v (some (2, .lst (z :: .lst (a ++ [d]) :: rest))))) := by
  unfold sApp plIx plAt
  have hl : (1 : Int) < (rest.length : Int) + 1 + 1 := by omega
  simp [e, D.at, D.put, ixN, ha, plAt, plIx, hm, hl]
theorem app_in2 {v kc : Nat} {ρ ρ1 : Mn.Env} {a rest : List D} {d z y : D} {m : Mn.Env → Option (Cell × Mn.Env)} (e : ρ[v]? = some (some (2, .lst (z :: y :: .lst a :: rest)))) (hm : m (ρ.set v none) = some ((kc, d), ρ1)) (ha : a.length < 16777216) :
    sApp v (plIx v plNil (pC (.int 2))) m ρ = some (.nx (ρ1.set v (some (2, .lst (z :: y :: .lst (a ++ [d]) :: rest))))) := by
  unfold sApp plIx plAt
  have hl : (2 : Int) < (rest.length : Int) + 1 + 1 + 1 := by omega
  simp [e, D.at, D.put, ixN, ha, plAt, plIx, hm, hl]
theorem pick10 {r : Int} (h1 : 0 ≤ r) (h2 : r < 10) : ∃ k, atI [D.int 0, .int 1, .int 2, .int 3, .int 5, .int 7, .int 1, .int 3, .int 5, .int 7] r = some (.int k) ∧ k ∈ kindsL := by
  have : r = 0 ∨ r = 1 ∨ r = 2 ∨ r = 3 ∨ r = 4 ∨ r = 5 ∨ r = 6 ∨ r = 7 ∨ r = 8 ∨ r = 9 := by omega
  rcases this with rfl | rfl | rfl | rfl | rfl | rfl | rfl | rfl | rfl | rfl <;> exact ⟨_, rfl, by decide⟩
theorem perm_sum {l m : List Int} (h : l.Perm m) : l.sum = m.sum := by
  induction h with
  | nil => rfl
  | cons x _ ih => simp [ih]
  | swap x y l => simp only [List.sum_cons]; omega
  | trans _ _ h1 h2 => rw [h1, h2]
/-! ### the law -/
theorem FsC_mem (σ : Nat → Int) (o : Nat → Bool) : ∀ (i : Nat) (x : Int), x ∈ FsC σ o i → ∃ j, j < i ∧ x = σ j
  | 0, x, h => by cases h
  | i + 1, x, h => by
    rw [FsC] at h
    split at h
    · rcases List.mem_append.mp h with z | z
      · obtain ⟨j, h1, h2⟩ := FsC_mem σ o i x z
        exact ⟨j, by omega, h2⟩
      · exact ⟨i, by omega, List.mem_singleton.mp z⟩
    · obtain ⟨j, h1, h2⟩ := FsC_mem σ o i x h
      exact ⟨j, by omega, h2⟩
theorem uk_le (l : List Pc) : (l.map uk).sum ≤ 2 * (l.length : Int) ∧ (l.length : Int) ≤ (l.map uk).sum := by
  refine ⟨?_, uk_pos l⟩
  induction l with
  | nil => simp
  | cons p r ih =>
    simp only [List.map_cons, List.sum_cons, List.length_cons]
    have : uk p ≤ 2 := by unfold uk; omega
    omega
theorem same_ok {ms : List Nat} {d : D} (hz : rzz 30 ms ≤ 16777216) (hn : ms.length < 64) (h : Rz 30 ms d) : F__law_same [d, d] = some (0, .bl true) := by
  obtain ⟨e1, e2⟩ := repr_Rz (by decide) (by decide) hz hn h
  simp [F__law_same, m__law_same, e1, eq_S e2]
theorem cut_drop (l : List D) (k : Nat) : cutD l (some (k : Int)) none = l.drop k := by
  unfold cutD
  show (l.drop (HT.sIx l.length 0 (some (k : Int)))).take (l.length - HT.sIx l.length 0 (some (k : Int))) = _
  rw [HT.sIx_nat, List.take_of_length_le (by rw [List.length_drop]; exact Nat.le_refl _)]
  by_cases h : k ≤ l.length
  · rw [Nat.min_eq_left h]
  · rw [Nat.min_eq_right (by omega), List.drop_length, List.drop_eq_nil_of_le (by omega)]

theorem law_piecesM_ok {N : Nat} {c : Cell} (h : Gn N c) (hN : N ≤ 10 ^ 14) (S : List Int) (hS0 : S ≠ []) (hSl : S.length ≤ 1000) (hS : ∀ s ∈ S, 0 ≤ s ∧ s ≤ 2000) (M : Int) (hM0 : 0 ≤ M) (hM6 : M ≤ 6) :
    ∃ ps c', F__law_pieces c [I M, IL S] = some ((1, PL ps), c') ∧ Good ps ∧ (∀ p ∈ ps, p.1 ∈ S) ∧ (ps.map uk).sum ≤ M ∧ Gn (N + 10000) c' := by
  obtain ⟨m0, c0, e0, m1, m2, g0⟩ := size_ok h (by omega) 0 M (by omega) (by omega)
  have hSp : 0 < S.length := List.length_pos_iff.mpr hS0
  have ht : ∀ k : Int, k ∈ kindsL → k % 2 = 0 → k = 0 ∨ k = 2 := by
    intro k hk he
    simp only [kindsL, List.mem_cons, List.not_mem_nil, or_false] at hk
    omega
  obtain ⟨ρ', e, c1, fd, left, x5, x6, he, g1, hfl, hfd, hl0, hsum⟩ := loopR (tg := tName 5)
    (body := (sIf (mtP (pB (pBin dGt (pVar 4) (pC (.int 0))))) (sSeq (sAsg 6 (mFz (mIx (mLst 0 (mCons 0 (mP (pC (.int 0))) (mCons 0 (mP (pC (.int 1))) (mCons 0 (mP (pC (.int 2))) (mCons 0 (mP (pC (.int 3))) (mCons 0 (mP (pC (.int 5))) (mCons 0 (mP (pC (.int 7))) (mCons 0 (mP (pC (.int 1))) (mCons 0 (mP (pC (.int 3))) (mCons 0 (mP (pC (.int 5))) (mCons 0 (mP (pC (.int 7))) mNil))))))))))) (mCallI 2 F__law_random 0 (mCons 0 (mP (pC (.int 10))) mNil)))))
    (sSeq (sAsg 6 (mFz (mIf (mtP (ptAnd (pB (pBin dEq (pBin dMod (pCall dInt (pCons (pVar 6) pNil)) (pC (.int 2))) (pC (.int 0)))) (pB (pBin dEq (pVar 4) (pC (.int 1)))))) (mP (pBin dAdd (pVar 6) (pC (.int 1)))) (mO (oVar 6)))))
    (sSeq (sApp0 3 (mTup 0 (mCons 0 (mIx (mO (oVar 2)) (mCallI 2 F__law_random 0 (mCons 0 (mP (pCall dLen (pCons (pVar 2) pNil))) mNil))) (mCons 0 (mO (oVar 6)) mNil))))
    (sAsg 4 (mP (pBin dAdd (pBin dSub (pVar 4) (pC (.int 2))) (pBin dMod (pCall dInt (pCons (pVar 6) pNil)) (pC (.int 2))))))))) sNx))
    6 (fun i ρ => ∃ c fd left x5 x6, ρ = [some c, some (0, I M), some (0, IL S), some (1, PL fd), some (0, I left), x5, x6] ∧ Gn (N + 300 + 300 * i) c ∧ fd.length ≤ i ∧ (∀ p ∈ fd, p.1 ∈ S ∧ p.2 ∈ kindsL) ∧ 0 ≤ left ∧ (fd.map uk).sum + left ≤ M)
    (ρ := [some c0, some (0, I M), some (0, IL S), some (1, PL []), some (0, I m0), none, none]) ⟨c0, [], m0, none, none, rfl, g0.up (by omega), Nat.le_refl _, by simp, m1, by simpa using m2⟩ fun i ρ hi ⟨c, fd, left, x5, x6, hρ, gc, hfl, hfd, hl0, hsum⟩ => by
      subst hρ
      by_cases hp : 0 < left
      · obtain ⟨r1, c1, e1, p1, p2, g1⟩ := random_ok gc (by omega) 10 (by omega) (by decide)
        obtain ⟨k, ek, hk⟩ := pick10 p1 p2
        obtain ⟨r2, c2, e2, q1, q2, g2⟩ := random_ok g1 (by omega) (S.length : Int) (by omega) (Nat.lt_of_lt_of_le (log2_lt (k := 30) (by omega) (by decide)) (by decide))
        obtain ⟨s, es, hs⟩ : ∃ s, atI (S.map D.int) r2 = some (.int s) ∧ s ∈ S := by
          obtain ⟨q, rfl⟩ : ∃ q : Nat, r2 = q := ⟨r2.toNat, by omega⟩
          have hq : q < S.length := by omega
          exact ⟨S[q], by rw [atI_nat', List.getElem?_map, List.getElem?_eq_getElem hq]; rfl, List.getElem_mem hq⟩
        -- the kind, mended
        obtain ⟨k', ek', hk', hle⟩ : ∃ k', (if k % 2 = 0 ∧ left = 1 then k + 1 else k) = k' ∧ k' ∈ kindsL ∧ 2 - k' % 2 ≤ left := by
          by_cases hc : k % 2 = 0 ∧ left = 1
          · refine ⟨k + 1, by rw [if_pos hc], ?_, by omega⟩
            rcases ht k hk hc.1 with rfl | rfl <;> decide
          · exact ⟨k, by rw [if_neg hc], hk, by omega⟩
        refine ⟨[some c, some (0, I M), some (0, IL S), some (1, PL fd), some (0, I left), some (0, I i), x6], [some c2, some (0, I M), some (0, IL S), some (1, PL (fd ++ [(s, k')])), some (0, I (left - 2 + k' % 2)), some (0, I i), some (0, I k')], rfl, ?_, c2, fd ++ [(s, k')], left - 2 + k' % 2, _, _, rfl, g2.up (by omega), by simp; omega, ?_, by omega, ?_⟩
        · rw [e_sIf, show (mtP (pB (pBin dGt (pVar 4) (pC (.int 0))))) [some c, some (0, I M), some (0, IL S), some (1, PL fd), some (0, I left), some (0, I i), x6] = some (true, [some c, some (0, I M), some (0, IL S), some (1, PL fd), some (0, I left), some (0, I i), x6]) by simp [hp]]
          show sSeq _ _ _ = _
          generalize hPL : PL fd = P
          rw [seq_nx (ρ1 := [some c1, some (0, I M), some (0, IL S), some (1, P), some (0, I left), some (0, I i), some (0, I k)]) (by simp [e1, ek])]
          rw [seq_nx (ρ1 := [some c1, some (0, I M), some (0, IL S), some (1, P), some (0, I left), some (0, I i), some (0, I k')]) (by
            rw [← ek']
            by_cases z1 : k % 2 = 0 <;> by_cases z2 : left = 1 <;> simp [z1, z2])]
          subst hPL
          rw [seq_nx (app0_ok (x := .non) (d := pcD (s, k')) (kc := 1) (ρ1 := [some c2, some (0, I M), some (0, IL S), some (1, PL fd), some (0, I left), some (0, I i), some (0, I k')]) rfl (by simp [e2, es]) rfl (by rw [List.length_map]; omega) (by simp))]
          have hP2 : PL (fd ++ [(s, k')]) = .lst (fd.map pcD ++ [pcD (s, k')]) := by simp
          rw [hP2]
          show sAsg _ _ [some c2, some (0, I M), some (0, IL S), some (1, .lst (fd.map pcD ++ [pcD (s, k')])), some (0, I left), some (0, I i), some (0, I k')] = _
          generalize fd.map pcD ++ [pcD (s, k')] = P2
          simp
        · intro p hpm
          rcases List.mem_append.mp hpm with z | z
          · exact hfd p z
          · rw [List.mem_singleton.mp z]; exact ⟨hs, hk'⟩
        · rw [List.map_append, List.sum_append]
          simp only [List.map_cons, List.map_nil, List.sum_cons, List.sum_nil, uk]
          omega
      · have hz : left = 0 := by omega
        refine ⟨[some c, some (0, I M), some (0, IL S), some (1, PL fd), some (0, I left), some (0, I i), x6], [some c, some (0, I M), some (0, IL S), some (1, PL fd), some (0, I left), some (0, I i), x6], rfl, ?_, c, fd, left, _, _, rfl, gc.up (by omega), by omega, hfd, hl0, hsum⟩
        simp [hz]
  subst he
  refine ⟨fd.mergeSort lePc, c1, ?_, ⟨fun p hp => ?_, sorted_pcs fd, ?_⟩, fun p hp => (hfd p ((List.mergeSort_perm fd lePc).mem_iff.mp hp)).1, by have := perm_sum ((List.mergeSort_perm fd lePc).map uk); omega, g1.up (by omega)⟩
  · refine run1_rt (ρ := [some c, some (0, I M), some (0, IL S), none, none, none, none]) (ρ' := [some c1, some (0, I M), some (0, IL S), some (0, PL fd), some (0, I left), x5, x6]) rfl ?_ rfl
    unfold m__law_pieces
    rw [seq_nx (ρ1 := [some c0, some (0, I M), some (0, IL S), some (1, PL []), some (0, I m0), none, none]) (by simp [e0])]
    rw [seq_nx (for_nx (ρ1 := [some c0, some (0, I M), some (0, IL S), some (1, PL []), some (0, I m0), none, none]) (ds := rng 0 1 6) (by
      rw [e_rg1 (j := 6) (ρ1 := [some c0, some (0, I M), some (0, IL S), some (1, PL []), some (0, I m0), none, none]) (by simp), okRng_mk (by omega)]
      rfl) e)]
    have := sort_pcs fd
    generalize PL fd = P at this
    simp [this]
  · obtain ⟨h1, h2⟩ := hfd p ((List.mergeSort_perm fd lePc).mem_iff.mp hp)
    exact ⟨(hS _ h1).1, (hS _ h1).2, h2⟩
  · have := perm_sum ((List.mergeSort_perm fd lePc).map uk)
    omega

/-! ### the mate -/
theorem P3_sort {L : List Pc} (h1 : ∀ p ∈ L, p ∈ pcs3) (h2 : (L.map uk).sum ≤ 3) : P3 (L.mergeSort lePc) := by
  refine ⟨fun p hp => h1 p ((List.mergeSort_perm L lePc).mem_iff.mp hp), sorted_pcs L, ?_⟩
  have := perm_sum ((List.mergeSort_perm L lePc).map uk)
  omega
theorem alt_ok {k : Int} (h : k ∈ kindsL) : ∃ k', atI [D.int 2, .int 5, .int 0, .int 7, .int 3, .int 1, .int 3, .int 3] k = some (.int k') ∧ k' ∈ kindsL ∧ k' % 2 = k % 2 := by
  simp only [kindsL, List.mem_cons, List.not_mem_nil, or_false] at h
  rcases h with rfl | rfl | rfl | rfl | rfl | rfl <;> exact ⟨_, rfl, by decide, by decide⟩
theorem pcs3_mk {s k : Int} (h1 : s = 0 ∨ s = 1 ∨ s = 2) (h3 : k ∈ kindsL) : (s, k) ∈ pcs3 := by
  refine List.mem_flatMap.mpr ⟨s, ?_, List.mem_map.mpr ⟨k, h3, rfl⟩⟩
  rcases h1 with rfl | rfl | rfl <;> decide
theorem pcs3_ab {p : Pc} (h : p ∈ pcs3) : (p.1 = 0 ∨ p.1 = 1 ∨ p.1 = 2) ∧ p.2 ∈ kindsL := by
  have := pcs3_good p h
  exact ⟨by omega, this.2.2⟩
theorem sum_split (ps : List Pc) (q : Nat) (h : q < ps.length) : (ps.map uk).sum = ((ps.take q ++ ps.drop (q + 1)).map uk).sum + uk ps[q] := by
  have e : ps = ps.take q ++ ps[q] :: ps.drop (q + 1) := by rw [List.getElem_cons_drop, List.take_append_drop]
  have := congrArg (fun l => (l.map uk).sum) e
  simp only [List.map_append, List.map_cons, List.sum_append, List.sum_cons] at this ⊢
  omega
theorem cut_take (l : List D) (k : Nat) : cutD l none (some (k : Int)) = l.take k := by
  unfold cutD
  show (l.drop 0).take (HT.sIx l.length l.length (some (k : Int)) - 0) = _
  rw [HT.sIx_nat, List.drop_zero, Nat.sub_zero]
  by_cases h : k ≤ l.length
  · rw [Nat.min_eq_left h]
  · rw [Nat.min_eq_right (by omega), List.take_of_length_le (Nat.le_refl _), List.take_of_length_le (by omega)]
theorem pick_sum (f : Nat → Int) (j : Nat) : ∀ n, j < n → ((((List.range n).filter fun i => !decide (i = j)).map f).sum + f j = ((List.range n).map f).sum)
  | 0, h => absurd h (by omega)
  | n + 1, h => by
    rw [@List.range_succ n, List.filter_append, List.map_append, List.map_append, List.sum_append, List.sum_append]
    by_cases c : j = n
    · subst c
      have : ((List.range j).filter fun i => !decide (i = j)) = List.range j := List.filter_eq_self.mpr fun i hi => by
        have := List.mem_range.mp hi
        rw [decide_eq_false (by omega)]; rfl
      rw [this]
      simp
    · have ih := pick_sum f j n (by omega)
      have : ([n].filter fun i => !decide (i = j)) = [n] := by
        rw [List.filter_cons_of_pos (by rw [decide_eq_false (by omega)]; rfl)]; rfl
      rw [this]
      simp only [List.map_cons, List.map_nil, List.sum_cons, List.sum_nil]
      omega
def frMt (c : Cell) (ps : List Pc) (way at_ : Int) (x4 x5 x6 x7 x8 x9 x10 x11 x12 x13 : Option Cell) : Mn.Env := [some c, some (0, PL ps), some (0, I way), some (0, I at_), x4, x5, x6, x7, x8, x9, x10, x11, x12, x13, none, none]
abbrev mAlt : Mn.Env → Option (Cell × Mn.Env) := (mCallF dSorted (mCons 0 (mBinF dAddG (mO (oVar 6)) (mLst 0 (mCons 0 (mTup 0 (mCons 0 (mO (oVar 4)) (mCons 0 (mIx (mLst 0 (mCons 0 (mP (pC (.int 2))) (mCons 0 (mP (pC (.int 5))) (mCons 0 (mP (pC (.int 0))) (mCons 0 (mP (pC (.int 7))) (mCons 0 (mP (pC (.int 3))) (mCons 0 (mP (pC (.int 1))) (mCons 0 (mP (pC (.int 3))) (mCons 0 (mP (pC (.int 3))) mNil))))))))) (mO (oVar 5))) mNil))) mNil))) mNil))
theorem alt_walk (c : Cell) (ps : List Pc) (way at_ s k k' : Int) (L : List Pc) (x7 : Option Cell) (hL : L.length ≤ 1000) (hk : atI [D.int 2, .int 5, .int 0, .int 7, .int 3, .int 1, .int 3, .int 3] k = some (.int k')) :
    mAlt (frMt c ps way at_ (some (0, I s)) (some (0, I k)) (some (0, PL L)) x7 none none none none none none) = some ((1, PL ((L ++ [(s, k')]).mergeSort lePc)), frMt c ps way at_ (some (0, I s)) (some (0, I k)) (some (0, PL L)) x7 none none none none none none) := by
  have hs := sort_pcs (L ++ [(s, k')])
  rw [show PL (L ++ [(s, k')]) = .lst (L.map pcD ++ [.tup [.int s, .int k']]) by simp] at hs
  unfold frMt mAlt
  generalize PL ((L ++ [(s, k')]).mergeSort lePc) = R at hs ⊢
  generalize PL ps = P
  have hl2 : (L.map pcD).length ≤ 1000 := by rw [List.length_map]; exact hL
  show mCallF dSorted _ [_, _, _, _, _, _, some (0, .lst (L.map pcD)), _, _, _, _, _, _, _, _, _] = some ((1, R), [_, _, _, _, _, _, some (0, .lst (L.map pcD)), _, _, _, _, _, _, _, _, _])
  generalize L.map pcD = M at hs hl2 ⊢
  have h3 : M.length + 1 ≤ sizeLine := by unfold sizeLine; omega
  simp [hk, hs, h3]

theorem lt_pair (a b c d : Int) : ([a, b] : List Int) < [c, d] ↔ a < c ∨ (a = c ∧ b < d) := by
  constructor
  · intro h
    cases h with
    | rel h => exact .inl h
    | cons h => cases h with
      | rel h => exact .inr ⟨rfl, h⟩
      | cons h => cases h
  · rintro (h | ⟨rfl, h⟩)
    · exact .rel h
    · exact .cons (.rel h)
theorem odd_kind {k : Int} (h : k % 2 = 1) (h0 : 0 ≤ k) (h7 : k < 8) : k ∈ kindsL := by
  have : k = 1 ∨ k = 3 ∨ k = 5 ∨ k = 7 := by omega
  rcases this with rfl | rfl | rfl | rfl <;> decide
theorem odd_mul {a b : Int} (ha : a % 2 = 1) (hb : b % 2 = 1) : (a * b) % 2 = 1 := by rw [Int.mul_emod, ha, hb]; rfl
theorem mate_ok {N : Nat} {c : Cell} (h : Gn N c) (hN : N ≤ 10 ^ 13) {ps : List Pc} (hp : P3 ps) : ∃ qs c', F__law_mate c [PL ps] = some ((1, PL qs), c') ∧ P3 qs := by
  have hl : ps.length ≤ 3 := by have := uk_pos ps; have := hp.un; omega
  obtain ⟨way, c1, e1, w1, w2, g1⟩ := random_ok h (by omega) 4 (by omega) (by decide)
  obtain ⟨at_, c2, e2, a1, a2, g2⟩ := random_ok g1 (by omega) (if 1 > (ps.length : Int) then 1 else (ps.length : Int)) (by split <;> omega) (Nat.lt_of_lt_of_le (log2_lt (k := 30) (by split <;> omega) (by decide)) (by decide))
  have s1 : sPar2 2 3 (mFz (mCallI 2 F__law_random 0 (mCons 0 (mP (pC (.int 4))) mNil))) (mFz (mCallI 2 F__law_random 0 (mCons 0 (mP (pCall dMaxL (pCons (pCall dLen (pCons (pVar 1) pNil)) (pCons (pC (.int 1)) pNil)))) mNil))) [some c, some (0, PL ps), none, none, none, none, none, none, none, none, none, none, none, none, none, none]
      = some (.nx (frMt c2 ps way at_ none none none none none none none none none none)) := by
    have hlen : dLen [PL ps] = some (.int ps.length) := by simp
    unfold frMt
    generalize PL ps = P at hlen ⊢
    simp [hlen, e1, e2]
  have hps0 : dEq (PL ps) (.lst []) = some (.bl (decide (ps = []))) := enc_pair.list.eq (by decide) ps []
  have hcond : ∀ b, decide (way = 0 ∨ ps = []) = b → (mtOr (mtP (pB (pBin dEq (pVar 2) (pC (.int 0))))) (mtV (mBin dEq (mO (oVar 1)) (mLst 0 mNil)))) (frMt c2 ps way at_ none none none none none none none none none none) = some (b, frMt c2 ps way at_ none none none none none none none none none none) := fun b hb => by
    rw [← hb]
    unfold frMt
    generalize PL ps = P at hps0 ⊢
    by_cases q1 : way = 0
    · simp [q1]
    · simp [q1, hps0]
  by_cases q : way = 0 ∨ ps = []
  · obtain ⟨qs, c3, e3, gq, hq1, hq2, _⟩ := law_piecesM_ok g2 (by omega) [0, 1, 2] (by decide) (by decide) (by decide) 3 (by decide) (by decide)
    refine ⟨qs, c3, ?_, P3_good gq (fun p hp => by have := hq1 p hp; simp at this; omega) hq2⟩
    refine run1_rt (ρ := [some c, some (0, PL ps), none, none, none, none, none, none, none, none, none, none, none, none, none, none]) (ρ' := frMt c3 ps way at_ none none none none none none none none none none) rfl ?_ rfl
    unfold m__law_mate
    rw [seq_nx s1]
    refine seq_rt ?_
    rw [e_sIf, hcond true (decide_eq_true q)]
    show sRet _ _ = _
    unfold frMt
    have e3' : F__law_pieces c2 [.int 3, .lst [.int 0, .int 1, .int 2]] = some ((1, PL qs), c3) := e3
    generalize PL qs = Q at e3' ⊢
    generalize PL ps = P
    simp [e3']
  · have q1 : way ≠ 0 := fun z => q (.inl z)
    have q2 : ps ≠ [] := fun z => q (.inr z)
    have hpos : 0 < ps.length := List.length_pos_iff.mpr q2
    obtain ⟨x, rfl⟩ : ∃ x : Nat, at_ = x := ⟨at_.toNat, by omega⟩
    have hx : x < ps.length := by split at a2 <;> omega
    have hat : atI (ps.map pcD) (x : Int) = some (pcD ps[x]) := by rw [at_map, List.getElem?_eq_getElem hx]; rfl
    have hpx := hp.el ps[x] (List.getElem_mem hx)
    have hsum := sum_split ps x hx
    have hleft : ∀ p ∈ ps.take x ++ ps.drop (x + 1), p ∈ pcs3 := fun p hm => by
      rcases List.mem_append.mp hm with z | z
      · exact hp.el p (List.mem_of_mem_take z)
      · exact hp.el p (List.mem_of_mem_drop z)
    have hleftl : (ps.take x ++ ps.drop (x + 1)).length ≤ 3 := by simp; omega
    have hun := hp.un
    have s3 : sAsgT (mO (oIx (oVar 1) (pVar 3))) (cTup 2 (csCons (cName0 4) (csCons (cName0 5) csNil))) (frMt c2 ps way x none none none none none none none none none none) = some (.nx (frMt c2 ps way x (some (0, I ps[x].1)) (some (0, I ps[x].2)) none none none none none none none none)) := by
      unfold frMt
      generalize ps[x] = p at hat ⊢
      simp [hat]
    have s4 : sAsg 6 (mFz (mBinF dAddG (mSl (mO (oVar 1)) none (some (mP (pVar 3)))) (mSl (mO (oVar 1)) (some (mP (pBin dAdd (pVar 3) (pC (.int 1))))) none))) (frMt c2 ps way x (some (0, I ps[x].1)) (some (0, I ps[x].2)) none none none none none none none none)
        = some (.nx (frMt c2 ps way x (some (0, I ps[x].1)) (some (0, I ps[x].2)) (some (0, PL (ps.take x ++ ps.drop (x + 1)))) none none none none none none none)) := by
      have h1 := cut_take (ps.map pcD) x
      have h2 := cut_drop (ps.map pcD) (x + 1)
      have h3 : PL (ps.take x ++ ps.drop (x + 1)) = .lst ((ps.map pcD).take x ++ (ps.map pcD).drop (x + 1)) := by rw [← List.map_take, ← List.map_drop, ← List.map_append]
      have h4 : (ps.map pcD).length = ps.length := List.length_map ..
      have hc : ((x + 1 : Nat) : Int) = (x : Int) + 1 := rfl
      rw [hc] at h2
      rw [h3]
      unfold frMt
      generalize ps[x] = p
      show sAsg _ _ [_, some (0, .lst (ps.map pcD)), _, _, _, _, _, _, _, _, _, _, _, _, _, _] = some (.nx [_, some (0, .lst (ps.map pcD)), _, _, _, _, _, _, _, _, _, _, _, _, _, _])
      generalize ps.map pcD = M at h1 h2 h4 ⊢
      have h5 : (M.take x).length + (M.drop (x + 1)).length ≤ sizeLine := by unfold sizeLine; simp; omega
      simp [h1, h2, h5]
      rw [if_pos (by omega)]
      rfl
    generalize ps[x] = p at hat hpx hsum s3 s4
    generalize ps.take x ++ ps.drop (x + 1) = L at hsum hleft hleftl s4
    obtain ⟨ps1, ps2⟩ := pcs3_ab hpx
    obtain ⟨k', hk', hkk, hkp⟩ := alt_ok ps2
    have halt := fun x7 => alt_walk c2 ps way x p.1 p.2 k' L x7 (by omega) hk'
    have hqs : P3 ((L ++ [(p.1, k')]).mergeSort lePc) := P3_sort (fun r hr => by
      rcases List.mem_append.mp hr with z | z
      · exact hleft r z
      · rw [List.mem_singleton.mp z]; exact pcs3_mk ps1 hkk) (by
      rw [List.map_append, List.sum_append]
      simp only [List.map_cons, List.map_nil, List.sum_cons, List.sum_nil, uk] at hsum ⊢
      omega)
    have hc5 : ∀ b, decide (way = 1) = b → (mtP (pB (pBin dEq (pVar 2) (pC (.int 1))))) (frMt c2 ps way x (some (0, I p.1)) (some (0, I p.2)) (some (0, PL L)) none none none none none none none) = some (b, frMt c2 ps way x (some (0, I p.1)) (some (0, I p.2)) (some (0, PL L)) none none none none none none none) := fun b hb => by
      rw [← hb]
      unfold frMt
      generalize PL ps = P
      generalize PL L = M
      simp
    by_cases w1 : way = 1
    · refine ⟨_, c2, ?_, hqs⟩
      refine run1_rt (ρ := [some c, some (0, PL ps), none, none, none, none, none, none, none, none, none, none, none, none, none, none]) (ρ' := frMt c2 ps way x (some (0, I p.1)) (some (0, I p.2)) (some (0, PL L)) none none none none none none none) rfl ?_ rfl
      unfold m__law_mate
      rw [seq_nx s1, seq_nx (by rw [e_sIf, hcond false (decide_eq_false q)]; rfl), seq_nx s3, seq_nx s4]
      refine seq_rt ?_
      rw [e_sIf, hc5 true (decide_eq_true w1)]
      show sRet mAlt _ = _
      rw [e_sRet, halt]
    · have c7 := comp_map (kc := 0) (it := iSeq (mO (oVar 6))) (tg := tName 14) (t := mtP (pB (pBin dEq (pBin dMod (pCall dInt (pCons (pBin dIx (pVar 14) (pC (.int 1))) pNil)) (pC (.int 2))) (pC (.int 1))))) (x := mO (oVar 14)) (own := [14])
        (ρ := frMt c2 ps way x (some (0, I p.1)) (some (0, I p.2)) (some (0, PL L)) none none none none none none none) (ρ1 := frMt c2 ps way x (some (0, I p.1)) (some (0, I p.2)) (some (0, PL L)) none none none none none none none) (ρ0 := frMt c2 ps way x (some (0, I p.1)) (some (0, I p.2)) (some (0, PL L)) none none none none none none none)
        L pcD (fun r => decide (r.2 % 2 = 1)) pcD (by unfold frMt; simp) (by omega) rfl fun r _ => ⟨(frMt c2 ps way x (some (0, I p.1)) (some (0, I p.2)) (some (0, PL L)) none none none none none none none).set 14 (some (0, pcD r)), rfl, by unfold frMt; simp, rfl, fun _ => ⟨0, by unfold frMt; simp, by simp⟩⟩
      have s7 : sAsg 7 (mFz (mComp 0 (iSeq (mO (oVar 6))) (tName 14) (mtP (pB (pBin dEq (pBin dMod (pCall dInt (pCons (pBin dIx (pVar 14) (pC (.int 1))) pNil)) (pC (.int 2))) (pC (.int 1))))) (mO (oVar 14)) [14])) (frMt c2 ps way x (some (0, I p.1)) (some (0, I p.2)) (some (0, PL L)) none none none none none none none)
          = some (.nx (frMt c2 ps way x (some (0, I p.1)) (some (0, I p.2)) (some (0, PL L)) (some (0, PL (L.filter fun r => decide (r.2 % 2 = 1)))) none none none none none none)) := by rw [e_sAsg, e_mFz, c7]; rfl
      have hSqm : ∀ r ∈ L.filter fun r => decide (r.2 % 2 = 1), r ∈ L ∧ r.2 % 2 = 1 := fun r hr => by
        have := List.mem_filter.mp hr
        exact ⟨this.1, of_decide_eq_true this.2⟩
      have hSql : (L.filter fun r => decide (r.2 % 2 = 1)).length ≤ 3 := Nat.le_trans (List.length_filter_le _ _) hleftl
      have hSq0 : dEq (PL (L.filter fun r => decide (r.2 % 2 = 1))) (.lst []) = some (.bl (decide ((L.filter fun r => decide (r.2 % 2 = 1)) = []))) := enc_pair.list.eq (by decide) (L.filter fun r => decide (r.2 % 2 = 1)) []
      generalize (L.filter fun r => decide (r.2 % 2 = 1)) = Sq at s7 hSqm hSql hSq0
      have hc8 : ∀ b, decide (p.2 % 2 = 0 ∨ Sq = []) = b → (mtOr (mtP (pB (pBin dEq (pBin dMod (pCall dInt (pCons (pVar 5) pNil)) (pC (.int 2))) (pC (.int 0))))) (mtV (mBin dEq (mO (oVar 7)) (mLst 0 mNil)))) (frMt c2 ps way x (some (0, I p.1)) (some (0, I p.2)) (some (0, PL L)) (some (0, PL Sq)) none none none none none none)
          = some (b, frMt c2 ps way x (some (0, I p.1)) (some (0, I p.2)) (some (0, PL L)) (some (0, PL Sq)) none none none none none none) := fun b hb => by
        rw [← hb]
        unfold frMt
        generalize PL ps = P
        generalize PL L = M
        generalize PL Sq = Z at hSq0 ⊢
        by_cases q1 : p.2 % 2 = 0
        · simp [q1]
        · simp [q1, hSq0]
      by_cases w2 : p.2 % 2 = 0 ∨ Sq = []
      · refine ⟨_, c2, ?_, hqs⟩
        refine run1_rt (ρ := [some c, some (0, PL ps), none, none, none, none, none, none, none, none, none, none, none, none, none, none]) (ρ' := frMt c2 ps way x (some (0, I p.1)) (some (0, I p.2)) (some (0, PL L)) (some (0, PL Sq)) none none none none none none) rfl ?_ rfl
        unfold m__law_mate
        rw [seq_nx s1, seq_nx (by rw [e_sIf, hcond false (decide_eq_false q)]; rfl), seq_nx s3, seq_nx s4, seq_nx (by rw [e_sIf, hc5 false (decide_eq_false w1)]; rfl), seq_nx s7]
        refine seq_rt ?_
        rw [e_sIf, hc8 true (decide_eq_true w2)]
        show sRet mAlt _ = _
        rw [e_sRet, halt]
      · have podd : p.2 % 2 = 1 := by have := Int.emod_two_eq p.2; have : ¬ p.2 % 2 = 0 := fun z => w2 (.inl z); omega
        have hSqp : 0 < Sq.length := List.length_pos_iff.mpr fun z => w2 (.inr z)
        obtain ⟨y, c3, e3, y1, y2, g3⟩ := random_ok g2 (by omega) (Sq.length : Int) (by omega) (Nat.lt_of_lt_of_le (log2_lt (k := 30) (by omega) (by decide)) (by decide))
        obtain ⟨yn, rfl⟩ : ∃ yn : Nat, y = yn := ⟨y.toNat, by omega⟩
        have hyn : yn < Sq.length := by omega
        have haty : atI (Sq.map pcD) (yn : Int) = some (pcD Sq[yn]) := by rw [at_map, List.getElem?_eq_getElem hyn]; rfl
        obtain ⟨mL, modd⟩ := hSqm Sq[yn] (List.getElem_mem hyn)
        have s8 : sAsg 8 (mFz (mIx (mO (oVar 7)) (mCallI 2 F__law_random 0 (mCons 0 (mP (pCall dLen (pCons (pVar 7) pNil))) mNil)))) (frMt c2 ps way x (some (0, I p.1)) (some (0, I p.2)) (some (0, PL L)) (some (0, PL Sq)) none none none none none none)
            = some (.nx (frMt c3 ps way x (some (0, I p.1)) (some (0, I p.2)) (some (0, PL L)) (some (0, PL Sq)) (some (0, pcD Sq[yn])) none none none none none)) := by
          have hlen : (Sq.map pcD).length = Sq.length := List.length_map ..
          unfold frMt
          generalize PL ps = P
          generalize PL L = M
          generalize Sq[yn] = m at haty ⊢
          show sAsg _ _ [_, _, _, _, _, _, _, some (0, .lst (Sq.map pcD)), _, _, _, _, _, _, _, _] = some (.nx [_, _, _, _, _, _, _, some (0, .lst (Sq.map pcD)), _, _, _, _, _, _, _, _])
          rw [← hlen] at e3
          generalize Sq.map pcD = T at haty e3 ⊢
          simp [e3, haty]
        generalize Sq[yn] = m at s8 mL modd
        have hmx := hleft m mL
        obtain ⟨ms1, ms2⟩ := pcs3_ab hmx
        obtain ⟨j, hj1, hj2⟩ := enc_pair.index (by decide) mL
        have hjl : j < L.length := (List.getElem?_eq_some_iff.mp hj2).1
        have hLr : PL L = .lst ((List.range L.length).map fun i => pcD (L.getD i (0, 0))) := by
          show D.lst _ = D.lst _
          congr 1
          refine List.ext_getElem (by simp) fun i h1 h2 => ?_
          have hi : i < L.length := by simpa using h1
          rw [List.getElem_map, List.getElem_map, List.getElem_range, List.getD_eq_getElem?_getD, List.getElem?_eq_getElem hi]
          rfl
        have hen : enumD 0 ((List.range L.length).map fun i => pcD (L.getD i (0, 0))) = (List.range L.length).map fun i : Nat => .tup [.int (i : Int), pcD (L.getD i (0, 0))] := enum_range ..
        have c9 := comp_map (kc := 0) (it := iEnumM (mCons 0 (mO (oVar 6)) mNil)) (tg := tTupT 2 (tsCons (tName 15) (tsCons (tName 14) tsNil))) (t := mtV (mBin dNe (mO (oVar 15)) (mIndex (mO (oVar 6)) (mO (oVar 8))))) (x := mO (oVar 14)) (own := [15, 14])
          (ρ := frMt c3 ps way x (some (0, I p.1)) (some (0, I p.2)) (some (0, PL L)) (some (0, PL Sq)) (some (0, pcD m)) none none none none none) (ρ1 := frMt c3 ps way x (some (0, I p.1)) (some (0, I p.2)) (some (0, PL L)) (some (0, PL Sq)) (some (0, pcD m)) none none none none none) (ρ0 := frMt c3 ps way x (some (0, I p.1)) (some (0, I p.2)) (some (0, PL L)) (some (0, PL Sq)) (some (0, pcD m)) none none none none none)
          (List.range L.length) (fun i : Nat => .tup [.int (i : Int), pcD (L.getD i (0, 0))]) (fun i => !decide (i = j)) (fun i => pcD (L.getD i (0, 0))) (by
            rw [← hen]
            refine iEnumM_eq ?_
            unfold frMt
            rw [hLr]
            rfl) (by simp; omega) rfl fun i hi => ⟨((frMt c3 ps way x (some (0, I p.1)) (some (0, I p.2)) (some (0, PL L)) (some (0, PL Sq)) (some (0, pcD m)) none none none none none).set 15 (some (0, I i))).set 14 (some (0, pcD (L.getD i (0, 0)))), rfl, by
              have hji : ((i : Int) = (j : Int)) ↔ i = j := by omega
              have hj1 : dIndexAt (L.map pcD) (pcD m) = some j := hj1
              unfold frMt
              generalize PL ps = P
              generalize PL Sq = Z
              generalize L.getD i (0, 0) = w
              show mtV _ [_, _, _, _, _, _, some (0, .lst (L.map pcD)), _, _, _, _, _, _, _, _, _] = some (_, [_, _, _, _, _, _, some (0, .lst (L.map pcD)), _, _, _, _, _, _, _, _, _])
              generalize L.map pcD = M at hj1 ⊢
              generalize pcD m = pm at hj1 ⊢
              simp [hj1, hji], rfl, fun _ => ⟨0, by unfold frMt; simp, by simp⟩⟩
        have hRs : ∀ r ∈ ((List.range L.length).filter fun i => !decide (i = j)).map fun i => L.getD i (0, 0), r ∈ pcs3 := fun r hr => by
          obtain ⟨i, hi, rfl⟩ := List.mem_map.mp hr
          have hi := List.mem_range.mp (List.mem_filter.mp hi).1
          rw [List.getD_eq_getElem?_getD, List.getElem?_eq_getElem hi]
          exact hleft _ (List.getElem_mem hi)
        have hRu : ((((List.range L.length).filter fun i => !decide (i = j)).map fun i => L.getD i (0, 0)).map uk).sum + uk m = (L.map uk).sum := by
          have h1 := pick_sum (fun i => uk (L.getD i (0, 0))) j L.length hjl
          have h2 : L.getD j (0, 0) = m := by rw [List.getD_eq_getElem?_getD, hj2]; rfl
          have h3 : ((List.range L.length).map fun i => uk (L.getD i (0, 0))) = L.map uk := by
            refine List.ext_getElem (by simp) fun i h1 h2 => ?_
            have hi : i < L.length := by simpa using h1
            rw [List.getElem_map, List.getElem_map, List.getElem_range, List.getD_eq_getElem?_getD, List.getElem?_eq_getElem hi]
            rfl
          simp only [h2, h3] at h1
          rw [List.map_map]
          exact h1
        have hRl : (((List.range L.length).filter fun i => !decide (i = j)).map fun i => L.getD i (0, 0)).length ≤ 3 := by
          rw [List.length_map]
          exact Nat.le_trans (List.length_filter_le _ _) (by simp; omega)
        have s9 : sAsg 9 (mFz (mComp 0 (iEnumM (mCons 0 (mO (oVar 6)) mNil)) (tTupT 2 (tsCons (tName 15) (tsCons (tName 14) tsNil))) (mtV (mBin dNe (mO (oVar 15)) (mIndex (mO (oVar 6)) (mO (oVar 8))))) (mO (oVar 14)) [15, 14])) (frMt c3 ps way x (some (0, I p.1)) (some (0, I p.2)) (some (0, PL L)) (some (0, PL Sq)) (some (0, pcD m)) none none none none none)
            = some (.nx (frMt c3 ps way x (some (0, I p.1)) (some (0, I p.2)) (some (0, PL L)) (some (0, PL Sq)) (some (0, pcD m)) (some (0, PL (((List.range L.length).filter fun i => !decide (i = j)).map fun i => L.getD i (0, 0)))) none none none none)) := by
          rw [e_sAsg, e_mFz, c9, show PL (((List.range L.length).filter fun i => !decide (i = j)).map fun i => L.getD i (0, 0)) = .lst (((List.range L.length).filter fun i => !decide (i = j)).map fun i => pcD (L.getD i (0, 0))) by show D.lst _ = _; rw [List.map_map]; rfl]
          rfl
        generalize (((List.range L.length).filter fun i => !decide (i = j)).map fun i => L.getD i (0, 0)) = R at hRs hRu hRl s9
        obtain ⟨lo, hi, d1, d2, hle, lor, hir⟩ : ∃ lo hi : Pc, dMinT [.tup [.int p.1, .int p.2], pcD m] = some (0, pcD lo) ∧ dMaxT [.tup [.int p.1, .int p.2], pcD m] = some (0, pcD hi) ∧ lo.1 ≤ hi.1 ∧ (lo = p ∨ lo = m) ∧ (hi = p ∨ hi = m) := by
          have l1 := lt_pair m.1 m.2 p.1 p.2
          have l2 := lt_pair p.1 p.2 m.1 m.2
          by_cases z1 : ([m.1, m.2] : List Int) < [p.1, p.2]
          · have z1' := l1.mp z1
            have z2 : ¬ ([p.1, p.2] : List Int) < [m.1, m.2] := fun z => by have := l2.mp z; omega
            exact ⟨m, p, by simp [dMinT, z1], by simp [dMaxT, z2], by omega, .inr rfl, .inl rfl⟩
          · by_cases z2 : ([p.1, p.2] : List Int) < [m.1, m.2]
            · have z2' := l2.mp z2
              exact ⟨p, m, by simp [dMinT, z1], by simp [dMaxT, z2], by omega, .inl rfl, .inr rfl⟩
            · exact ⟨p, p, by simp [dMinT, z1], by simp [dMaxT, z2], by omega, .inl rfl, .inl rfl⟩
        have lof : (lo.1 = 0 ∨ lo.1 = 1 ∨ lo.1 = 2) ∧ lo.2 ∈ kindsL ∧ lo.2 % 2 = 1 := by rcases lor with rfl | rfl; exact ⟨ps1, ps2, podd⟩; exact ⟨ms1, ms2, modd⟩
        have hif : (hi.1 = 0 ∨ hi.1 = 1 ∨ hi.1 = 2) ∧ hi.2 ∈ kindsL ∧ hi.2 % 2 = 1 := by rcases hir with rfl | rfl; exact ⟨ps1, ps2, podd⟩; exact ⟨ms1, ms2, modd⟩
        obtain ⟨st, hst, ste, st0, st4⟩ : ∃ st, atI [D.int 4, .int 2, .int 4] (hi.1 - lo.1) = some (.int st) ∧ st % 2 = 0 ∧ 0 ≤ st ∧ st ≤ 4 := by
          have : hi.1 - lo.1 = 0 ∨ hi.1 - lo.1 = 1 ∨ hi.1 - lo.1 = 2 := by omega
          rcases this with e | e | e <;> rw [e] <;> exact ⟨_, rfl, by decide, by decide, by decide⟩
        have lob := kinds_le lof.2.1
        have hib := kinds_le hif.2.1
        have ok1 : okMul st hi.2 = true := okMul_small (by omega) (by omega)
        have ok2 : okMul lo.2 hi.2 = true := okMul_small (by omega) (by omega)
        obtain ⟨gr, hgr⟩ : ∃ gr, (lo.2 + st * hi.2) % 8 = gr := ⟨_, rfl⟩
        have gr2 : gr % 2 = 1 := by
          have h1 : (st * hi.2) % 2 = 0 := by rw [Int.mul_emod, ste]; simp
          generalize st * hi.2 = z at h1 hgr
          omega
        have grb : 0 ≤ gr ∧ gr < 8 := by omega
        obtain ⟨la, hla⟩ : ∃ la, (lo.2 * hi.2 * gr) % 8 = la := ⟨_, rfl⟩
        have la2 : la % 2 = 1 := by
          have h1 := odd_mul (odd_mul lof.2.2 hif.2.2) gr2
          generalize lo.2 * hi.2 * gr = z at h1 hla
          omega
        have lab : 0 ≤ la ∧ la < 8 := by omega
        have ok3 : okMul (lo.2 * hi.2) gr = true := okMul_small (by
          have : (lo.2 * hi.2).natAbs ≤ 7 * 7 := by rw [Int.natAbs_mul]; exact Nat.mul_le_mul (by omega) (by omega)
          omega) (by omega)
        have s10 : sPar2 10 11 (mFz (mCallF dMinT (mCons 0 (mTup 0 (mCons 0 (mO (oVar 4)) (mCons 0 (mO (oVar 5)) mNil))) (mCons 0 (mO (oVar 8)) mNil)))) (mFz (mCallF dMaxT (mCons 0 (mTup 0 (mCons 0 (mO (oVar 4)) (mCons 0 (mO (oVar 5)) mNil))) (mCons 0 (mO (oVar 8)) mNil)))) (frMt c3 ps way x (some (0, I p.1)) (some (0, I p.2)) (some (0, PL L)) (some (0, PL Sq)) (some (0, pcD m)) (some (0, PL R)) none none none none)
            = some (.nx (frMt c3 ps way x (some (0, I p.1)) (some (0, I p.2)) (some (0, PL L)) (some (0, PL Sq)) (some (0, pcD m)) (some (0, PL R)) (some (0, pcD lo)) (some (0, pcD hi)) none none)) := by
          unfold frMt
          generalize PL ps = P
          generalize PL Sq = Z
          generalize PL L = M
          generalize PL R = RR
          generalize pcD m = pm at d1 d2 ⊢
          generalize pcD lo = pl at d1 ⊢
          generalize pcD hi = ph at d2 ⊢
          simp [d1, d2]
        have s12 : sAsg 12 (mFz (mIx (mLst 0 (mCons 0 (mP (pC (.int 4))) (mCons 0 (mP (pC (.int 2))) (mCons 0 (mP (pC (.int 4))) mNil)))) (mP (pBin dSub (pBin dIx (pVar 11) (pC (.int 0))) (pBin dIx (pVar 10) (pC (.int 0))))))) (frMt c3 ps way x (some (0, I p.1)) (some (0, I p.2)) (some (0, PL L)) (some (0, PL Sq)) (some (0, pcD m)) (some (0, PL R)) (some (0, pcD lo)) (some (0, pcD hi)) none none)
            = some (.nx (frMt c3 ps way x (some (0, I p.1)) (some (0, I p.2)) (some (0, PL L)) (some (0, PL Sq)) (some (0, pcD m)) (some (0, PL R)) (some (0, pcD lo)) (some (0, pcD hi)) (some (0, I st)) none)) := by
          unfold frMt
          generalize PL ps = P
          generalize PL Sq = Z
          generalize PL L = M
          generalize PL R = RR
          simp [hst]
        have s13 : sAsg 13 (mP (pBin dMod (pCall dInt (pCons (pBin dAdd (pBin dIx (pVar 10) (pC (.int 1))) (pBin dMul (pVar 12) (pBin dIx (pVar 11) (pC (.int 1))))) pNil)) (pC (.int 8)))) (frMt c3 ps way x (some (0, I p.1)) (some (0, I p.2)) (some (0, PL L)) (some (0, PL Sq)) (some (0, pcD m)) (some (0, PL R)) (some (0, pcD lo)) (some (0, pcD hi)) (some (0, I st)) none)
            = some (.nx (frMt c3 ps way x (some (0, I p.1)) (some (0, I p.2)) (some (0, PL L)) (some (0, PL Sq)) (some (0, pcD m)) (some (0, PL R)) (some (0, pcD lo)) (some (0, pcD hi)) (some (0, I st)) (some (0, I gr)))) := by
          unfold frMt
          generalize PL ps = P
          generalize PL Sq = Z
          generalize PL L = M
          generalize PL R = RR
          simp [ok1, hgr]
        refine ⟨(R ++ [(lo.1, gr), (hi.1, la)]).mergeSort lePc, c3, ?_, P3_sort (fun r hr => ?_) ?_⟩
        · refine run1_rt (ρ := [some c, some (0, PL ps), none, none, none, none, none, none, none, none, none, none, none, none, none, none]) (ρ' := frMt c3 ps way x (some (0, I p.1)) (some (0, I p.2)) (some (0, PL L)) (some (0, PL Sq)) (some (0, pcD m)) (some (0, PL R)) (some (0, pcD lo)) (some (0, pcD hi)) (some (0, I st)) (some (0, I gr))) rfl ?_ rfl
          unfold m__law_mate
          rw [seq_nx s1, seq_nx (by rw [e_sIf, hcond false (decide_eq_false q)]; rfl), seq_nx s3, seq_nx s4, seq_nx (by rw [e_sIf, hc5 false (decide_eq_false w1)]; rfl), seq_nx s7, seq_nx (by rw [e_sIf, hc8 false (decide_eq_false w2)]; rfl), seq_nx s8, seq_nx s9, seq_nx s10, seq_nx s12, seq_nx s13]
          have hs := sort_pcs (R ++ [(lo.1, gr), (hi.1, la)])
          rw [show PL (R ++ [(lo.1, gr), (hi.1, la)]) = .lst (R.map pcD ++ [.tup [.int lo.1, .int gr], .tup [.int hi.1, .int la]]) by simp] at hs
          have hl2 : (R.map pcD).length ≤ 3 := by rw [List.length_map]; exact hRl
          unfold frMt
          generalize PL ps = P
          generalize PL Sq = Z
          generalize PL L = M
          generalize PL ((R ++ [(lo.1, gr), (hi.1, la)]).mergeSort lePc) = Y at hs ⊢
          show sRet _ [_, _, _, _, _, _, _, _, _, some (0, .lst (R.map pcD)), _, _, _, _, _, _] = some (.rt _ [_, _, _, _, _, _, _, _, _, some (0, .lst (R.map pcD)), _, _, _, _, _, _])
          generalize R.map pcD = T at hs hl2 ⊢
          have h3 : T.length + 1 + 1 ≤ sizeLine := by unfold sizeLine; omega
          simp [ok2, ok3, hla, hs, h3]
        · rcases List.mem_append.mp hr with z | z
          · exact hRs r z
          · simp only [List.mem_cons, List.not_mem_nil, or_false] at z
            rcases z with rfl | rfl
            · exact pcs3_mk lof.1 (odd_kind gr2 grb.1 grb.2)
            · exact pcs3_mk hif.1 (odd_kind la2 lab.1 lab.2)
        · rw [List.map_append, List.sum_append]
          simp only [List.map_cons, List.map_nil, List.sum_cons, List.sum_nil, uk] at hsum hRu ⊢
          omega

/-! ### the law -/
theorem enc_nat : EncOk (fun c : Nat => D.int (c : Int)) (fun c => .int (c : Int)) 0 where
  tp _ := rfl
  lay _ := rfl
  dp _ := Nat.le_refl _
  ev a b := by
    simp only [PyData.eqv]
    by_cases q : a = b
    · subst q; simp
    · have h : ((a : Int) == (b : Int)) = false := by rw [beq_eq_false_iff_ne]; omega
      rw [h, decide_eq_false q]
theorem enc_sym : EncOk (fun x : Sy × Int => symD x.1 x.2) (fun x => .tuple [.list (x.1.1.map fun t => .tuple [.int t.1, .int t.2.1, .bool t.2.2.1, .int t.2.2.2]), .list (x.1.2.map fun t => .tuple [.int t.1, .int t.2]), .int x.2]) 5 where
  tp x := by
    have h1 := enc_tell.list.tp x.1.1
    have h2 := enc_pair.list.tp x.1.2
    show toP (.tup [.lst (x.1.1.map enc4), .lst (x.1.2.map enc2), I x.2]) = _
    have h1' : toP (.lst (x.1.1.map enc4)) = _ := h1
    have h2' : toP (.lst (x.1.2.map enc2)) = _ := h2
    simp only [toP] at h1' h2'
    simp only [toP, toPL, h1', h2']
  lay x := by
    have h1 := enc_tell.list.lay x.1.1
    have h2 := enc_pair.list.lay x.1.2
    simp only [PyData.canLay0, PyData.canLayAll0] at h1 h2 ⊢
    simp [h1, h2]
  dp x := by
    have h1 := enc_tell.dpAll x.1.1
    have h2 := enc_pair.dpAll x.1.2
    simp only [PyData.depth, PyData.depthAll]
    omega
  ev x y := by
    have h1 := enc_tell.evAll x.1.1 y.1.1
    have h2 := enc_pair.evAll x.1.2 y.1.2
    simp only [PyData.eqv, PyData.eqvAll, h1, h2]
    by_cases q1 : x.1.1 = y.1.1 <;> by_cases q2 : x.1.2 = y.1.2 <;> by_cases q3 : x.2 = y.2 <;> simp [q1, q2, q3, Prod.ext_iff]
def smlS (r : Sy) : Bool := decide (r.1.length ≤ 6) && (r.1.all (fun t => decide (t.1.natAbs < 100 ∧ t.2.1.natAbs < 100 ∧ t.2.2.2.natAbs < 100)) && (decide (r.2.length ≤ 6) && r.2.all (fun t => decide (t.1.natAbs < 100 ∧ t.2.natAbs < 100))))
theorem sml_all : (allP.all fun ps => match symP ps with
  | some r => smlS r
  | none => false) = true := by decide +kernel
theorem sml_Rz {r : Sy} (h : smlS r = true) {z : Int} (hz : z.natAbs < 100) : Rz 30 [3, 6, 4] (symD r z) := by
  unfold smlS at h
  simp only [Bool.and_eq_true, decide_eq_true_eq, List.all_eq_true] at h
  obtain ⟨h1, h2, h3, h4⟩ := h
  have hi : ∀ (ms : List Nat) (x : Int), x.natAbs < 100 → Rz 30 ms (.int x) := fun ms x h => by
    have : x.natAbs < 2 ^ 30 := by omega
    cases ms <;> exact this
  have hbl : ∀ (ms : List Nat) (x : Bool), Rz 30 ms (.bl x) := fun ms x => by cases ms <;> trivial
  refine ⟨by simp, fun d hd => ?_⟩
  simp only [List.mem_cons, List.not_mem_nil, or_false] at hd
  rcases hd with rfl | rfl | rfl
  · refine ⟨by rw [List.length_map]; omega, fun d hd => ?_⟩
    obtain ⟨t, ht, rfl⟩ := List.mem_map.mp hd
    have h5 := h2 t ht
    refine ⟨by simp, fun e he => ?_⟩
    simp only [List.mem_cons, List.not_mem_nil, or_false] at he
    rcases he with rfl | rfl | rfl | rfl
    · exact hi _ _ h5.1
    · exact hi _ _ h5.2.1
    · exact hbl _ _
    · exact hi _ _ h5.2.2
  · refine ⟨by rw [List.length_map]; omega, fun d hd => ?_⟩
    obtain ⟨t, ht, rfl⟩ := List.mem_map.mp hd
    have h5 := h4 t ht
    refine ⟨by simp, fun e he => ?_⟩
    simp only [List.mem_cons, List.not_mem_nil, or_false] at he
    rcases he with rfl | rfl
    · exact hi _ _ h5.1
    · exact hi _ _ h5.2
  · exact hi _ _ hz
theorem sym_of {ps : List Pc} (h : P3 ps) : ∃ r, symP ps = some r ∧ symQ ps = some r ∧ unS ps = (ps.map uk).sum ∧ smlS r = true := by
  have h1 := List.all_eq_true.mp sym_all ps h.mem
  have h2 := List.all_eq_true.mp sml_all ps h.mem
  simp only [Bool.and_eq_true, decide_eq_true_eq] at h1
  obtain ⟨e1, e2, e3⟩ := h1
  obtain ⟨r, hr⟩ := Option.isSome_iff_exists.mp e2
  rw [hr] at h2 e1
  exact ⟨r, hr, e1.symm, e3, h2⟩
theorem both_of {ps : List Pc} (h : P3 ps) (n : Int) (h1 : (ps.map uk).sum ≤ n) (h2 : 1 ≤ n) (h3 : n ≤ 3) : ∃ r, symP ps = some r ∧ smlS r = true ∧ unS ps = (ps.map uk).sum ∧ F_symbol_of [PL ps, I n] = some (1, symD r (n - (ps.map uk).sum)) ∧ F__law_symbol [PL ps, I n] = some (1, symD r (n - (ps.map uk).sum)) := by
  obtain ⟨r, e1, e2, e3, e4⟩ := sym_of h
  have a := symbol_of_ok h.good n h1 h2 (by omega) r e1
  rw [e3] at a
  exact ⟨r, e1, e4, e3, a, law_symbol_ok h.good n r e2⟩
theorem uk_nonneg (ps : List Pc) : 0 ≤ (ps.map uk).sum := by have := uk_pos ps; omega
theorem s_const : ∀ a b : List Pc, P3 a → P3 b → (a.map uk).sum ≤ 3 → (b.map uk).sum = (a.map uk).sum → symP a = symP b → ∃ d, F_symbol_of [PL a, I 3] = some (1, d) ∧ F_symbol_of [PL b, I 3] = some (1, d) ∧ dNe d d = some (.bl false) := fun a b ha hb hu hub hs => by
  obtain ⟨r, e1, _, _, e2, _⟩ := both_of ha 3 hu (by decide) (by decide)
  obtain ⟨r', e1', _, _, e2', _⟩ := both_of hb 3 (by omega) (by decide) (by decide)
  have : r' = r := by rw [e1, e1'] at hs; exact (Option.some.inj hs).symm
  subst this
  rw [hub] at e2'
  refine ⟨_, e2, e2', ?_⟩
  have := enc_sym.ne (by decide) (r', 3 - (a.map uk).sum) (r', 3 - (a.map uk).sum)
  rw [decide_eq_true rfl] at this
  exact this

theorem law_holds (ns : List Int) (h : ns.length ≤ 63) : ∃ j, F_law [.lst (ns.map D.int)] = some (j, .bl true) := by
  obtain ⟨g0, eg, hg⟩ := generator_ok ns 0 (by decide)
  obtain ⟨ps, g1, ep, gp, hp1, hp2, hg1⟩ := law_piecesM_ok hg (by omega) [0, 1, 2] (by decide) (by decide) (by decide) 3 (by decide) (by decide)
  have P := P3_good gp (fun p hp => by have := hp1 p hp; simp at this; omega) hp2
  obtain ⟨qs, g2, em, Q⟩ := mate_ok hg1 (by omega) P
  have hup := uk_nonneg ps
  have huq := uk_nonneg qs
  have hp3 := P.un
  have hq3 := Q.un
  have lp : ps.length ≤ 3 := by have := uk_pos ps; omega
  have lq : qs.length ≤ 3 := by have := uk_pos qs; omega
  have unp := law_unknowns_ok ps (by omega)
  have unq := law_unknowns_ok qs (by omega)
  obtain ⟨n, hn⟩ : ∃ n, max (max (ps.map uk).sum (qs.map uk).sum) 1 = n := ⟨_, rfl⟩
  have hn1 : (ps.map uk).sum ≤ n := by omega
  have hn2 : (qs.map uk).sum ≤ n := by omega
  have hn3 : 1 ≤ n := by omega
  have hn4 : n ≤ 3 := by omega
  obtain ⟨rp, sp, zp, up, ap, bp⟩ := both_of P n hn1 hn3 hn4
  obtain ⟨rq, sq, zq, uq, aq, bq⟩ := both_of Q n hn2 hn3 hn4
  have cp := law_counts_ok P (n - (ps.map uk).sum).toNat (by omega)
  have cq := law_counts_ok Q (n - (qs.map uk).sum).toNat (by omega)
  rw [show (ps.map uk).sum + ((n - (ps.map uk).sum).toNat : Int) = n by omega] at cp
  rw [show (qs.map uk).sum + ((n - (qs.map uk).sum).toNat : Int) = n by omega] at cq
  -- the law's last line
  have tell : ((rp, n - (ps.map uk).sum) = (rq, n - (qs.map uk).sum)) ↔ cnt ps (n - (ps.map uk).sum).toNat = cnt qs (n - (qs.map uk).sum).toNat := by
    have h1 := cnt_iff lp lq (t := (n - (ps.map uk).sum).toNat) (t' := (n - (qs.map uk).sum).toNat) (c := (3 - n).toNat) (by omega) (by omega)
    have h2 := keys_tell P.mem Q.mem
    rw [up, uq] at h2
    rw [h1, show (n - (ps.map uk).sum).toNat + (3 - n).toNat = (3 - (ps.map uk).sum).toNat by omega, show (n - (qs.map uk).sum).toNat + (3 - n).toNat = (3 - (qs.map uk).sum).toNat by omega, h2, sp, sq]
    constructor
    · intro e
      injection e with e1 e2
      exact ⟨by rw [e1], by omega⟩
    · rintro ⟨e1, e2⟩
      rw [Option.some.inj e1, e2]
  have esym := enc_sym.eq (by decide) (rp, n - (ps.map uk).sum) (rq, n - (qs.map uk).sum)
  have ecnt := enc_nat.list.eq (by decide) (cnt ps (n - (ps.map uk).sum).toNat) (cnt qs (n - (qs.map uk).sum).toNat)
  have esym' : dEq (symD rp (n - (ps.map uk).sum)) (symD rq (n - (qs.map uk).sum)) = some (.bl (decide (cnt ps (n - (ps.map uk).sum).toNat = cnt qs (n - (qs.map uk).sum).toNat))) := by
    rw [esym]
    congr 2
    exact decide_eq_decide.mpr tell
  have hsame : F__law_same [.lst [symD rp (n - (ps.map uk).sum), symD rq (n - (qs.map uk).sum)], .lst [symD rp (n - (ps.map uk).sum), symD rq (n - (qs.map uk).sum)]] = some (0, .bl true) := same_ok (ms := [2, 3, 6, 4]) (by decide) (by decide) ⟨by simp, fun d hd => by
    simp only [List.mem_cons, List.not_mem_nil, or_false] at hd
    rcases hd with rfl | rfl
    · exact sml_Rz zp (by omega)
    · exact sml_Rz zq (by omega)⟩
  -- the first line
  obtain ⟨d0, k1, k2, k3⟩ := s_const [(0, 2), (1, 3)] [(0, 0), (1, 7)] (P3_good ⟨by decide, by decide, by decide⟩ (by decide) (by decide)) (P3_good ⟨by decide, by decide, by decide⟩ (by decide) (by decide)) (by decide) (by decide) (by decide +kernel)
  obtain ⟨r5, y1, _, _, y2, _⟩ := both_of (ps := [(0, 5)]) (P3_good ⟨by decide, by decide, by decide⟩ (by decide) (by decide)) 1 (by decide) (by decide) (by decide)
  have y3 : r5.2 = [(0, 5)] := by
    have h1 : (symP [(0, 5)]).map (·.2) = some [(0, 5)] := by decide +kernel
    rw [y1] at h1
    exact Option.some.inj h1
  have k1' : F_symbol_of [.lst [.tup [.int 0, .int 2], .tup [.int 1, .int 3]], .int 3] = some (1, d0) := k1
  have k2' : F_symbol_of [.lst [.tup [.int 0, .int 0], .tup [.int 1, .int 7]], .int 3] = some (1, d0) := k2
  have y2' : F_symbol_of [.lst [.tup [.int 0, .int 5]], .int 1] = some (1, .tup [.lst (r5.1.map enc4), .lst [.tup [.int 0, .int 5]], I (1 - ([(0, 5)].map uk).sum)]) := by
    have h1 : F_symbol_of [.lst [.tup [.int 0, .int 5]], .int 1] = some (1, symD r5 (1 - ([(0, 5)].map uk).sum)) := y2
    rw [h1]
    unfold symD
    rw [y3]
    rfl
  have y4 : dNe (.lst [.tup [.int 0, .int 5]]) (.lst [.tup [.int 0, .int 5]]) = some (.bl false) := enc_pair.list.ne (by decide) [(0, 5)] [(0, 5)]
  have s0 : ∀ Z, sIf (mtOr (mtV (mBin dNe (mCall 2 F_symbol_of (mCons 0 (mLst 0 (mCons 0 (mTup 0 (mCons 0 (mP (pC (.int 0))) (mCons 0 (mP (pC (.int 2))) mNil))) (mCons 0 (mTup 0 (mCons 0 (mP (pC (.int 1))) (mCons 0 (mP (pC (.int 3))) mNil))) mNil))) (mCons 0 (mP (pC (.int 3))) mNil))) (mCall 2 F_symbol_of (mCons 0 (mLst 0 (mCons 0 (mTup 0 (mCons 0 (mP (pC (.int 0))) (mCons 0 (mP (pC (.int 0))) mNil))) (mCons 0 (mTup 0 (mCons 0 (mP (pC (.int 1))) (mCons 0 (mP (pC (.int 7))) mNil))) mNil))) (mCons 0 (mP (pC (.int 3))) mNil))))) (mtV (mBin dNe (mIx (mCall 2 F_symbol_of (mCons 0 (mLst 0 (mCons 0 (mTup 0 (mCons 0 (mP (pC (.int 0))) (mCons 0 (mP (pC (.int 5))) mNil))) mNil)) (mCons 0 (mP (pC (.int 1))) mNil))) (mP (pC (.int 1)))) (mLst 0 (mCons 0 (mTup 0 (mCons 0 (mP (pC (.int 0))) (mCons 0 (mP (pC (.int 5))) mNil))) mNil))))) (sRet (mP (pC (.bl false)))) sNx
      [some (0, Z), none, none, none, none, none] = some (.nx [some (0, Z), none, none, none, none, none]) := fun Z => by
    generalize D.lst (r5.1.map enc4) = q5 at y2'
    generalize I (1 - ([(0, 5)].map uk).sum) = q6 at y2'
    simp [k1', k2', k3, y2', y4]
  have eg' : F__law_generator [.lst (ns.map D.int), .int 0] = some g0 := eg
  have ep' : F__law_pieces g0 [.int 3, .lst [.int 0, .int 1, .int 2]] = some ((1, PL ps), g1) := ep
  refine ⟨0, run0_rt (ρ := [some (0, IL ns), none, none, none, none, none]) (ρ' := [some (0, IL ns), some g2, some (0, PL ps), some (0, PL qs), some (0, I n), some (0, .lst [symD rp (n - (ps.map uk).sum), symD rq (n - (qs.map uk).sum)])]) rfl ?_⟩
  unfold m_law
  rw [seq_nx (s0 (IL ns))]
  have eg'' : F__law_generator [IL ns, .int 0] = some g0 := eg
  clear eg eg'
  generalize IL ns = Z at eg'' ⊢
  generalize hA : PL ps = A at *
  generalize hB : PL qs = B at *
  generalize n - (ps.map uk).sum = z1 at *
  generalize n - (qs.map uk).sum = z2 at *
  generalize cnt ps z1.toNat = f1 at *
  generalize cnt qs z2.toNat = f2 at *
  generalize (ps.map uk).sum = w1 at *
  generalize (qs.map uk).sum = w2 at *
  have ecnt' : dEq (NL f1) (NL f2) = some (.bl (decide (f1 = f2))) := ecnt
  generalize NL f1 = N1 at cp ecnt'
  generalize NL f2 = N2 at cq ecnt'
  generalize hD1 : symD rp z1 = D1 at ap bp esym' hsame ⊢
  generalize hD2 : symD rq z2 = D2 at aq bq esym' hsame ⊢
  rw [seq_nx (ρ1 := [some (0, Z), some g0, none, none, none, none]) (by simp [eg''])]
  rw [seq_nx (ρ1 := [some (0, Z), some g1, some (0, A), none, none, none]) (by simp [ep'])]
  rw [seq_nx (ρ1 := [some (0, Z), some g2, some (0, A), some (0, B), none, none]) (by simp [em])]
  rw [seq_nx (ρ1 := [some (0, Z), some g2, some (0, A), some (0, B), some (0, I n), none]) (by simp [unp, unq, hn])]
  rw [seq_nx (ρ1 := [some (0, Z), some g2, some (0, A), some (0, B), some (0, I n), some (0, .lst [D1, D2])]) (by simp [ap, aq])]
  rw [seq_nx (ρ1 := [some (0, Z), some g2, some (0, A), some (0, B), some (0, I n), some (0, .lst [D1, D2])]) (by simp [bp, bq, hsame])]
  have eb : ∀ b, dEq (.bl b) (.bl b) = some (.bl true) := fun b => by
    have := enc_bool.eq (by decide) b b
    rwa [decide_eq_true rfl] at this
  have eb1 := eb true
  have eb2 := eb false
  cases hb : decide (f1 = f2) with
  | true =>
    rw [hb] at esym' ecnt'
    simp [cp, cq, esym', ecnt', eb1, eb2]
  | false =>
    rw [hb] at esym' ecnt'
    simp [cp, cq, esym', ecnt', eb1, eb2]

theorem all_mk {l : PySem.W.OpenLaw} {w : World} {K : PySem.W.Frag} {h : Heap} {mg : Str → Option Value} (X : K.In h) (G : h.Ns mainGlobals mg)
    {f0 : Addr} {od0 an0 : Option Addr} {sl0 : Array (Option Value)} {oc0 kV0 dc0 pm0 cd0 ct0 : Value}
    (a0 : PySem.W.nsIn K mainGlobals "_law_both" = some (some (.ref f0))) (l0 : K.lookup f0 = some ⟨oc0, od0, .func (PySem.W.fnOf "_law_both" "_law_both" (defArgs s__law_both) (defBody s__law_both) (defScope s__law_both) .none kV0 dc0 pm0 an0 cd0 ct0), sl0⟩) (d0 : PySem.W.codeIn K cd0 "_law_both" = true) (e0 : PySem.W.keepIn K (.ref f0) = true)
    {f1 : Addr} {od1 an1 : Option Addr} {sl1 : Array (Option Value)} {oc1 kV1 dc1 pm1 cd1 ct1 : Value}
    (a1 : PySem.W.nsIn K mainGlobals "_law_power" = some (some (.ref f1))) (l1 : K.lookup f1 = some ⟨oc1, od1, .func (PySem.W.fnOf "_law_power" "_law_power" (defArgs s__law_power) (defBody s__law_power) (defScope s__law_power) .none kV1 dc1 pm1 an1 cd1 ct1), sl1⟩) (d1 : PySem.W.codeIn K cd1 "_law_power" = true) (e1 : PySem.W.keepIn K (.ref f1) = true)
    {f2 : Addr} {od2 an2 : Option Addr} {sl2 : Array (Option Value)} {oc2 kV2 dc2 pm2 cd2 ct2 : Value}
    (a2 : PySem.W.nsIn K mainGlobals "_law_counted" = some (some (.ref f2))) (l2 : K.lookup f2 = some ⟨oc2, od2, .func (PySem.W.fnOf "_law_counted" "_law_counted" (defArgs s__law_counted) (defBody s__law_counted) (defScope s__law_counted) .none kV2 dc2 pm2 an2 cd2 ct2), sl2⟩) (d2 : PySem.W.codeIn K cd2 "_law_counted" = true) (e2 : PySem.W.keepIn K (.ref f2) = true)
    {f3 : Addr} {od3 an3 : Option Addr} {sl3 : Array (Option Value)} {oc3 kV3 dc3 pm3 cd3 ct3 : Value}
    (a3 : PySem.W.nsIn K mainGlobals "_law_unknowns" = some (some (.ref f3))) (l3 : K.lookup f3 = some ⟨oc3, od3, .func (PySem.W.fnOf "_law_unknowns" "_law_unknowns" (defArgs s__law_unknowns) (defBody s__law_unknowns) (defScope s__law_unknowns) .none kV3 dc3 pm3 an3 cd3 ct3), sl3⟩) (d3 : PySem.W.codeIn K cd3 "_law_unknowns" = true) (e3 : PySem.W.keepIn K (.ref f3) = true)
    {f4 : Addr} {od4 an4 : Option Addr} {sl4 : Array (Option Value)} {oc4 kV4 dc4 pm4 cd4 ct4 : Value}
    (a4 : PySem.W.nsIn K mainGlobals "_law_counts" = some (some (.ref f4))) (l4 : K.lookup f4 = some ⟨oc4, od4, .func (PySem.W.fnOf "_law_counts" "_law_counts" (defArgs s__law_counts) (defBody s__law_counts) (defScope s__law_counts) .none kV4 dc4 pm4 an4 cd4 ct4), sl4⟩) (d4 : PySem.W.codeIn K cd4 "_law_counts" = true) (e4 : PySem.W.keepIn K (.ref f4) = true)
    {f5 : Addr} {od5 an5 : Option Addr} {sl5 : Array (Option Value)} {oc5 kV5 dc5 pm5 cd5 ct5 : Value}
    (a5 : PySem.W.nsIn K mainGlobals "_law_cell" = some (some (.ref f5))) (l5 : K.lookup f5 = some ⟨oc5, od5, .func (PySem.W.fnOf "_law_cell" "_law_cell" (defArgs s__law_cell) (defBody s__law_cell) (defScope s__law_cell) .none kV5 dc5 pm5 an5 cd5 ct5), sl5⟩) (d5 : PySem.W.codeIn K cd5 "_law_cell" = true) (e5 : PySem.W.keepIn K (.ref f5) = true)
    {f6 : Addr} {od6 an6 : Option Addr} {sl6 : Array (Option Value)} {oc6 kV6 dc6 pm6 cd6 ct6 : Value}
    (a6 : PySem.W.nsIn K mainGlobals "_law_generator" = some (some (.ref f6))) (l6 : K.lookup f6 = some ⟨oc6, od6, .func (PySem.W.fnOf "_law_generator" "_law_generator" (defArgs s__law_generator) (defBody s__law_generator) (defScope s__law_generator) .none kV6 dc6 pm6 an6 cd6 ct6), sl6⟩) (d6 : PySem.W.codeIn K cd6 "_law_generator" = true) (e6 : PySem.W.keepIn K (.ref f6) = true)
    {f7 : Addr} {od7 an7 : Option Addr} {sl7 : Array (Option Value)} {oc7 kV7 dc7 pm7 cd7 ct7 : Value}
    (a7 : PySem.W.nsIn K mainGlobals "_law_hash" = some (some (.ref f7))) (l7 : K.lookup f7 = some ⟨oc7, od7, .func (PySem.W.fnOf "_law_hash" "_law_hash" (defArgs s__law_hash) (defBody s__law_hash) (defScope s__law_hash) .none kV7 dc7 pm7 an7 cd7 ct7), sl7⟩) (d7 : PySem.W.codeIn K cd7 "_law_hash" = true) (e7 : PySem.W.keepIn K (.ref f7) = true)
    {f8 : Addr} {od8 an8 : Option Addr} {sl8 : Array (Option Value)} {oc8 kV8 dc8 pm8 cd8 ct8 : Value}
    (a8 : PySem.W.nsIn K mainGlobals "_law_random" = some (some (.ref f8))) (l8 : K.lookup f8 = some ⟨oc8, od8, .func (PySem.W.fnOf "_law_random" "_law_random" (defArgs s__law_random) (defBody s__law_random) (defScope s__law_random) .none kV8 dc8 pm8 an8 cd8 ct8), sl8⟩) (d8 : PySem.W.codeIn K cd8 "_law_random" = true) (e8 : PySem.W.keepIn K (.ref f8) = true)
    {f9 : Addr} {od9 an9 : Option Addr} {sl9 : Array (Option Value)} {oc9 kV9 dc9 pm9 cd9 ct9 : Value}
    (a9 : PySem.W.nsIn K mainGlobals "_law_size" = some (some (.ref f9))) (l9 : K.lookup f9 = some ⟨oc9, od9, .func (PySem.W.fnOf "_law_size" "_law_size" (defArgs s__law_size) (defBody s__law_size) (defScope s__law_size) .none kV9 dc9 pm9 an9 cd9 ct9), sl9⟩) (d9 : PySem.W.codeIn K cd9 "_law_size" = true) (e9 : PySem.W.keepIn K (.ref f9) = true)
    {f10 : Addr} {od10 an10 : Option Addr} {sl10 : Array (Option Value)} {oc10 kV10 dc10 pm10 cd10 ct10 : Value}
    (a10 : PySem.W.nsIn K mainGlobals "_law_pieces" = some (some (.ref f10))) (l10 : K.lookup f10 = some ⟨oc10, od10, .func (PySem.W.fnOf "_law_pieces" "_law_pieces" (defArgs s__law_pieces) (defBody s__law_pieces) (defScope s__law_pieces) .none kV10 dc10 pm10 an10 cd10 ct10), sl10⟩) (d10 : PySem.W.codeIn K cd10 "_law_pieces" = true) (e10 : PySem.W.keepIn K (.ref f10) = true)
    {f11 : Addr} {od11 an11 : Option Addr} {sl11 : Array (Option Value)} {oc11 kV11 dc11 pm11 cd11 ct11 : Value}
    (a11 : PySem.W.nsIn K mainGlobals "_law_mate" = some (some (.ref f11))) (l11 : K.lookup f11 = some ⟨oc11, od11, .func (PySem.W.fnOf "_law_mate" "_law_mate" (defArgs s__law_mate) (defBody s__law_mate) (defScope s__law_mate) .none kV11 dc11 pm11 an11 cd11 ct11), sl11⟩) (d11 : PySem.W.codeIn K cd11 "_law_mate" = true) (e11 : PySem.W.keepIn K (.ref f11) = true)
    {f12 : Addr} {od12 an12 : Option Addr} {sl12 : Array (Option Value)} {oc12 kV12 dc12 pm12 cd12 ct12 : Value}
    (a12 : PySem.W.nsIn K mainGlobals "_law_same" = some (some (.ref f12))) (l12 : K.lookup f12 = some ⟨oc12, od12, .func (PySem.W.fnOf "_law_same" "_law_same" (defArgs s__law_same) (defBody s__law_same) (defScope s__law_same) .none kV12 dc12 pm12 an12 cd12 ct12), sl12⟩) (d12 : PySem.W.codeIn K cd12 "_law_same" = true) (e12 : PySem.W.keepIn K (.ref f12) = true)
    {f13 : Addr} {od13 an13 : Option Addr} {sl13 : Array (Option Value)} {oc13 kV13 dc13 pm13 cd13 ct13 : Value}
    (a13 : PySem.W.nsIn K mainGlobals "_law_odd" = some (some (.ref f13))) (l13 : K.lookup f13 = some ⟨oc13, od13, .func (PySem.W.fnOf "_law_odd" "_law_odd" (defArgs s__law_odd) (defBody s__law_odd) (defScope s__law_odd) .none kV13 dc13 pm13 an13 cd13 ct13), sl13⟩) (d13 : PySem.W.codeIn K cd13 "_law_odd" = true) (e13 : PySem.W.keepIn K (.ref f13) = true)
    {f14 : Addr} {od14 an14 : Option Addr} {sl14 : Array (Option Value)} {oc14 kV14 dc14 pm14 cd14 ct14 : Value}
    (a14 : PySem.W.nsIn K mainGlobals "_law_scales" = some (some (.ref f14))) (l14 : K.lookup f14 = some ⟨oc14, od14, .func (PySem.W.fnOf "_law_scales" "_law_scales" (defArgs s__law_scales) (defBody s__law_scales) (defScope s__law_scales) .none kV14 dc14 pm14 an14 cd14 ct14), sl14⟩) (d14 : PySem.W.codeIn K cd14 "_law_scales" = true) (e14 : PySem.W.keepIn K (.ref f14) = true)
    {f15 : Addr} {od15 an15 : Option Addr} {sl15 : Array (Option Value)} {oc15 kV15 dc15 pm15 cd15 ct15 : Value}
    (a15 : PySem.W.nsIn K mainGlobals "_law_sign" = some (some (.ref f15))) (l15 : K.lookup f15 = some ⟨oc15, od15, .func (PySem.W.fnOf "_law_sign" "_law_sign" (defArgs s__law_sign) (defBody s__law_sign) (defScope s__law_sign) .none kV15 dc15 pm15 an15 cd15 ct15), sl15⟩) (d15 : PySem.W.codeIn K cd15 "_law_sign" = true) (e15 : PySem.W.keepIn K (.ref f15) = true)
    {f16 : Addr} {od16 an16 : Option Addr} {sl16 : Array (Option Value)} {oc16 kV16 dc16 pm16 cd16 ct16 : Value}
    (a16 : PySem.W.nsIn K mainGlobals "_law_sum" = some (some (.ref f16))) (l16 : K.lookup f16 = some ⟨oc16, od16, .func (PySem.W.fnOf "_law_sum" "_law_sum" (defArgs s__law_sum) (defBody s__law_sum) (defScope s__law_sum) .none kV16 dc16 pm16 an16 cd16 ct16), sl16⟩) (d16 : PySem.W.codeIn K cd16 "_law_sum" = true) (e16 : PySem.W.keepIn K (.ref f16) = true)
    {f17 : Addr} {od17 an17 : Option Addr} {sl17 : Array (Option Value)} {oc17 kV17 dc17 pm17 cd17 ct17 : Value}
    (a17 : PySem.W.nsIn K mainGlobals "_law_symbol" = some (some (.ref f17))) (l17 : K.lookup f17 = some ⟨oc17, od17, .func (PySem.W.fnOf "_law_symbol" "_law_symbol" (defArgs s__law_symbol) (defBody s__law_symbol) (defScope s__law_symbol) .none kV17 dc17 pm17 an17 cd17 ct17), sl17⟩) (d17 : PySem.W.codeIn K cd17 "_law_symbol" = true) (e17 : PySem.W.keepIn K (.ref f17) = true)
    {f18 : Addr} {od18 an18 : Option Addr} {sl18 : Array (Option Value)} {oc18 kV18 dc18 pm18 cd18 ct18 : Value}
    (a18 : PySem.W.nsIn K mainGlobals "is_whole" = some (some (.ref f18))) (l18 : K.lookup f18 = some ⟨oc18, od18, .func (PySem.W.fnOf "is_whole" "is_whole" (defArgs s_is_whole) (defBody s_is_whole) (defScope s_is_whole) .none kV18 dc18 pm18 an18 cd18 ct18), sl18⟩) (d18 : PySem.W.codeIn K cd18 "is_whole" = true) (e18 : PySem.W.keepIn K (.ref f18) = true)
    {f19 : Addr} {od19 an19 : Option Addr} {sl19 : Array (Option Value)} {oc19 kV19 dc19 pm19 cd19 ct19 : Value}
    (a19 : PySem.W.nsIn K mainGlobals "is_between" = some (some (.ref f19))) (l19 : K.lookup f19 = some ⟨oc19, od19, .func (PySem.W.fnOf "is_between" "is_between" (defArgs s_is_between) (defBody s_is_between) (defScope s_is_between) .none kV19 dc19 pm19 an19 cd19 ct19), sl19⟩) (d19 : PySem.W.codeIn K cd19 "is_between" = true) (e19 : PySem.W.keepIn K (.ref f19) = true)
    {f20 : Addr} {od20 an20 : Option Addr} {sl20 : Array (Option Value)} {oc20 kV20 dc20 pm20 cd20 ct20 : Value}
    (a20 : PySem.W.nsIn K mainGlobals "is_piece" = some (some (.ref f20))) (l20 : K.lookup f20 = some ⟨oc20, od20, .func (PySem.W.fnOf "is_piece" "is_piece" (defArgs s_is_piece) (defBody s_is_piece) (defScope s_is_piece) .none kV20 dc20 pm20 an20 cd20 ct20), sl20⟩) (d20 : PySem.W.codeIn K cd20 "is_piece" = true) (e20 : PySem.W.keepIn K (.ref f20) = true)
    {f21 : Addr} {od21 an21 : Option Addr} {sl21 : Array (Option Value)} {oc21 kV21 dc21 pm21 cd21 ct21 : Value}
    (a21 : PySem.W.nsIn K mainGlobals "is_piece_list" = some (some (.ref f21))) (l21 : K.lookup f21 = some ⟨oc21, od21, .func (PySem.W.fnOf "is_piece_list" "is_piece_list" (defArgs s_is_piece_list) (defBody s_is_piece_list) (defScope s_is_piece_list) .none kV21 dc21 pm21 an21 cd21 ct21), sl21⟩) (d21 : PySem.W.codeIn K cd21 "is_piece_list" = true) (e21 : PySem.W.keepIn K (.ref f21) = true)
    {f22 : Addr} {od22 an22 : Option Addr} {sl22 : Array (Option Value)} {oc22 kV22 dc22 pm22 cd22 ct22 : Value}
    (a22 : PySem.W.nsIn K mainGlobals "check_pieces" = some (some (.ref f22))) (l22 : K.lookup f22 = some ⟨oc22, od22, .func (PySem.W.fnOf "check_pieces" "check_pieces" (defArgs s_check_pieces) (defBody s_check_pieces) (defScope s_check_pieces) .none kV22 dc22 pm22 an22 cd22 ct22), sl22⟩) (d22 : PySem.W.codeIn K cd22 "check_pieces" = true) (e22 : PySem.W.keepIn K (.ref f22) = true)
    {f23 : Addr} {od23 an23 : Option Addr} {sl23 : Array (Option Value)} {oc23 kV23 dc23 pm23 cd23 ct23 : Value}
    (a23 : PySem.W.nsIn K mainGlobals "chained" = some (some (.ref f23))) (l23 : K.lookup f23 = some ⟨oc23, od23, .func (PySem.W.fnOf "chained" "chained" (defArgs s_chained) (defBody s_chained) (defScope s_chained) .none kV23 dc23 pm23 an23 cd23 ct23), sl23⟩) (d23 : PySem.W.codeIn K cd23 "chained" = true) (e23 : PySem.W.keepIn K (.ref f23) = true)
    {f24 : Addr} {od24 an24 : Option Addr} {sl24 : Array (Option Value)} {oc24 kV24 dc24 pm24 cd24 ct24 : Value}
    (a24 : PySem.W.nsIn K mainGlobals "step_chains" = some (some (.ref f24))) (l24 : K.lookup f24 = some ⟨oc24, od24, .func (PySem.W.fnOf "step_chains" "step_chains" (defArgs s_step_chains) (defBody s_step_chains) (defScope s_step_chains) .none kV24 dc24 pm24 an24 cd24 ct24), sl24⟩) (d24 : PySem.W.codeIn K cd24 "step_chains" = true) (e24 : PySem.W.keepIn K (.ref f24) = true)
    {f25 : Addr} {od25 an25 : Option Addr} {sl25 : Array (Option Value)} {oc25 kV25 dc25 pm25 cd25 ct25 : Value}
    (a25 : PySem.W.nsIn K mainGlobals "tellings" = some (some (.ref f25))) (l25 : K.lookup f25 = some ⟨oc25, od25, .func (PySem.W.fnOf "tellings" "tellings" (defArgs s_tellings) (defBody s_tellings) (defScope s_tellings) .none kV25 dc25 pm25 an25 cd25 ct25), sl25⟩) (d25 : PySem.W.codeIn K cd25 "tellings" = true) (e25 : PySem.W.keepIn K (.ref f25) = true)
    {f26 : Addr} {od26 an26 : Option Addr} {sl26 : Array (Option Value)} {oc26 kV26 dc26 pm26 cd26 ct26 : Value}
    (a26 : PySem.W.nsIn K mainGlobals "hangs" = some (some (.ref f26))) (l26 : K.lookup f26 = some ⟨oc26, od26, .func (PySem.W.fnOf "hangs" "hangs" (defArgs s_hangs) (defBody s_hangs) (defScope s_hangs) .none kV26 dc26 pm26 an26 cd26 ct26), sl26⟩) (d26 : PySem.W.codeIn K cd26 "hangs" = true) (e26 : PySem.W.keepIn K (.ref f26) = true)
    {f27 : Addr} {od27 an27 : Option Addr} {sl27 : Array (Option Value)} {oc27 kV27 dc27 pm27 cd27 ct27 : Value}
    (a27 : PySem.W.nsIn K mainGlobals "way_starts" = some (some (.ref f27))) (l27 : K.lookup f27 = some ⟨oc27, od27, .func (PySem.W.fnOf "way_starts" "way_starts" (defArgs s_way_starts) (defBody s_way_starts) (defScope s_way_starts) .none kV27 dc27 pm27 an27 cd27 ct27), sl27⟩) (d27 : PySem.W.codeIn K cd27 "way_starts" = true) (e27 : PySem.W.keepIn K (.ref f27) = true)
    {f28 : Addr} {od28 an28 : Option Addr} {sl28 : Array (Option Value)} {oc28 kV28 dc28 pm28 cd28 ct28 : Value}
    (a28 : PySem.W.nsIn K mainGlobals "symbol_made" = some (some (.ref f28))) (l28 : K.lookup f28 = some ⟨oc28, od28, .func (PySem.W.fnOf "symbol_made" "symbol_made" (defArgs s_symbol_made) (defBody s_symbol_made) (defScope s_symbol_made) .none kV28 dc28 pm28 an28 cd28 ct28), sl28⟩) (d28 : PySem.W.codeIn K cd28 "symbol_made" = true) (e28 : PySem.W.keepIn K (.ref f28) = true)
    {f29 : Addr} {od29 an29 : Option Addr} {sl29 : Array (Option Value)} {oc29 kV29 dc29 pm29 cd29 ct29 : Value}
    (a29 : PySem.W.nsIn K mainGlobals "unknowns_in" = some (some (.ref f29))) (l29 : K.lookup f29 = some ⟨oc29, od29, .func (PySem.W.fnOf "unknowns_in" "unknowns_in" (defArgs s_unknowns_in) (defBody s_unknowns_in) (defScope s_unknowns_in) .none kV29 dc29 pm29 an29 cd29 ct29), sl29⟩) (d29 : PySem.W.codeIn K cd29 "unknowns_in" = true) (e29 : PySem.W.keepIn K (.ref f29) = true)
    {f30 : Addr} {od30 an30 : Option Addr} {sl30 : Array (Option Value)} {oc30 kV30 dc30 pm30 cd30 ct30 : Value}
    (a30 : PySem.W.nsIn K mainGlobals "symbol_of" = some (some (.ref f30))) (l30 : K.lookup f30 = some ⟨oc30, od30, .func (PySem.W.fnOf "symbol_of" "symbol_of" (defArgs s_symbol_of) (defBody s_symbol_of) (defScope s_symbol_of) .none kV30 dc30 pm30 an30 cd30 ct30), sl30⟩) (d30 : PySem.W.codeIn K cd30 "symbol_of" = true) (e30 : PySem.W.keepIn K (.ref f30) = true)
    {f31 : Addr} {od31 an31 : Option Addr} {sl31 : Array (Option Value)} {oc31 kV31 dc31 pm31 cd31 ct31 : Value}
    (a31 : PySem.W.nsIn K mainGlobals "law" = some (some (.ref f31))) (l31 : K.lookup f31 = some ⟨oc31, od31, .func (PySem.W.fnOf "law" "law" (defArgs s_law) (defBody s_law) (defScope s_law) .none kV31 dc31 pm31 an31 cd31 ct31), sl31⟩) (d31 : PySem.W.codeIn K cd31 "law" = true) (e31 : PySem.W.keepIn K (.ref f31) = true)
    (z_bool : PySem.W.nsIn K mainGlobals "bool" = some none)
    (z_enumerate : PySem.W.nsIn K mainGlobals "enumerate" = some none)
    (z_int : PySem.W.nsIn K mainGlobals "int" = some none)
    (z_isinstance : PySem.W.nsIn K mainGlobals "isinstance" = some none)
    (z_len : PySem.W.nsIn K mainGlobals "len" = some none)
    (z_list : PySem.W.nsIn K mainGlobals "list" = some none)
    (z_max : PySem.W.nsIn K mainGlobals "max" = some none)
    (z_min : PySem.W.nsIn K mainGlobals "min" = some none)
    (z_range : PySem.W.nsIn K mainGlobals "range" = some none)
    (z_repr : PySem.W.nsIn K mainGlobals "repr" = some none)
    (z_set : PySem.W.nsIn K mainGlobals "set" = some none)
    (z_sorted : PySem.W.nsIn K mainGlobals "sorted" = some none)
    (z_sum : PySem.W.nsIn K mainGlobals "sum" = some none)
    (z_tuple : PySem.W.nsIn K mainGlobals "tuple" = some none)
    (z_zip : PySem.W.nsIn K mainGlobals "zip" = some none)
    {p_c_KINDS : Addr} {n_c_KINDS : Nat} {t_c_KINDS_0 t_c_KINDS_1 t_c_KINDS_2 t_c_KINDS_3 t_c_KINDS_4 t_c_KINDS_5 : Tok} (c_KINDS : PySem.W.nsIn K mainGlobals "KINDS" = some (some (.ref p_c_KINDS))) (o_c_KINDS : K.lookup p_c_KINDS = some { cls := .type "list", data := .seq #[.int 0 t_c_KINDS_0, .int 1 t_c_KINDS_1, .int 2 t_c_KINDS_2, .int 3 t_c_KINDS_3, .int 5 t_c_KINDS_4, .int 7 t_c_KINDS_5] n_c_KINDS })
    {p_c_MINUS : Addr} {n_c_MINUS : Nat} {t_c_MINUS_0 t_c_MINUS_1 t_c_MINUS_2 : Tok} (c_MINUS : PySem.W.nsIn K mainGlobals "MINUS" = some (some (.ref p_c_MINUS))) (o_c_MINUS : K.lookup p_c_MINUS = some { cls := .type "tuple", data := .seq #[.int 2 t_c_MINUS_0, .int 3 t_c_MINUS_1, .int 5 t_c_MINUS_2] n_c_MINUS })
    {t_c_MOST : Tok} (c_MOST : PySem.W.nsIn K mainGlobals "MOST" = some (some (.int 6 t_c_MOST)))
    {t_c_MOST_UNKNOWNS : Tok} (c_MOST_UNKNOWNS : PySem.W.nsIn K mainGlobals "MOST_UNKNOWNS" = some (some (.int 6 t_c_MOST_UNKNOWNS))) :
    FnAt l.prog w K mg h 7 "law" 1 (sp0 K mg 1 F_law) := by
  have z_bool := PySem.W.mg_none_of X G z_bool
  have z_enumerate := PySem.W.mg_none_of X G z_enumerate
  have z_int := PySem.W.mg_none_of X G z_int
  have z_isinstance := PySem.W.mg_none_of X G z_isinstance
  have z_len := PySem.W.mg_none_of X G z_len
  have z_list := PySem.W.mg_none_of X G z_list
  have z_max := PySem.W.mg_none_of X G z_max
  have z_min := PySem.W.mg_none_of X G z_min
  have z_range := PySem.W.mg_none_of X G z_range
  have z_repr := PySem.W.mg_none_of X G z_repr
  have z_set := PySem.W.mg_none_of X G z_set
  have z_sorted := PySem.W.mg_none_of X G z_sorted
  have z_sum := PySem.W.mg_none_of X G z_sum
  have z_tuple := PySem.W.mg_none_of X G z_tuple
  have z_zip := PySem.W.mg_none_of X G z_zip
  have c_KINDS : ∃ a, mg "KINDS" = some (.ref a) ∧ ∀ W, Rep K mg W (.lst [(.int 0), (.int 1), (.int 2), (.int 3), (.int 5), (.int 7)]) (.ref a) := ⟨p_c_KINDS, PySem.W.mg_of X G c_KINDS, fun W => cst_lst o_c_KINDS⟩
  have c_MINUS : ∃ a, mg "MINUS" = some (.ref a) ∧ ∀ W, Rep K mg W (.tup [(.int 2), (.int 3), (.int 5)]) (.ref a) := ⟨p_c_MINUS, PySem.W.mg_of X G c_MINUS, fun W => cst_tup o_c_MINUS⟩
  have c_MOST := cst_int X G c_MOST
  have c_MOST_UNKNOWNS := cst_int X G c_MOST_UNKNOWNS
  have m0 := PySem.W.mg_of X G a0
  have U0 := fun_mk (st := s__law_both) l0 d0 e0
  have g0 := fnG_of0 U0 sc__law_both rfl (b__law_both (P := l.prog) (w := w) (K := K) (mg := mg) (base := h) (fa := f0) z_enumerate z_int)
  have h__law_both : FnAt l.prog w K mg h 1 "_law_both" 2 (sp0 K mg 2 F__law_both) := g0.at U0 m0 rfl (U0.binds (ps := ["_law_one", "_law_other"]) fun _ _ _ _ _ _ us hl => match us, hl with | [_, _], _ => rfl)
  have m1 := PySem.W.mg_of X G a1
  have U1 := fun_mk (st := s__law_power) l1 d1 e1
  have g1 := fnG_of0 U1 sc__law_power rfl (b__law_power (P := l.prog) (w := w) (K := K) (mg := mg) (base := h) (fa := f1) z_range)
  have h__law_power : FnAt l.prog w K mg h 1 "_law_power" 1 (sp0 K mg 1 F__law_power) := g1.at U1 m1 rfl (U1.binds (ps := ["_law_many"]) fun _ _ _ _ _ _ us hl => match us, hl with | [_], _ => rfl)
  have m2 := PySem.W.mg_of X G a2
  have U2 := fun_mk (st := s__law_counted) l2 d2 e2
  have g2 := fnG_of0 U2 sc__law_counted rfl (b__law_counted (P := l.prog) (w := w) (K := K) (mg := mg) (base := h) (fa := f2) (h__law_power.mono (by decide)) z_int z_range)
  have h__law_counted : FnAt l.prog w K mg h 2 "_law_counted" 2 (sp0 K mg 2 F__law_counted) := g2.at U2 m2 rfl (U2.binds (ps := ["_law_scale", "_law_kind"]) fun _ _ _ _ _ _ us hl => match us, hl with | [_, _], _ => rfl)
  have m3 := PySem.W.mg_of X G a3
  have U3 := fun_mk (st := s__law_unknowns) l3 d3 e3
  have g3 := fnG_of0 U3 sc__law_unknowns rfl (b__law_unknowns (P := l.prog) (w := w) (K := K) (mg := mg) (base := h) (fa := f3) z_int z_sum)
  have h__law_unknowns : FnAt l.prog w K mg h 1 "_law_unknowns" 1 (sp0 K mg 1 F__law_unknowns) := g3.at U3 m3 rfl (U3.binds (ps := ["_law_pieces_here"]) fun _ _ _ _ _ _ us hl => match us, hl with | [_], _ => rfl)
  have m4 := PySem.W.mg_of X G a4
  have U4 := fun_mk (st := s__law_counts) l4 d4 e4
  have g4 := fnG_of0 U4 sc__law_counts rfl (b__law_counts (P := l.prog) (w := w) (K := K) (mg := mg) (base := h) (fa := f4) (h__law_both.mono (by decide)) (h__law_counted.mono (by decide)) (h__law_unknowns.mono (by decide)) z_range)
  have h__law_counts : FnAt l.prog w K mg h 3 "_law_counts" 2 (sp0 K mg 2 F__law_counts) := g4.at U4 m4 rfl (U4.binds (ps := ["_law_pieces_here", "_law_size_here"]) fun _ _ _ _ _ _ us hl => match us, hl with | [_, _], _ => rfl)
  have m5 := PySem.W.mg_of X G a5
  have U5 := fun_mk (st := s__law_cell) l5 d5 e5
  have g5 := fnG_of0 U5 sc__law_cell rfl (b__law_cell (P := l.prog) (w := w) (K := K) (mg := mg) (base := h) (fa := f5) z_len z_sum)
  have h__law_cell : FnAt l.prog w K mg h 1 "_law_cell" 2 (sp0 K mg 2 F__law_cell) := g5.at U5 m5 rfl (U5.binds (ps := ["_law_script", "_law_index"]) fun _ _ _ _ _ _ us hl => match us, hl with | [_, _], _ => rfl)
  have m6 := PySem.W.mg_of X G a6
  have U6 := fun_mk (st := s__law_generator) l6 d6 e6
  have g6 := fnG_of0 U6 sc__law_generator rfl (b__law_generator (P := l.prog) (w := w) (K := K) (mg := mg) (base := h) (fa := f6) (h__law_cell.mono (by decide)) z_int z_max)
  have h__law_generator : FnAt l.prog w K mg h 2 "_law_generator" 2 (sp0 K mg 2 F__law_generator) := g6.at U6 m6 rfl (U6.binds (ps := ["_law_script", "_law_index"]) fun _ _ _ _ _ _ us hl => match us, hl with | [_, _], _ => rfl)
  have m7 := PySem.W.mg_of X G a7
  have U7 := fun_mk (st := s__law_hash) l7 d7 e7
  have g7 := fnG_of0 U7 sc__law_hash rfl (b__law_hash (P := l.prog) (w := w) (K := K) (mg := mg) (base := h) (fa := f7) z_int)
  have h__law_hash : FnAt l.prog w K mg h 1 "_law_hash" 2 (sp0 K mg 2 F__law_hash) := g7.at U7 m7 rfl (U7.binds (ps := ["_law_seed", "_law_index"]) fun _ _ _ _ _ _ us hl => match us, hl with | [_, _], _ => rfl)
  have m8 := PySem.W.mg_of X G a8
  have U8 := fun_mk (st := s__law_random) l8 d8 e8
  have g8 := fnG_of1 U8 sc__law_random rfl (b__law_random (P := l.prog) (w := w) (K := K) (mg := mg) (base := h) (fa := f8) (h__law_hash.mono (by decide)) z_int z_range)
  have h__law_random : FnAt l.prog w K mg h 2 "_law_random" 2 (sp1 K mg 2 F__law_random) := g8.at U8 m8 rfl (U8.binds (ps := ["_law_generator_here", "_law_bound"]) fun _ _ _ _ _ _ us hl => match us, hl with | [_, _], _ => rfl)
  have m9 := PySem.W.mg_of X G a9
  have U9 := fun_mk (st := s__law_size) l9 d9 e9
  have g9 := fnG_of1 U9 sc__law_size rfl (b__law_size (P := l.prog) (w := w) (K := K) (mg := mg) (base := h) (fa := f9) (h__law_random.mono (by decide)))
  have h__law_size : FnAt l.prog w K mg h 3 "_law_size" 3 (sp1 K mg 3 F__law_size) := g9.at U9 m9 rfl (U9.binds (ps := ["_law_generator_here", "_law_least", "_law_most"]) fun _ _ _ _ _ _ us hl => match us, hl with | [_, _, _], _ => rfl)
  have m10 := PySem.W.mg_of X G a10
  have U10 := fun_mk (st := s__law_pieces) l10 d10 e10
  have g10 := fnG_of1 U10 sc__law_pieces rfl (b__law_pieces (P := l.prog) (w := w) (K := K) (mg := mg) (base := h) (fa := f10) (h__law_random.mono (by decide)) (h__law_size.mono (by decide)) z_int z_len z_range z_sorted)
  have h__law_pieces : FnAt l.prog w K mg h 4 "_law_pieces" 3 (sp1 K mg 3 F__law_pieces) := g10.at U10 m10 rfl (U10.binds (ps := ["_law_generator_here", "_law_most", "_law_scales_here"]) fun _ _ _ _ _ _ us hl => match us, hl with | [_, _, _], _ => rfl)
  have m11 := PySem.W.mg_of X G a11
  have U11 := fun_mk (st := s__law_mate) l11 d11 e11
  have g11 := fnG_of1 U11 sc__law_mate rfl (b__law_mate (P := l.prog) (w := w) (K := K) (mg := mg) (base := h) (fa := f11) (h__law_pieces.mono (by decide)) (h__law_random.mono (by decide)) z_enumerate z_int z_len z_max z_min z_sorted)
  have h__law_mate : FnAt l.prog w K mg h 5 "_law_mate" 2 (sp1 K mg 2 F__law_mate) := g11.at U11 m11 rfl (U11.binds (ps := ["_law_generator_here", "_law_pieces_here"]) fun _ _ _ _ _ _ us hl => match us, hl with | [_, _], _ => rfl)
  have m12 := PySem.W.mg_of X G a12
  have U12 := fun_mk (st := s__law_same) l12 d12 e12
  have g12 := fnG_of0 U12 sc__law_same rfl (b__law_same (P := l.prog) (w := w) (K := K) (mg := mg) (base := h) (fa := f12) z_repr)
  have h__law_same : FnAt l.prog w K mg h 1 "_law_same" 2 (sp0 K mg 2 F__law_same) := g12.at U12 m12 rfl (U12.binds (ps := ["_law_one_told", "_law_other_told"]) fun _ _ _ _ _ _ us hl => match us, hl with | [_, _], _ => rfl)
  have m13 := PySem.W.mg_of X G a13
  have U13 := fun_mk (st := s__law_odd) l13 d13 e13
  have g13 := fnG_of0 U13 sc__law_odd rfl (b__law_odd (P := l.prog) (w := w) (K := K) (mg := mg) (base := h) (fa := f13) z_int)
  have h__law_odd : FnAt l.prog w K mg h 1 "_law_odd" 2 (sp0 K mg 2 F__law_odd) := g13.at U13 m13 rfl (U13.binds (ps := ["_law_pieces_here", "_law_scale"]) fun _ _ _ _ _ _ us hl => match us, hl with | [_, _], _ => rfl)
  have m14 := PySem.W.mg_of X G a14
  have U14 := fun_mk (st := s__law_scales) l14 d14 e14
  have g14 := fnG_of0 U14 sc__law_scales rfl (b__law_scales (P := l.prog) (w := w) (K := K) (mg := mg) (base := h) (fa := f14) z_set z_sorted)
  have h__law_scales : FnAt l.prog w K mg h 1 "_law_scales" 1 (sp0 K mg 1 F__law_scales) := g14.at U14 m14 rfl (U14.binds (ps := ["_law_pieces_here"]) fun _ _ _ _ _ _ us hl => match us, hl with | [_], _ => rfl)
  have m15 := PySem.W.mg_of X G a15
  have U15 := fun_mk (st := s__law_sign) l15 d15 e15
  have g15 := fnG_of0 U15 sc__law_sign rfl (b__law_sign (P := l.prog) (w := w) (K := K) (mg := mg) (base := h) (fa := f15) )
  have h__law_sign : FnAt l.prog w K mg h 1 "_law_sign" 2 (sp0 K mg 2 F__law_sign) := g15.at U15 m15 rfl (U15.binds (ps := ["_law_pieces_here", "_law_scale"]) fun _ _ _ _ _ _ us hl => match us, hl with | [_, _], _ => rfl)
  have m16 := PySem.W.mg_of X G a16
  have U16 := fun_mk (st := s__law_sum) l16 d16 e16
  have g16 := fnG_of0 U16 sc__law_sum rfl (b__law_sum (P := l.prog) (w := w) (K := K) (mg := mg) (base := h) (fa := f16) z_int z_sum)
  have h__law_sum : FnAt l.prog w K mg h 1 "_law_sum" 2 (sp0 K mg 2 F__law_sum) := g16.at U16 m16 rfl (U16.binds (ps := ["_law_pieces_here", "_law_scale"]) fun _ _ _ _ _ _ us hl => match us, hl with | [_, _], _ => rfl)
  have m17 := PySem.W.mg_of X G a17
  have U17 := fun_mk (st := s__law_symbol) l17 d17 e17
  have g17 := fnG_of0 U17 sc__law_symbol rfl (b__law_symbol (P := l.prog) (w := w) (K := K) (mg := mg) (base := h) (fa := f17) (h__law_odd.mono (by decide)) (h__law_scales.mono (by decide)) (h__law_sign.mono (by decide)) (h__law_sum.mono (by decide)) (h__law_unknowns.mono (by decide)) z_enumerate z_int z_len z_min z_range)
  have h__law_symbol : FnAt l.prog w K mg h 2 "_law_symbol" 2 (sp0 K mg 2 F__law_symbol) := g17.at U17 m17 rfl (U17.binds (ps := ["_law_pieces_here", "_law_size_here"]) fun _ _ _ _ _ _ us hl => match us, hl with | [_, _], _ => rfl)
  have m18 := PySem.W.mg_of X G a18
  have U18 := fun_mk (st := s_is_whole) l18 d18 e18
  have g18 := fnG_of0 U18 sc_is_whole rfl (b_is_whole (P := l.prog) (w := w) (K := K) (mg := mg) (base := h) (fa := f18) z_bool z_int z_isinstance)
  have h_is_whole : FnAt l.prog w K mg h 1 "is_whole" 1 (sp0 K mg 1 F_is_whole) := g18.at U18 m18 rfl (U18.binds (ps := ["value"]) fun _ _ _ _ _ _ us hl => match us, hl with | [_], _ => rfl)
  have m19 := PySem.W.mg_of X G a19
  have U19 := fun_mk (st := s_is_between) l19 d19 e19
  have g19 := fnG_of0 U19 sc_is_between rfl (b_is_between (P := l.prog) (w := w) (K := K) (mg := mg) (base := h) (fa := f19) (h_is_whole.mono (by decide)))
  have h_is_between : FnAt l.prog w K mg h 2 "is_between" 3 (sp0 K mg 3 F_is_between) := g19.at U19 m19 rfl (U19.binds (ps := ["value", "low", "high"]) fun _ _ _ _ _ _ us hl => match us, hl with | [_, _, _], _ => rfl)
  have m20 := PySem.W.mg_of X G a20
  have U20 := fun_mk (st := s_is_piece) l20 d20 e20
  have g20 := fnG_of0 U20 sc_is_piece rfl (b_is_piece (P := l.prog) (w := w) (K := K) (mg := mg) (base := h) (fa := f20) c_KINDS (h_is_between.mono (by decide)) (h_is_whole.mono (by decide)) z_isinstance z_len z_tuple)
  have h_is_piece : FnAt l.prog w K mg h 3 "is_piece" 1 (sp0 K mg 1 F_is_piece) := g20.at U20 m20 rfl (U20.binds (ps := ["value"]) fun _ _ _ _ _ _ us hl => match us, hl with | [_], _ => rfl)
  have m21 := PySem.W.mg_of X G a21
  have U21 := fun_mk (st := s_is_piece_list) l21 d21 e21
  have g21 := fnG_of0 U21 sc_is_piece_list rfl (b_is_piece_list (P := l.prog) (w := w) (K := K) (mg := mg) (base := h) (fa := f21) c_MOST_UNKNOWNS (h_is_piece.mono (by decide)) z_isinstance z_list z_sorted z_sum)
  have h_is_piece_list : FnAt l.prog w K mg h 4 "is_piece_list" 1 (sp0 K mg 1 F_is_piece_list) := g21.at U21 m21 rfl (U21.binds (ps := ["value"]) fun _ _ _ _ _ _ us hl => match us, hl with | [_], _ => rfl)
  have m22 := PySem.W.mg_of X G a22
  have U22 := fun_mk (st := s_check_pieces) l22 d22 e22
  have g22 := fnG_of0 U22 sc_check_pieces rfl (b_check_pieces (P := l.prog) (w := w) (K := K) (mg := mg) (base := h) (fa := f22) (h_is_piece_list.mono (by decide)))
  have h_check_pieces : FnAt l.prog w K mg h 5 "check_pieces" 1 (sp0 K mg 1 F_check_pieces) := g22.at U22 m22 rfl (U22.binds (ps := ["pieces"]) fun _ _ _ _ _ _ us hl => match us, hl with | [_], _ => rfl)
  have m23 := PySem.W.mg_of X G a23
  have U23 := fun_mk (st := s_chained) l23 d23 e23
  have g23 := fnG_of0 U23 sc_chained rfl (b_chained (P := l.prog) (w := w) (K := K) (mg := mg) (base := h) (fa := f23) z_enumerate z_len)
  have h_chained : FnAt l.prog w K mg h 1 "chained" 2 (sp0 K mg 2 F_chained) := g23.at U23 m23 rfl (U23.binds (ps := ["scales", "told"]) fun _ _ _ _ _ _ us hl => match us, hl with | [_, _], _ => rfl)
  have m24 := PySem.W.mg_of X G a24
  have U24 := fun_mk (st := s_step_chains) l24 d24 e24
  have g24 := fnG_of0 U24 sc_step_chains rfl (b_step_chains (P := l.prog) (w := w) (K := K) (mg := mg) (base := h) (fa := f24) )
  have h_step_chains : FnAt l.prog w K mg h 1 "step_chains" 4 (sp0 K mg 4 F_step_chains) := g24.at U24 m24 rfl (U24.binds (ps := ["scales", "told", "numbers", "at"]) fun _ _ _ _ _ _ us hl => match us, hl with | [_, _, _, _], _ => rfl)
  have m25 := PySem.W.mg_of X G a25
  have U25 := fun_mk (st := s_tellings) l25 d25 e25
  have g25 := fnG_of0 U25 sc_tellings rfl (b_tellings (P := l.prog) (w := w) (K := K) (mg := mg) (base := h) (fa := f25) c_MINUS z_len z_set z_sorted z_sum)
  have h_tellings : FnAt l.prog w K mg h 1 "tellings" 1 (sp0 K mg 1 F_tellings) := g25.at U25 m25 rfl (U25.binds (ps := ["pieces"]) fun _ _ _ _ _ _ us hl => match us, hl with | [_], _ => rfl)
  have m26 := PySem.W.mg_of X G a26
  have U26 := fun_mk (st := s_hangs) l26 d26 e26
  have g26 := fnG_of0 U26 sc_hangs rfl (b_hangs (P := l.prog) (w := w) (K := K) (mg := mg) (base := h) (fa := f26) )
  have h_hangs : FnAt l.prog w K mg h 1 "hangs" 3 (sp0 K mg 3 F_hangs) := g26.at U26 m26 rfl (U26.binds (ps := ["scales", "told", "at"]) fun _ _ _ _ _ _ us hl => match us, hl with | [_, _, _], _ => rfl)
  have m27 := PySem.W.mg_of X G a27
  have U27 := fun_mk (st := s_way_starts) l27 d27 e27
  have g27 := fnG_of0 U27 sc_way_starts rfl (b_way_starts (P := l.prog) (w := w) (K := K) (mg := mg) (base := h) (fa := f27) (h_hangs.mono (by decide)) z_len z_range)
  have h_way_starts : FnAt l.prog w K mg h 2 "way_starts" 2 (sp0 K mg 2 F_way_starts) := g27.at U27 m27 rfl (U27.binds (ps := ["scales", "told"]) fun _ _ _ _ _ _ us hl => match us, hl with | [_, _], _ => rfl)
  have m28 := PySem.W.mg_of X G a28
  have U28 := fun_mk (st := s_symbol_made) l28 d28 e28
  have g28 := fnG_of0 U28 sc_symbol_made rfl (b_symbol_made (P := l.prog) (w := w) (K := K) (mg := mg) (base := h) (fa := f28) (h_chained.mono (by decide)) (h_step_chains.mono (by decide)) (h_tellings.mono (by decide)) (h_way_starts.mono (by decide)) z_enumerate z_len z_range z_sum z_zip)
  have h_symbol_made : FnAt l.prog w K mg h 3 "symbol_made" 2 (sp0 K mg 2 F_symbol_made) := g28.at U28 m28 rfl (U28.binds (ps := ["pieces", "size"]) fun _ _ _ _ _ _ us hl => match us, hl with | [_, _], _ => rfl)
  have m29 := PySem.W.mg_of X G a29
  have U29 := fun_mk (st := s_unknowns_in) l29 d29 e29
  have g29 := fnG_of0 U29 sc_unknowns_in rfl (b_unknowns_in (P := l.prog) (w := w) (K := K) (mg := mg) (base := h) (fa := f29) z_sum)
  have h_unknowns_in : FnAt l.prog w K mg h 1 "unknowns_in" 1 (sp0 K mg 1 F_unknowns_in) := g29.at U29 m29 rfl (U29.binds (ps := ["pieces"]) fun _ _ _ _ _ _ us hl => match us, hl with | [_], _ => rfl)
  have m30 := PySem.W.mg_of X G a30
  have U30 := fun_mk (st := s_symbol_of) l30 d30 e30
  have g30 := fnG_of0 U30 sc_symbol_of rfl (b_symbol_of (P := l.prog) (w := w) (K := K) (mg := mg) (base := h) (fa := f30) c_MOST (h_check_pieces.mono (by decide)) (h_is_between.mono (by decide)) (h_symbol_made.mono (by decide)) (h_unknowns_in.mono (by decide)) z_max)
  have h_symbol_of : FnAt l.prog w K mg h 6 "symbol_of" 2 (sp0 K mg 2 F_symbol_of) := g30.at U30 m30 rfl (U30.binds (ps := ["pieces", "size"]) fun _ _ _ _ _ _ us hl => match us, hl with | [_, _], _ => rfl)
  have m31 := PySem.W.mg_of X G a31
  have U31 := fun_mk (st := s_law) l31 d31 e31
  have g31 := fnG_of0 U31 sc_law rfl (b_law (P := l.prog) (w := w) (K := K) (mg := mg) (base := h) (fa := f31) (h__law_counts.mono (by decide)) (h__law_generator.mono (by decide)) (h__law_mate.mono (by decide)) (h__law_pieces.mono (by decide)) (h__law_same.mono (by decide)) (h__law_symbol.mono (by decide)) (h__law_unknowns.mono (by decide)) (h_symbol_of.mono (by decide)) z_max)
  have h_law : FnAt l.prog w K mg h 7 "law" 1 (sp0 K mg 1 F_law) := g31.at U31 m31 rfl (U31.binds (ps := ["_law_script"]) fun _ _ _ _ _ _ us hl => match us, hl with | [_], _ => rfl)
  exact h_law
end Mn
open PySem PySem.W PyProof.Rows
set_option maxHeartbeats 0 in
theorem PySem.Challenge.cw_wordsquares_k14_whole_symbols_and_counts_holds : PySem.Challenge.rw_wordsquares_k14_whole_symbols_and_counts.Holds := by
  w_on; o_law; k_head; (case hw => w_witness2)
  k_fill
  refine Mn.walk_ofM (l := PySem.Challenge.rw_wordsquares_k14_whole_symbols_and_counts) (n := 63) (k := 7) (Fl := Mn.F_law) rfl (by decide) rfl (Mn.room_caller (by decide)) Mn.guards_caller (fun w h Y => PySem.W.kIn_of Y) ?F Mn.law_holds
  case F =>
    intro w mg base KX G
    refine' Mn.all_mk KX G ?a0 ?l0 ?d0 ?e0 ?a1 ?l1 ?d1 ?e1 ?a2 ?l2 ?d2 ?e2 ?a3 ?l3 ?d3 ?e3 ?a4 ?l4 ?d4 ?e4 ?a5 ?l5 ?d5 ?e5 ?a6 ?l6 ?d6 ?e6 ?a7 ?l7 ?d7 ?e7 ?a8 ?l8 ?d8 ?e8 ?a9 ?l9 ?d9 ?e9 ?a10 ?l10 ?d10 ?e10 ?a11 ?l11 ?d11 ?e11 ?a12 ?l12 ?d12 ?e12 ?a13 ?l13 ?d13 ?e13 ?a14 ?l14 ?d14 ?e14 ?a15 ?l15 ?d15 ?e15 ?a16 ?l16 ?d16 ?e16 ?a17 ?l17 ?d17 ?e17 ?a18 ?l18 ?d18 ?e18 ?a19 ?l19 ?d19 ?e19 ?a20 ?l20 ?d20 ?e20 ?a21 ?l21 ?d21 ?e21 ?a22 ?l22 ?d22 ?e22 ?a23 ?l23 ?d23 ?e23 ?a24 ?l24 ?d24 ?e24 ?a25 ?l25 ?d25 ?e25 ?a26 ?l26 ?d26 ?e26 ?a27 ?l27 ?d27 ?e27 ?a28 ?l28 ?d28 ?e28 ?a29 ?l29 ?d29 ?e29 ?a30 ?l30 ?d30 ?e30 ?a31 ?l31 ?d31 ?e31 ?z_bool ?z_enumerate ?z_int ?z_isinstance ?z_len ?z_list ?z_max ?z_min ?z_range ?z_repr ?z_set ?z_sorted ?z_sum ?z_tuple ?z_zip ?c_KINDS ?o_c_KINDS ?c_MINUS ?o_c_MINUS ?c_MOST ?c_MOST_UNKNOWNS
    (case a0 => k_is); (case l0 => k_is); (case d0 => k_is); (case e0 => k_is); (case a1 => k_is); (case l1 => k_is); (case d1 => k_is); (case e1 => k_is); (case a2 => k_is); (case l2 => k_is); (case d2 => k_is); (case e2 => k_is); (case a3 => k_is); (case l3 => k_is); (case d3 => k_is); (case e3 => k_is); (case a4 => k_is); (case l4 => k_is); (case d4 => k_is); (case e4 => k_is); (case a5 => k_is); (case l5 => k_is); (case d5 => k_is); (case e5 => k_is); (case a6 => k_is); (case l6 => k_is); (case d6 => k_is); (case e6 => k_is); (case a7 => k_is); (case l7 => k_is); (case d7 => k_is); (case e7 => k_is); (case a8 => k_is); (case l8 => k_is); (case d8 => k_is); (case e8 => k_is); (case a9 => k_is); (case l9 => k_is); (case d9 => k_is); (case e9 => k_is); (case a10 => k_is); (case l10 => k_is); (case d10 => k_is); (case e10 => k_is); (case a11 => k_is); (case l11 => k_is); (case d11 => k_is); (case e11 => k_is); (case a12 => k_is); (case l12 => k_is); (case d12 => k_is); (case e12 => k_is); (case a13 => k_is); (case l13 => k_is); (case d13 => k_is); (case e13 => k_is); (case a14 => k_is); (case l14 => k_is); (case d14 => k_is); (case e14 => k_is); (case a15 => k_is); (case l15 => k_is); (case d15 => k_is); (case e15 => k_is); (case a16 => k_is); (case l16 => k_is); (case d16 => k_is); (case e16 => k_is); (case a17 => k_is); (case l17 => k_is); (case d17 => k_is); (case e17 => k_is); (case a18 => k_is); (case l18 => k_is); (case d18 => k_is); (case e18 => k_is); (case a19 => k_is); (case l19 => k_is); (case d19 => k_is); (case e19 => k_is); (case a20 => k_is); (case l20 => k_is); (case d20 => k_is); (case e20 => k_is); (case a21 => k_is); (case l21 => k_is); (case d21 => k_is); (case e21 => k_is); (case a22 => k_is); (case l22 => k_is); (case d22 => k_is); (case e22 => k_is); (case a23 => k_is); (case l23 => k_is); (case d23 => k_is); (case e23 => k_is); (case a24 => k_is); (case l24 => k_is); (case d24 => k_is); (case e24 => k_is); (case a25 => k_is); (case l25 => k_is); (case d25 => k_is); (case e25 => k_is); (case a26 => k_is); (case l26 => k_is); (case d26 => k_is); (case e26 => k_is); (case a27 => k_is); (case l27 => k_is); (case d27 => k_is); (case e27 => k_is); (case a28 => k_is); (case l28 => k_is); (case d28 => k_is); (case e28 => k_is); (case a29 => k_is); (case l29 => k_is); (case d29 => k_is); (case e29 => k_is); (case a30 => k_is); (case l30 => k_is); (case d30 => k_is); (case e30 => k_is); (case a31 => k_is); (case l31 => k_is); (case d31 => k_is); (case e31 => k_is); (case z_bool => k_is); (case z_enumerate => k_is); (case z_int => k_is); (case z_isinstance => k_is); (case z_len => k_is); (case z_list => k_is); (case z_max => k_is); (case z_min => k_is); (case z_range => k_is); (case z_repr => k_is); (case z_set => k_is); (case z_sorted => k_is); (case z_sum => k_is); (case z_tuple => k_is); (case z_zip => k_is); (case c_KINDS => k_is); (case o_c_KINDS => k_is); (case c_MINUS => k_is); (case o_c_MINUS => k_is); (case c_MOST => k_is); (case c_MOST_UNKNOWNS => k_is)
namespace Mn
end Mn

