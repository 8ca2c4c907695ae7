import PyProof.Rows.All
import HandS.ForMost
import HandS.Wide
import HandS.WideBits
import HandS.Deep
import HandS.IsInst
import HandS.Style
import HandS.TupAny
import HandS.Text
import HandS.SortInts
import HandS.StrMore
import HandS.Iter
import KE.GoesEnumKw
import HandS.SortKw
import KE.SortData
import HandS.RaiseMore
import HandS.Strs
import PyProof.ReprRoads
import PyProof.P3In
import HandS.Ends
import HandS.Words
import HandS.RevRange
import KE.DataFind
import Wide.All
import OpenK.AllK
import Wide.FinOn
import PySem.Challenge.RW_wordsquares_k26_whole_written_changes
set_option Elab.async false
set_option linter.all false
set_option maxRecDepth 100000
set_option maxHeartbeats 1000000
namespace Mn
open PySem PySem.Spec PyProof.Rows L2

/-- data as a tree -/
inductive D where
  | non | bl (b : Bool) | int (i : Int) | str (x : Str) | lst (l : List D) | tup (l : List D)
  | dct (kv : List (Key × D)) | gl (x : Str)

/-- a list that is read: tracked, known, or the module's own -/
def SqX (K : PySem.W.Frag) (H : Hp) (a : Addr) (xs : List V) : Prop :=
  Rd H a (.lst xs) ∨ ∃ (its : Array Value) (n : Nat), K.lookup a = some { cls := .type "list", data := .seq its n } ∧ its.size ≤ sizeLine ∧ Vals xs its.toList
theorem SqX.sq {K : PySem.W.Frag} {H : Hp} {a : Addr} {xs : List V} (h : SqX K H a xs) : SqL K H a xs := by
  rcases h with h | ⟨its, n, h1, h2, h3⟩
  · exact .inl h
  · exact .inr ⟨_, its, n, h1, rfl, rfl, rfl, h2, h3⟩
theorem SqX.of {K : PySem.W.Frag} {H : Hp} {a : Addr} {xs : List V} (h : H a = some (.lst xs)) : SqX K H a xs := .inl (.inl h)
theorem Same.seqX {K : PySem.W.Frag} {W W' : Hp} {a : Addr} {xs : List V} (e : Same W W') (h : SqX K W a xs) : SqX K W' a xs := by
  rcases h with (h | ⟨o, h⟩) | h
  · exact .inl (.inl (e _ _ h))
  · exact .inl (.inr ⟨o, e _ _ h⟩)
  · exact .inr h
section
variable (K : PySem.W.Frag) (mg : Str → Option Value)
mutual
/-- the value v stands for d, in the part W that never changes -/
def Rep (W : Hp) : D → V → Prop
  | .non, v => v = .non
  | .bl b, v => v = .bl b
  | .int i, v => v = .int i
  | .str x, v => v = .str x
  | .lst l, v => ∃ a vs, v = .ref a ∧ SqX K W a vs ∧ RepL W l vs
  | .tup l, v => ∃ a vs, v = .ref a ∧ SqT K W a vs ∧ RepL W l vs
  | .dct kv, v => ∃ a kvs, v = .ref a ∧ W a = some (.dK kvs) ∧ RepK W kv kvs
  | .gl x, v => ∃ u, mg x = some u ∧ RelV v u
def RepL (W : Hp) : List D → List V → Prop
  | [], vs => vs = []
  | d :: ds, vs => ∃ v r, vs = v :: r ∧ Rep W d v ∧ RepL W ds r
def RepK (W : Hp) : List (Key × D) → List (Key × V) → Prop
  | [], vs => vs = []
  | p :: ds, vs => ∃ v r, vs = (p.1, v) :: r ∧ Rep W p.2 v ∧ RepK W ds r
end
/-- footprints: how often an address is owned -/
abbrev Fp := Addr → Nat
def OwnL (P : D → V → Fp → Prop) : List D → List V → Fp → Prop
  | [], vs, G => vs = [] ∧ ∀ b, G b = 0
  | d :: ds, vs, G => ∃ v r F G', vs = v :: r ∧ P d v F ∧ OwnL P ds r G' ∧ ∀ b, G b = F b + G' b
/-- the value v stands for d; k levels of it are owned here alone (F), what is below stands in W -/
def Own (W H : Hp) : Nat → D → V → Fp → Prop
  | 0, d, v, F => Rep K mg W d v ∧ ∀ b, F b = 0
  | k + 1, .lst l, v, F => ∃ a vs G, v = .ref a ∧ H a = some (.lst vs) ∧ OwnL (Own W H k) l vs G ∧ ∀ b, F b = (if b = a then 1 else 0) + G b
  | k + 1, .tup l, v, F => ∃ a vs G, v = .ref a ∧ H a = some (.tup vs) ∧ OwnL (Own W H k) l vs G ∧ ∀ b, F b = (if b = a then 1 else 0) + G b
  | _ + 1, .dct kv, v, F => ∃ a kvs, v = .ref a ∧ H a = some (.dK kvs) ∧ RepK K mg W kv kvs ∧ ∀ b, F b = (if b = a then 1 else 0)
  | _ + 1, .non, v, F => Rep K mg W .non v ∧ ∀ b, F b = 0
  | _ + 1, .bl c, v, F => Rep K mg W (.bl c) v ∧ ∀ b, F b = 0
  | _ + 1, .int i, v, F => Rep K mg W (.int i) v ∧ ∀ b, F b = 0
  | _ + 1, .str x, v, F => Rep K mg W (.str x) v ∧ ∀ b, F b = 0
  | _ + 1, .gl x, v, F => Rep K mg W (.gl x) v ∧ ∀ b, F b = 0
end
/-- nothing owned can be in it -/
def D.sc : D → Bool
  | .lst _ => false
  | .tup _ => false
  | .dct _ => false
  | _ => true

section
variable {K : PySem.W.Frag} {mg : Str → Option Value} {W W' H H' B : Hp}
theorem Same.seqT {a : Addr} {xs : List V} (e : Same W W') (h : SqT K W a xs) : SqT K W' a xs := by
  rcases h with (h | ⟨o, h⟩) | h
  · exact .inl (.inl (e _ _ h))
  · exact .inl (.inr ⟨o, e _ _ h⟩)
  · exact .inr h
mutual
theorem Rep.mono (e : Same W W') : ∀ (d : D) (v : V), Rep K mg W d v → Rep K mg W' d v
  | .non, _, h => h
  | .bl _, _, h => h
  | .int _, _, h => h
  | .str _, _, h => h
  | .lst l, _, h => by
    obtain ⟨a, vs, e1, h1, h2⟩ := h
    exact ⟨a, vs, e1, Same.seqX e h1, RepL.mono e l vs h2⟩
  | .tup l, _, h => by
    obtain ⟨a, vs, e1, h1, h2⟩ := h
    exact ⟨a, vs, e1, Same.seqT e h1, RepL.mono e l vs h2⟩
  | .dct kv, _, h => by
    obtain ⟨a, vs, e1, h1, h2⟩ := h
    exact ⟨a, vs, e1, e _ _ h1, RepK.mono e kv vs h2⟩
  | .gl _, _, h => h
theorem RepL.mono (e : Same W W') : ∀ (l : List D) (vs : List V), RepL K mg W l vs → RepL K mg W' l vs
  | [], _, h => h
  | d :: ds, _, h => by
    obtain ⟨v, r, e1, h1, h2⟩ := h
    exact ⟨v, r, e1, Rep.mono e d v h1, RepL.mono e ds r h2⟩
theorem RepK.mono (e : Same W W') : ∀ (l : List (Key × D)) (vs : List (Key × V)), RepK K mg W l vs → RepK K mg W' l vs
  | [], _, h => h
  | d :: ds, _, h => by
    obtain ⟨v, r, e1, h1, h2⟩ := h
    exact ⟨v, r, e1, Rep.mono e d.2 v h1, RepK.mono e ds r h2⟩
end
theorem RepL.length : ∀ {l : List D} {vs : List V}, RepL K mg W l vs → vs.length = l.length
  | [], _, h => by cases (show _ = [] from h); rfl
  | _ :: ds, _, h => by
    obtain ⟨v, r, e1, _, h2⟩ := h
    rw [e1, List.length_cons, List.length_cons, RepL.length h2]
theorem RepL.get : ∀ {l : List D} {vs : List V} {i : Nat} {d : D}, RepL K mg W l vs → l[i]? = some d → ∃ v, vs[i]? = some v ∧ Rep K mg W d v
  | [], _, _, _, _, h => by simp at h
  | d :: ds, _, 0, _, h, e => by
    obtain ⟨v, r, rfl, h1, h2⟩ := h
    cases (show some d = _ from e)
    exact ⟨v, rfl, h1⟩
  | d :: ds, _, i + 1, x, h, e => by
    obtain ⟨v, r, rfl, h1, h2⟩ := h
    obtain ⟨v', e', h'⟩ := RepL.get (i := i) (d := x) h2 (by simpa using e)
    exact ⟨v', by simpa using e', h'⟩
theorem RepL.append : ∀ {l m : List D} {vs ws : List V}, RepL K mg W l vs → RepL K mg W m ws → RepL K mg W (l ++ m) (vs ++ ws)
  | [], _, _, _, h, g => by rw [show _ = [] from h]; exact g
  | _ :: ds, _, _, _, h, g => by
    obtain ⟨v, r, rfl, h1, h2⟩ := h
    exact ⟨v, r ++ _, rfl, h1, RepL.append h2 g⟩
theorem RepL.take : ∀ {l : List D} {vs : List V} (n : Nat), RepL K mg W l vs → RepL K mg W (l.take n) (vs.take n)
  | [], _, n, h => by rw [show _ = [] from h]; simp [RepL]
  | _ :: _, _, 0, h => by simp [RepL]
  | _ :: ds, _, n + 1, h => by
    obtain ⟨v, r, rfl, h1, h2⟩ := h
    exact ⟨v, r.take n, rfl, h1, RepL.take n h2⟩
theorem RepL.drop : ∀ {l : List D} {vs : List V} (n : Nat), RepL K mg W l vs → RepL K mg W (l.drop n) (vs.drop n)
  | [], _, n, h => by rw [show _ = [] from h]; simp [RepL]
  | _ :: _, _, 0, h => by simpa using h
  | _ :: ds, _, n + 1, h => by
    obtain ⟨v, r, rfl, h1, h2⟩ := h
    simpa using RepL.drop n h2

theorem OwnL.imp {P Q : D → V → Fp → Prop} : ∀ {l : List D} {vs : List V} {G : Fp}, OwnL P l vs G → (∀ d ∈ l, ∀ v F, (∀ b, F b ≤ G b) → P d v F → Q d v F) → OwnL Q l vs G
  | [], _, _, h, _ => h
  | d :: ds, _, _, h, f => by
    obtain ⟨v, r, F, G', e1, h1, h2, h3⟩ := h
    exact ⟨v, r, F, G', e1, f d List.mem_cons_self v F (fun b => by rw [h3]; omega) h1, OwnL.imp h2 fun d' hd v' F' hF => f d' (List.mem_cons_of_mem _ hd) v' F' fun b => by rw [h3]; have := hF b; omega, h3⟩
theorem OwnL.toRep {P : D → V → Fp → Prop} : ∀ {l : List D} {vs : List V} {G : Fp}, OwnL P l vs G → (∀ d ∈ l, ∀ v F, (∀ b, F b ≤ G b) → P d v F → Rep K mg W d v) → RepL K mg W l vs
  | [], _, _, h, _ => h.1
  | d :: ds, _, _, h, f => by
    obtain ⟨v, r, F, G', e1, h1, h2, h3⟩ := h
    exact ⟨v, r, e1, f d List.mem_cons_self v F (fun b => by rw [h3]; omega) h1, OwnL.toRep h2 fun d' hd v' F' hF => f d' (List.mem_cons_of_mem _ hd) v' F' fun b => by rw [h3]; have := hF b; omega⟩
theorem OwnL.length {P : D → V → Fp → Prop} : ∀ {l : List D} {vs : List V} {G : Fp}, OwnL P l vs G → vs.length = l.length
  | [], _, _, h => by cases h.1; rfl
  | _ :: ds, _, _, h => by
    obtain ⟨v, r, F, G', e1, _, h2, _⟩ := h
    rw [e1, List.length_cons, List.length_cons, OwnL.length h2]

/-- the frozen part grows, the rest of the heap changes elsewhere -/
theorem Own.mono (e : Same W W') : ∀ (k : Nat) (d : D) (v : V) (F : Fp), Own K mg W H k d v F → (∀ a, F a ≠ 0 → H' a = H a) → Own K mg W' H' k d v F
  | 0, d, v, F, h, _ => ⟨Rep.mono e d v h.1, h.2⟩
  | k + 1, .lst l, v, F, h, f => by
    obtain ⟨a, vs, G, e1, h1, h2, h3⟩ := h
    refine ⟨a, vs, G, e1, ?_, h2.imp fun d _ v F' hF hO => Own.mono e k d v F' hO fun b hb => f b ?_, h3⟩
    · rw [f a (by rw [h3, if_pos rfl]; omega)]; exact h1
    · rw [h3]; have := hF b; omega
  | k + 1, .tup l, v, F, h, f => by
    obtain ⟨a, vs, G, e1, h1, h2, h3⟩ := h
    refine ⟨a, vs, G, e1, ?_, h2.imp fun d _ v F' hF hO => Own.mono e k d v F' hO fun b hb => f b ?_, h3⟩
    · rw [f a (by rw [h3, if_pos rfl]; omega)]; exact h1
    · rw [h3]; have := hF b; omega
  | _ + 1, .dct kv, v, F, h, f => by
    obtain ⟨a, vs, e1, h1, h2, h3⟩ := h
    exact ⟨a, vs, e1, by rw [f a (by rw [h3, if_pos rfl]; omega)]; exact h1, RepK.mono e kv vs h2, h3⟩
  | _ + 1, .non, _, _, h, _ => h
  | _ + 1, .bl _, _, _, h, _ => h
  | _ + 1, .int _, _, _, h, _ => h
  | _ + 1, .str _, _, _, h, _ => h
  | _ + 1, .gl _, _, _, h, _ => h
/-- what is owned may be read where it stands -/
theorem Own.rep (e : Same W W') : ∀ (k : Nat) (d : D) (v : V) (F : Fp), Own K mg W H k d v F → (∀ a, F a ≠ 0 → W' a = H a) → Rep K mg W' d v
  | 0, d, v, F, h, _ => Rep.mono e d v h.1
  | k + 1, .lst l, v, F, h, f => by
    obtain ⟨a, vs, G, e1, h1, h2, h3⟩ := h
    refine ⟨a, vs, e1, SqX.of (by rw [f a (by rw [h3, if_pos rfl]; omega)]; exact h1), h2.toRep fun d _ v F' hF hO => Own.rep e k d v F' hO fun b hb => f b ?_⟩
    rw [h3]; have := hF b; omega
  | k + 1, .tup l, v, F, h, f => by
    obtain ⟨a, vs, G, e1, h1, h2, h3⟩ := h
    refine ⟨a, vs, e1, SqT.of (by rw [f a (by rw [h3, if_pos rfl]; omega)]; exact h1), h2.toRep fun d _ v F' hF hO => Own.rep e k d v F' hO fun b hb => f b ?_⟩
    rw [h3]; have := hF b; omega
  | _ + 1, .dct kv, v, F, h, f => by
    obtain ⟨a, vs, e1, h1, h2, h3⟩ := h
    exact ⟨a, vs, e1, by rw [f a (by rw [h3, if_pos rfl]; omega)]; exact h1, RepK.mono e kv vs h2⟩
  | _ + 1, .non, _, _, h, _ => h.1
  | _ + 1, .bl _, _, _, h, _ => h.1
  | _ + 1, .int _, _, _, h, _ => h.1
  | _ + 1, .str _, _, _, h, _ => h.1
  | _ + 1, .gl _, _, _, h, _ => h.1
theorem Own.there : ∀ (k : Nat) (d : D) (v : V) (F : Fp), Own K mg W H k d v F → ∀ a, F a ≠ 0 → H a ≠ none
  | 0, _, _, _, h, a, ha => (ha (h.2 a)).elim
  | k + 1, .lst l, v, F, h, a, ha => by
    obtain ⟨c, vs, G, e1, h1, h2, h3⟩ := h
    by_cases q : a = c
    · rw [q, h1]; simp
    · have hG : G a ≠ 0 := by have := h3 a; rw [if_neg q] at this; omega
      clear h3 h1 e1 ha
      induction l generalizing vs G with
      | nil => exact (hG (h2.2 a)).elim
      | cons d ds ih =>
        obtain ⟨v1, r, F1, G1, _, p1, p2, p3⟩ := h2
        by_cases z : F1 a = 0
        · exact ih r G1 p2 (by have := p3 a; omega)
        · exact Own.there k d v1 F1 p1 a z
  | k + 1, .tup l, v, F, h, a, ha => by
    obtain ⟨c, vs, G, e1, h1, h2, h3⟩ := h
    by_cases q : a = c
    · rw [q, h1]; simp
    · have hG : G a ≠ 0 := by have := h3 a; rw [if_neg q] at this; omega
      clear h3 h1 e1 ha
      induction l generalizing vs G with
      | nil => exact (hG (h2.2 a)).elim
      | cons d ds ih =>
        obtain ⟨v1, r, F1, G1, _, p1, p2, p3⟩ := h2
        by_cases z : F1 a = 0
        · exact ih r G1 p2 (by have := p3 a; omega)
        · exact Own.there k d v1 F1 p1 a z
  | _ + 1, .dct kv, v, F, h, a, ha => by
    obtain ⟨c, vs, e1, h1, h2, h3⟩ := h
    have q : a = c := by
      by_cases q : a = c
      · exact q
      · have := h3 a; rw [if_neg q] at this; omega
    rw [q, h1]; simp
  | _ + 1, .non, _, _, h, a, ha => (ha (h.2 a)).elim
  | _ + 1, .bl _, _, _, h, a, ha => (ha (h.2 a)).elim
  | _ + 1, .int _, _, _, h, a, ha => (ha (h.2 a)).elim
  | _ + 1, .str _, _, _, h, a, ha => (ha (h.2 a)).elim
  | _ + 1, .gl _, _, _, h, a, ha => (ha (h.2 a)).elim
/-- scalars are owned to any depth -/
theorem Own.scal {d : D} (hs : d.sc = true) {k k' : Nat} {v : V} {F : Fp} (h : Own K mg W H k d v F) : Own K mg W H k' d v F := by
  cases d <;> first | (simp [D.sc] at hs; done) | (cases k <;> cases k' <;> exact h)
/-- fewer levels: the lower ones go to the frozen part -/
theorem Own.down : ∀ (k' k : Nat) (d : D) (v : V) (F : Fp), k' ≤ k → (∀ b, F b ≤ 1) → Own K mg W H k d v F →
    ∃ F' : Fp, (∀ b, F' b ≤ F b) ∧ ∀ W' : Hp, Same W W' → (∀ a, F a ≠ 0 → F' a = 0 → W' a = H a) → Own K mg W' H k' d v F'
  | 0, k, d, v, F, _, _, h => ⟨fun _ => 0, fun _ => Nat.zero_le _, fun W' e f => ⟨Own.rep e k d v F h fun a ha => f a ha rfl, fun _ => rfl⟩⟩
  | k' + 1, 0, _, _, _, hk, _, _ => absurd hk (Nat.not_succ_le_zero _)
  | k' + 1, k + 1, d, v, F, hk, hF, h => by
    have key : ∀ (l : List D) (vs : List V) (G : Fp), (∀ b, G b ≤ 1) → OwnL (Own K mg W H k) l vs G → ∃ G' : Fp, (∀ b, G' b ≤ G b) ∧ ∀ W' : Hp, Same W W' → (∀ a, G a ≠ 0 → G' a = 0 → W' a = H a) → OwnL (Own K mg W' H k') l vs G' := by
      intro l
      induction l with
      | nil => exact fun vs G _ h => ⟨fun _ => 0, fun _ => Nat.zero_le _, fun W' _ _ => ⟨h.1, fun _ => rfl⟩⟩
      | cons d ds ih =>
        rintro vs G hG ⟨v1, r, F1, G1, p0, p1, p2, p3⟩
        obtain ⟨F2, q1, q2⟩ := Own.down k' k d v1 F1 (Nat.le_of_succ_le_succ hk) (fun b => by have := hG b; have := p3 b; omega) p1
        obtain ⟨G2, r1, r2⟩ := ih r G1 (fun b => by have := hG b; have := p3 b; omega) p2
        refine ⟨fun b => F2 b + G2 b, fun b => by have := q1 b; have := r1 b; have := p3 b; show F2 b + G2 b ≤ G b; omega, fun W' e f => ⟨v1, r, F2, G2, p0, q2 W' e fun a x y => ?_, r2 W' e fun a x y => ?_, fun _ => rfl⟩⟩
        · exact f a (by have := p3 a; omega) (by show F2 a + G2 a = 0; have := p3 a; have := hG a; have := r1 a; omega)
        · exact f a (by have := p3 a; omega) (by show F2 a + G2 a = 0; have := p3 a; have := hG a; have := q1 a; omega)
    cases d with
    | lst l =>
      obtain ⟨a, vs, G, e1, h1, h2, h3⟩ := h
      obtain ⟨G', g1, g2⟩ := key l vs G (fun b => by have := hF b; have := h3 b; omega) h2
      refine ⟨fun b => (if b = a then 1 else 0) + G' b, fun b => by have := g1 b; have := h3 b; show _ + G' b ≤ F b; omega, fun W' e f => ⟨a, vs, G', e1, h1, g2 W' e fun b x y => f b (by have := h3 b; omega) ?_, fun _ => rfl⟩⟩
      have z : b ≠ a := fun z => by have := hF b; have := h3 b; rw [if_pos z] at this; omega
      show (if b = a then 1 else 0) + G' b = 0
      rw [if_neg z]; omega
    | tup l =>
      obtain ⟨a, vs, G, e1, h1, h2, h3⟩ := h
      obtain ⟨G', g1, g2⟩ := key l vs G (fun b => by have := hF b; have := h3 b; omega) h2
      refine ⟨fun b => (if b = a then 1 else 0) + G' b, fun b => by have := g1 b; have := h3 b; show _ + G' b ≤ F b; omega, fun W' e f => ⟨a, vs, G', e1, h1, g2 W' e fun b x y => f b (by have := h3 b; omega) ?_, fun _ => rfl⟩⟩
      have z : b ≠ a := fun z => by have := hF b; have := h3 b; rw [if_pos z] at this; omega
      show (if b = a then 1 else 0) + G' b = 0
      rw [if_neg z]; omega
    | dct kv =>
      obtain ⟨a, vs, e1, h1, h2, h3⟩ := h
      exact ⟨F, fun _ => Nat.le_refl _, fun W' e f => ⟨a, vs, e1, h1, RepK.mono e kv vs h2, h3⟩⟩
    | non => exact ⟨F, fun _ => Nat.le_refl _, fun W' e f => ⟨Rep.mono e _ _ h.1, h.2⟩⟩
    | bl _ => exact ⟨F, fun _ => Nat.le_refl _, fun W' e f => ⟨Rep.mono e _ _ h.1, h.2⟩⟩
    | int _ => exact ⟨F, fun _ => Nat.le_refl _, fun W' e f => ⟨Rep.mono e _ _ h.1, h.2⟩⟩
    | str _ => exact ⟨F, fun _ => Nat.le_refl _, fun W' e f => ⟨Rep.mono e _ _ h.1, h.2⟩⟩
    | gl _ => exact ⟨F, fun _ => Nat.le_refl _, fun W' e f => ⟨Rep.mono e _ _ h.1, h.2⟩⟩

/-! ### the state of a frame -/
/-- a cell: how many levels are owned, the data -/
abbrev Cell := Nat × D
abbrev Env := List (Option Cell)
def CellR (K : PySem.W.Frag) (mg : Str → Option Value) (W H : Hp) : Option V → Option Cell → Fp → Prop
  | _, none, F => ∀ b, F b = 0
  | ov, some c, F => ∃ v, ov = some v ∧ Own K mg W H c.1 c.2 v F
def Cells (K : PySem.W.Frag) (mg : Str → Option Value) (W H : Hp) : List (Option V) → List (Option Cell) → Fp → Prop
  | [], [], T => ∀ b, T b = 0
  | v :: vs, c :: cs, T => ∃ F G, CellR K mg W H v c F ∧ Cells K mg W H vs cs G ∧ ∀ b, T b = F b + G b
  | _, _, _ => False
theorem CellR.mono (e : Same W W') {ov : Option V} {c : Option Cell} {F : Fp} (h : CellR K mg W H ov c F) (f : ∀ a, F a ≠ 0 → H' a = H a) : CellR K mg W' H' ov c F := by
  cases c with
  | none => exact h
  | some c =>
    obtain ⟨v, e1, h⟩ := h
    exact ⟨v, e1, Own.mono e _ _ _ _ h f⟩
theorem Cells.mono (e : Same W W') : ∀ {vs : List (Option V)} {cs : List (Option Cell)} {T : Fp}, Cells K mg W H vs cs T → (∀ a, T a ≠ 0 → H' a = H a) → Cells K mg W' H' vs cs T
  | [], [], _, h, _ => h
  | v :: vs, c :: cs, T, h, f => by
    obtain ⟨F, G, h1, h2, h3⟩ := h
    exact ⟨F, G, h1.mono e fun a ha => f a (by have := h3 a; omega), h2.mono e fun a ha => f a (by have := h3 a; omega), h3⟩
  | [], _ :: _, _, h, _ => h.elim
  | _ :: _, [], _, h, _ => h.elim
theorem Cells.length : ∀ {vs : List (Option V)} {cs : List (Option Cell)} {T : Fp}, Cells K mg W H vs cs T → vs.length = cs.length
  | [], [], _, _ => rfl
  | v :: vs, c :: cs, T, h => by
    obtain ⟨F, G, h1, h2, h3⟩ := h
    rw [List.length_cons, List.length_cons, h2.length]
  | [], _ :: _, _, h => h.elim
  | _ :: _, [], _, h => h.elim
theorem Cells.there : ∀ {vs : List (Option V)} {cs : List (Option Cell)} {T : Fp}, Cells K mg W H vs cs T → ∀ a, T a ≠ 0 → H a ≠ none
  | [], [], _, h, a, ha => (ha (h a)).elim
  | v :: vs, c :: cs, T, h, a, ha => by
    obtain ⟨F, G, h1, h2, h3⟩ := h
    by_cases z : F a = 0
    · exact h2.there a (by have := h3 a; omega)
    · cases c with
      | none => exact (z (h1 a)).elim
      | some c =>
        obtain ⟨v, e1, h⟩ := h1
        exact Own.there _ _ _ _ h a z
  | [], _ :: _, _, h, _, _ => h.elim
  | _ :: _, [], _, h, _, _ => h.elim
theorem set_self {α : Type} : ∀ {l : List α} {i : Nat} {x : α}, l[i]? = some x → l.set i x = l
  | [], _, _, h => by simp at h
  | a :: r, 0, x, h => by cases (show some a = some x from h); rfl
  | a :: r, i + 1, x, h => by rw [List.set_cons_succ, set_self (by simpa using h)]
/-- one cell looked at, and put back as another -/
theorem Cells.focus : ∀ {vs : List (Option V)} {cs : List (Option Cell)} {T : Fp} {i : Nat} {c : Option Cell}, Cells K mg W H vs cs T → cs[i]? = some c →
    ∃ (v : Option V) (F G : Fp), vs[i]? = some v ∧ CellR K mg W H v c F ∧ (∀ b, T b = F b + G b) ∧
      ∀ (W' H' : Hp) (v' : Option V) (c' : Option Cell) (F' : Fp), Same W W' → (∀ a, G a ≠ 0 → H' a = H a) → CellR K mg W' H' v' c' F' → Cells K mg W' H' (vs.set i v') (cs.set i c') (fun b => F' b + G b)
  | [], [], _, _, _, _, e => by simp at e
  | v :: vs, c :: cs, T, 0, x, h, e => by
    obtain ⟨F, G, h1, h2, h3⟩ := h
    cases (show some c = some x from e)
    exact ⟨v, F, G, rfl, h1, h3, fun W' H' v' c' F' s f hc => ⟨F', G, hc, h2.mono s f, fun _ => rfl⟩⟩
  | v :: vs, c :: cs, T, i + 1, x, h, e => by
    obtain ⟨F, G, h1, h2, h3⟩ := h
    obtain ⟨v0, F0, G0, e0, p1, p2, p3⟩ := Cells.focus (i := i) (c := x) h2 (by simpa using e)
    refine ⟨v0, F0, fun b => F b + G0 b, by simpa using e0, p1, fun b => by have := h3 b; have := p2 b; show T b = F0 b + (F b + G0 b); omega, fun W' H' v' c' F' s f hc => ⟨F, fun b => F' b + G0 b, h1.mono s fun a ha => f a (by show F a + G0 a ≠ 0; omega), p3 W' H' v' c' F' s (fun a ha => f a (by show F a + G0 a ≠ 0; omega)) hc, fun b => by show F' b + (F b + G0 b) = F b + (F' b + G0 b); omega⟩⟩
  | [], _ :: _, _, _, _, h, _ => h.elim
  | _ :: _, [], _, _, _, h, _ => h.elim

/-- W: frozen, data may lean on it; B: what else must not change; vs: the slots (temporary ones ahead), cs: what they stand for -/
structure R (K : PySem.W.Frag) (mg : Str → Option Value) (B W H : Hp) (vs : List (Option V)) (cs : List (Option Cell)) : Prop where
  sw : Same W H
  sb : Same B H
  ex : ∃ T : Fp, Cells K mg W H vs cs T ∧ ∀ b, T b ≤ 1 ∧ (T b ≠ 0 → W b = none ∧ B b = none)
/-- the frozen part grows, not by what is B's -/
structure Gr (B W W' : Hp) : Prop where
  sm : Same W W'
  nb : ∀ a, W a = none → W' a ≠ none → B a = none
theorem Gr.refl (B W : Hp) : Gr B W W := ⟨Same.refl W, fun a e n => (n e).elim⟩
theorem Gr.trans {W1 W2 W3 : Hp} (a : Gr B W1 W2) (b : Gr B W2 W3) : Gr B W1 W3 := ⟨a.sm.trans b.sm, fun c e n => by
  cases q : W2 c with
  | none => exact b.nb c q n
  | some o => exact a.nb c e (by rw [q]; simp)⟩
/-- W with what is owned by F -/
noncomputable def fz (W H : Hp) (F : Fp) : Hp := fun b => if F b = 0 then W b else H b
theorem fz_of {F : Fp} {b : Addr} (h : F b ≠ 0) : fz W H F b = H b := if_neg h
theorem fz_no {F : Fp} {b : Addr} (h : F b = 0) : fz W H F b = W b := if_pos h
theorem fz_same {F : Fp} (h : ∀ b, F b ≠ 0 → W b = none) : Same W (fz W H F) := fun b o e => by
  by_cases z : F b = 0
  · rw [fz_no z]; exact e
  · rw [h b z] at e; cases e
theorem fz_in {F : Fp} (sw : Same W H) : Same (fz W H F) H := fun b o e => by
  by_cases z : F b = 0
  · rw [fz_no z] at e; exact sw b o e
  · rw [fz_of z] at e; exact e

variable {vs : List (Option V)} {cs : List (Option Cell)}
theorem R.length (r : R K mg B W H vs cs) : vs.length = cs.length := let ⟨_, h, _⟩ := r.ex; h.length
/-- a cell to fewer levels -/
theorem R.down (r : R K mg B W H vs cs) {i k k' : Nat} {d : D} (e : cs[i]? = some (some (k, d))) (hk : k' ≤ k) : ∃ W', Gr B W W' ∧ R K mg B W' H vs (cs.set i (some (k', d))) := by
  obtain ⟨T, h, hT⟩ := r.ex
  obtain ⟨v, F, G, ev, ⟨u, eu, ho⟩, h3, put⟩ := h.focus e
  obtain ⟨F', g1, g2⟩ := Own.down k' k d u F hk (fun b => by have := (hT b).1; have := h3 b; omega) ho
  let M : Fp := fun b => if F' b = 0 then F b else 0
  have hM : ∀ b, M b ≠ 0 → F b ≠ 0 ∧ F' b = 0 := fun b hb => by
    by_cases z : F' b = 0
    · exact ⟨by have : M b = F b := if_pos z; omega, z⟩
    · exact (hb (if_neg z)).elim
  have s1 : Same W (fz W H M) := fz_same fun b hb => ((hT b).2 (by have := hM b hb; have := h3 b; omega)).1
  refine ⟨fz W H M, ⟨s1, fun a e1 n1 => ?_⟩, fz_in r.sw, r.sb, fun b => F' b + G b, ?_, fun b => ⟨by have := (hT b).1; have := h3 b; have := g1 b; show F' b + G b ≤ 1; omega, fun hb => ⟨?_, ((hT b).2 (by have := h3 b; have := g1 b; have : F' b + G b ≠ 0 := hb; omega)).2⟩⟩⟩
  · by_cases z : M a = 0
    · rw [fz_no z] at n1; exact (n1 e1).elim
    · exact ((hT a).2 (by have := hM a z; have := h3 a; omega)).2
  · have c := put (fz W H M) H (some u) (some (k', d)) F' s1 (fun _ _ => rfl) ⟨u, rfl, g2 _ s1 fun a ha hz => fz_of (by show (if F' a = 0 then F a else 0) ≠ 0; rw [if_pos hz]; exact ha)⟩
    rw [eu] at ev
    rwa [set_self ev] at c
  · have z : M b = 0 := by
      by_cases z : M b = 0
      · exact z
      · have := hM b z; have := h3 b; have := (hT b).1; have : F' b + G b ≠ 0 := hb; omega
    rw [fz_no z]
    exact ((hT b).2 (by have := h3 b; have := g1 b; have : F' b + G b ≠ 0 := hb; omega)).1
end
end Mn

namespace Mn
open PySem PySem.Spec PyProof.Rows L2

section
variable {K : PySem.W.Frag} {mg : Str → Option Value} {W W' H H' B : Hp} {vs : List (Option V)} {cs : List (Option Cell)} {v : V} {ov : Option V} {oc : Option Cell} {k : Nat} {d : D} {c : Cell}
theorem R.drop (r : R K mg B W H (ov :: vs) (oc :: cs)) : R K mg B W H vs cs := by
  obtain ⟨T, ⟨F, G, h1, h2, h3⟩, hT⟩ := r.ex
  exact ⟨r.sw, r.sb, G, h2, fun b => ⟨by have := (hT b).1; have := h3 b; omega, fun hb => (hT b).2 (by have := h3 b; omega)⟩⟩
theorem R.head0 (r : R K mg B W H (some v :: vs) (some (0, d) :: cs)) : Rep K mg W d v := by
  obtain ⟨T, ⟨F, G, ⟨u, e, h1⟩, h2, h3⟩, hT⟩ := r.ex
  cases e
  exact h1.1
theorem R.pop (r : R K mg B W H (some v :: vs) (some (k, d) :: cs)) : ∃ W', Gr B W W' ∧ R K mg B W' H vs cs ∧ Rep K mg W' d v := by
  obtain ⟨W', g, r'⟩ := r.down (i := 0) (k' := 0) rfl (Nat.zero_le _)
  exact ⟨W', g, R.drop r', R.head0 r'⟩
theorem R.push0 (r : R K mg B W H vs cs) (h : Rep K mg W d v) : R K mg B W H (some v :: vs) (some (0, d) :: cs) := by
  obtain ⟨T, h2, hT⟩ := r.ex
  exact ⟨r.sw, r.sb, T, ⟨fun _ => 0, T, ⟨v, rfl, h, fun _ => rfl⟩, h2, fun b => (Nat.zero_add _).symm⟩, hT⟩
theorem Rep.scalar (hs : d.sc = true) (h : Rep K mg H d v) : Rep K mg W d v := by cases d <;> first | (simp [D.sc] at hs; done) | exact h
theorem R.pushS (r : R K mg B W H vs cs) (hs : d.sc = true) (h : Rep K mg H d v) : R K mg B W H (some v :: vs) (some (k, d) :: cs) := by
  obtain ⟨T, h2, hT⟩ := r.ex
  have h' : Own K mg W H 0 d v fun _ => 0 := ⟨Rep.scalar hs h, fun _ => rfl⟩
  exact ⟨r.sw, r.sb, T, ⟨fun _ => 0, T, ⟨v, rfl, Own.scal hs h'⟩, h2, fun b => (Nat.zero_add _).symm⟩, hT⟩
/-- a cell read where it stands -/
theorem R.rep (r : R K mg B W H vs cs) {i : Nat} (e : cs[i]? = some (some c)) : ∃ v, vs[i]? = some (some v) ∧ Rep K mg H c.2 v := by
  obtain ⟨T, h, hT⟩ := r.ex
  obtain ⟨v, F, G, ev, ⟨u, eu, ho⟩, h3, put⟩ := h.focus e
  exact ⟨u, by rw [ev, eu], Own.rep r.sw _ _ _ _ ho fun _ _ => rfl⟩
theorem R.rep0 (r : R K mg B W H vs cs) {i : Nat} (e : cs[i]? = some (some (0, d))) : ∃ v, vs[i]? = some (some v) ∧ Rep K mg W d v := by
  obtain ⟨T, h, hT⟩ := r.ex
  obtain ⟨v, F, G, ev, ⟨u, eu, ho⟩, h3, put⟩ := h.focus e
  exact ⟨u, by rw [ev, eu], ho.1⟩
/-- the head is stored in a slot -/
theorem R.move (r : R K mg B W H (ov :: vs) (oc :: cs)) (i : Nat) : R K mg B W H (vs.set i ov) (cs.set i oc) := by
  obtain ⟨T, ⟨F, G, h1, h2, h3⟩, hT⟩ := r.ex
  by_cases hi : i < cs.length
  · obtain ⟨v, F0, G0, ev, _, p2, put⟩ := h2.focus (i := i) (c := cs[i]) (by simp [hi])
    refine ⟨r.sw, r.sb, _, put W H ov oc F (Same.refl W) (fun _ _ => rfl) h1, fun b => ⟨?_, fun hb => (hT b).2 ?_⟩⟩
    · have := (hT b).1; have := h3 b; have := p2 b; show F b + G0 b ≤ 1; omega
    · have := h3 b; have := p2 b; have : F b + G0 b ≠ 0 := hb; omega
  · have hl := h2.length
    rw [List.set_eq_of_length_le (by omega), List.set_eq_of_length_le (by omega)]
    exact R.drop r
/-- a slot is forgotten -/
theorem R.clear (r : R K mg B W H vs cs) (i : Nat) (ov : Option V) : R K mg B W H (vs.set i ov) (cs.set i none) := by
  obtain ⟨T, h2, hT⟩ := r.ex
  exact R.move (oc := none) ⟨r.sw, r.sb, T, ⟨fun _ => 0, T, fun _ => rfl, h2, fun b => (Nat.zero_add _).symm⟩, hT⟩ i
/-- a new object elsewhere -/
theorem R.alloc (r : R K mg B W H vs cs) {p : Addr} {o : HO} (np : H p = none) : R K mg B W (upd H p o) vs cs := by
  obtain ⟨T, h, hT⟩ := r.ex
  have ne : ∀ {b u}, H b = some u → b ≠ p := fun e => ne_of_none e np
  refine ⟨fun b u e => by rw [upd_ne (ne (r.sw b u e))]; exact r.sw b u e, fun b u e => by rw [upd_ne (ne (r.sb b u e))]; exact r.sb b u e, T, h.mono (Same.refl W) fun a ha => ?_, hT⟩
  exact upd_ne fun z => h.there a ha (z ▸ np)
/-- values that are held beside the state, k levels of each owned -/
structure RL (K : PySem.W.Frag) (mg : Str → Option Value) (B W H : Hp) (k : Nat) (ds : List D) (xs : List V) (vs : List (Option V)) (cs : List (Option Cell)) : Prop where
  sw : Same W H
  sb : Same B H
  ex : ∃ T G : Fp, Cells K mg W H vs cs T ∧ OwnL (Own K mg W H k) ds xs G ∧ ∀ b, T b + G b ≤ 1 ∧ (T b + G b ≠ 0 → W b = none ∧ B b = none)
theorem RL.nil (r : R K mg B W H vs cs) : RL K mg B W H k [] [] vs cs := by
  obtain ⟨T, h, hT⟩ := r.ex
  exact ⟨r.sw, r.sb, T, fun _ => 0, h, ⟨rfl, fun _ => rfl⟩, hT⟩
theorem RL.cons {ds : List D} {xs : List V} (r : RL K mg B W H k ds xs (some v :: vs) (some (k, d) :: cs)) : RL K mg B W H k (d :: ds) (v :: xs) vs cs := by
  obtain ⟨T, G, ⟨F, T', ⟨u, e, h1⟩, h2, h3⟩, h4, hT⟩ := r.ex
  cases e
  refine ⟨r.sw, r.sb, T', fun b => F b + G b, h2, ⟨v, xs, F, G, rfl, h1, h4, fun _ => rfl⟩, fun b => ⟨?_, fun hb => (hT b).2 ?_⟩⟩
  · have := (hT b).1; have := h3 b; show T' b + (F b + G b) ≤ 1; omega
  · have := h3 b; have : T' b + (F b + G b) ≠ 0 := hb; omega
theorem RL.r {ds : List D} {xs : List V} (r : RL K mg B W H k ds xs vs cs) : R K mg B W H vs cs := by
  obtain ⟨T, G, h2, h4, hT⟩ := r.ex
  exact ⟨r.sw, r.sb, T, h2, fun b => ⟨by have := (hT b).1; omega, fun hb => (hT b).2 (by omega)⟩⟩
theorem RL.rep0 {ds : List D} {xs : List V} (r : RL K mg B W H 0 ds xs vs cs) : RepL K mg W ds xs := by
  obtain ⟨T, G, h2, h4, hT⟩ := r.ex
  exact h4.toRep fun d _ v F _ h => h.1
theorem RL.of0 {ds : List D} {xs : List V} (r : R K mg B W H vs cs) (h : RepL K mg W ds xs) : RL K mg B W H 0 ds xs vs cs := by
  obtain ⟨T, h2, hT⟩ := r.ex
  refine ⟨r.sw, r.sb, T, fun _ => 0, h2, ?_, hT⟩
  clear hT h2
  induction ds generalizing xs with
  | nil => exact ⟨h, fun _ => rfl⟩
  | cons d ds ih =>
    obtain ⟨v, r', rfl, h1, h2⟩ := h
    exact ⟨v, r', fun _ => 0, fun _ => 0, rfl, ⟨h1, fun _ => rfl⟩, ih h2, fun _ => rfl⟩
/-- a new list of them, a new tuple -/
theorem RL.lst {ds : List D} {xs : List V} (r : RL K mg B W H k ds xs vs cs) {p : Addr} (np : H p = none) : R K mg B W (upd H p (.lst xs)) (some (.ref p) :: vs) (some (k + 1, .lst ds) :: cs) := by
  obtain ⟨T, G, h2, h4, hT⟩ := r.ex
  have r' := (RL.r r).alloc (o := .lst xs) np
  have there : ∀ a, G a ≠ 0 → H a ≠ none := by
    intro a ha
    have hc : Own K mg W (upd H p (.lst xs)) (k + 1) (.lst ds) (.ref p) (fun b => (if b = p then 1 else 0) + G b) → True := fun _ => trivial
    clear hc r r' hT h2
    induction ds generalizing xs G with
    | nil => exact (ha (h4.2 a)).elim
    | cons d ds ih =>
      obtain ⟨v1, r1, F1, G1, _, p1, p2, p3⟩ := h4
      by_cases z : F1 a = 0
      · exact ih G1 p2 (by have := p3 a; omega)
      · exact Own.there _ _ _ _ p1 a z
  have gp : G p = 0 := by
    by_cases z : G p = 0
    · exact z
    · exact (there p z np).elim
  have tp : T p = 0 := by
    by_cases z : T p = 0
    · exact z
    · exact (h2.there p z np).elim
  refine ⟨r'.sw, r'.sb, fun b => ((if b = p then 1 else 0) + G b) + T b, ⟨_, T, ⟨.ref p, rfl, p, xs, G, rfl, upd_same, h4.imp fun d _ v F hF hO => Own.mono (Same.refl W) k d v F hO fun a ha => upd_ne fun z => by subst z; have := hF a; omega, fun _ => rfl⟩, h2.mono (Same.refl W) fun a ha => upd_ne fun z => by subst z; omega, fun _ => rfl⟩, fun b => ?_⟩
  by_cases hb : b = p
  · subst hb
    refine ⟨by show (if b = b then 1 else 0) + G b + T b ≤ 1; rw [if_pos rfl]; omega, fun _ => ⟨?_, ?_⟩⟩
    · cases q : W b with
      | none => rfl
      | some o => have := r.sw b o q; rw [np] at this; cases this
    · cases q : B b with
      | none => rfl
      | some o => have := r.sb b o q; rw [np] at this; cases this
  · refine ⟨by show (if b = p then 1 else 0) + G b + T b ≤ 1; rw [if_neg hb]; have := (hT b).1; omega, fun h => (hT b).2 ?_⟩
    have : (if b = p then 1 else 0) + G b + T b ≠ 0 := h
    rw [if_neg hb] at this; omega
theorem RL.tup {ds : List D} {xs : List V} (r : RL K mg B W H k ds xs vs cs) {p : Addr} (np : H p = none) : R K mg B W (upd H p (.tup xs)) (some (.ref p) :: vs) (some (k + 1, .tup ds) :: cs) := by
  obtain ⟨T, G, h2, h4, hT⟩ := r.ex
  have r' := (RL.r r).alloc (o := .tup xs) np
  have there : ∀ a, G a ≠ 0 → H a ≠ none := by
    intro a ha
    clear r r' hT h2
    induction ds generalizing xs G with
    | nil => exact (ha (h4.2 a)).elim
    | cons d ds ih =>
      obtain ⟨v1, r1, F1, G1, _, p1, p2, p3⟩ := h4
      by_cases z : F1 a = 0
      · exact ih G1 p2 (by have := p3 a; omega)
      · exact Own.there _ _ _ _ p1 a z
  have gp : G p = 0 := by
    by_cases z : G p = 0
    · exact z
    · exact (there p z np).elim
  have tp : T p = 0 := by
    by_cases z : T p = 0
    · exact z
    · exact (h2.there p z np).elim
  refine ⟨r'.sw, r'.sb, fun b => ((if b = p then 1 else 0) + G b) + T b, ⟨_, T, ⟨.ref p, rfl, p, xs, G, rfl, upd_same, h4.imp fun d _ v F hF hO => Own.mono (Same.refl W) k d v F hO fun a ha => upd_ne fun z => by subst z; have := hF a; omega, fun _ => rfl⟩, h2.mono (Same.refl W) fun a ha => upd_ne fun z => by subst z; omega, fun _ => rfl⟩, fun b => ?_⟩
  by_cases hb : b = p
  · subst hb
    refine ⟨by show (if b = b then 1 else 0) + G b + T b ≤ 1; rw [if_pos rfl]; omega, fun _ => ⟨?_, ?_⟩⟩
    · cases q : W b with
      | none => rfl
      | some o => have := r.sw b o q; rw [np] at this; cases this
    · cases q : B b with
      | none => rfl
      | some o => have := r.sb b o q; rw [np] at this; cases this
  · refine ⟨by show (if b = p then 1 else 0) + G b + T b ≤ 1; rw [if_neg hb]; have := (hT b).1; omega, fun h => (hT b).2 ?_⟩
    have : (if b = p then 1 else 0) + G b + T b ≠ 0 := h
    rw [if_neg hb] at this; omega
end
end Mn

namespace Mn
open PySem PySem.Spec PyProof.Rows L2

/-- the abstract heap has what the environment says; ts: values held beside it -/
def Sta (X : Cx) (σ : L2.St) (H : Hp) (ρ : Env) : Prop := ∃ (B W : Hp) (ts : List (Option V)) (tc : List (Option Cell)), R X.K X.mg B W H (ts ++ σ) (tc ++ ρ) ∧ ts.length = tc.length
/-- a pure expression: it changes nothing; its value may be read at once -/
def pS (X : Cx) (f : Env → Option D) : TE := fun σ H Q => ∃ ρ d, Sta X σ H ρ ∧ f ρ = some d ∧ ∀ v, Rep X.K X.mg H d v → Q v H
def pA (X : Cx) (f : Env → Option (List D)) : TA := fun σ H Q => ∃ ρ ds, Sta X σ H ρ ∧ f ρ = some ds ∧ ∀ vs, RepL X.K X.mg H ds vs → Q vs H
def pT (X : Cx) (f : Env → Option Bool) : TT := fun σ H Q => ∃ ρ b, Sta X σ H ρ ∧ f ρ = some b ∧ Q b H
/-- an expression: what it hands back may be owned -/
def gS (X : Cx) (m : Env → Option (Cell × Env)) : TE := fun σ H Q => ∃ (B W : Hp) (ts : List (Option V)) (tc : List (Option Cell)) (ρ : Env) (c : Cell) (ρ' : Env), R X.K X.mg B W H (ts ++ σ) (tc ++ ρ) ∧ ts.length = tc.length ∧ m ρ = some (c, ρ') ∧
  ∀ W' H' v, Gr B W W' → R X.K X.mg B W' H' (some v :: (ts ++ σ)) (some c :: (tc ++ ρ')) → Q v H'
def gT (X : Cx) (m : Env → Option (Bool × Env)) : TT := fun σ H Q => ∃ (B W : Hp) (ts : List (Option V)) (tc : List (Option Cell)) (ρ : Env) (c : Bool) (ρ' : Env), R X.K X.mg B W H (ts ++ σ) (tc ++ ρ) ∧ ts.length = tc.length ∧ m ρ = some (c, ρ') ∧
  ∀ W' H', Gr B W W' → R X.K X.mg B W' H' (ts ++ σ) (tc ++ ρ') → Q c H'
/-- several, k levels of each owned -/
def gA (X : Cx) (k : Nat) (m : Env → Option (List D × Env)) : TA := fun σ H Q => ∃ (B W : Hp) (ts : List (Option V)) (tc : List (Option Cell)) (ρ : Env) (ds : List D) (ρ' : Env), R X.K X.mg B W H (ts ++ σ) (tc ++ ρ) ∧ ts.length = tc.length ∧ m ρ = some (ds, ρ') ∧
  ∀ W' H' vs, Gr B W W' → RL X.K X.mg B W' H' k ds vs (ts ++ σ) (tc ++ ρ') → Q vs H'

theorem PEi {X : Cx} {e : Expr} {t t' : TE} (h : PE X e t) (i : ∀ σ H Q, t' σ H Q → t σ H Q) : PE X e t' := ⟨fun pins s σ H Q I q => h.run pins s σ H Q I (i σ H Q q)⟩
theorem PTi {X : Cx} {e : Expr} {t t' : TT} (h : PT X e t) (i : ∀ σ H Q, t' σ H Q → t σ H Q) : PT X e t' := ⟨fun pins s σ H Q I q => h.run pins s σ H Q I (i σ H Q q)⟩
theorem PWi {X : Cx} {e : Expr} {t t' : TT} (h : PW X e t) (i : ∀ σ H Q, t' σ H Q → t σ H Q) : PW X e t' := ⟨fun wh pins s σ H Q I q => h.run wh pins s σ H Q I (i σ H Q q)⟩
theorem PAi {X : Cx} {e : List Expr} {t t' : TA} (h : PA X e t) (i : ∀ σ H Q, t' σ H Q → t σ H Q) : PA X e t' := ⟨fun pos pins s σ H Q I q => h.run pos pins s σ H Q I (i σ H Q q)⟩
theorem PSi {X : Cx} {e : Stmt} {t t' : TS} (h : PS X e t) (i : ∀ D σ H, t' D σ H → t D σ H) : PS X e t' := ⟨fun pins s σ H D I q => h.run pins s σ H D I (i D σ H q)⟩
theorem PSsi {X : Cx} {e : List Stmt} {t t' : TS} (h : PSs X e t) (i : ∀ D σ H, t' D σ H → t D σ H) : PSs X e t' := ⟨fun pins s σ H D I q => h.run pins s σ H D I (i D σ H q)⟩

section
variable {X : Cx} {a b c e : Expr} {es : List Expr} {f g h : Env → Option D} {p q : Env → Option Bool} {fs : Env → Option (List D)} {pos : Pos} {σ : L2.St} {H : Hp} {ρ : Env}
/-! ### names and constants -/
def pVar (i : Nat) : Env → Option D := fun ρ => match ρ[i]? with
  | some (some c) => some c.2
  | _ => none
theorem Sta.var (s : Sta X σ H ρ) {i : Nat} {d : D} (e : pVar i ρ = some d) : ∃ v, σ[i]? = some (some v) ∧ Rep X.K X.mg H d v := by
  obtain ⟨B, W, ts, tc, r, hl⟩ := s
  unfold pVar at e
  split at e
  · rename_i c ec
    cases e
    obtain ⟨v, ev, h⟩ := r.rep (i := tc.length + i) (c := c) (by rw [List.getElem?_append_right (Nat.le_add_right _ _), Nat.add_sub_cancel_left]; exact ec)
    rw [← hl, List.getElem?_append_right (Nat.le_add_right _ _), Nat.add_sub_cancel_left] at ev
    exact ⟨v, ev, h⟩
  · cases e
theorem p_var {i : Nat} (h : PE X a (tVar i)) : PE X a (pS X (pVar i)) := PEi h fun σ H Q ⟨ρ, d, s, e, q⟩ => by
  obtain ⟨v, ev, r⟩ := s.var e
  exact ⟨v, ev, q v r⟩
def pC (d : D) : Env → Option D := fun _ => some d
theorem p_int {i j pos} : PE X (.Constant (.int i) j pos) (pS X (pC (.int i))) := PEi pe_int fun σ H Q ⟨ρ, d, s, e, q⟩ => by cases e; exact q _ rfl
theorem p_bl {i j pos} : PE X (.Constant (.bool i) j pos) (pS X (pC (.bl i))) := PEi pe_bl fun σ H Q ⟨ρ, d, s, e, q⟩ => by cases e; exact q _ rfl
theorem p_non {j pos} : PE X (.Constant .none j pos) (pS X (pC .non)) := PEi pe_non fun σ H Q ⟨ρ, d, s, e, q⟩ => by cases e; exact q _ rfl
theorem p_str {i j pos} : PE X (.Constant (.str i) j pos) (pS X (pC (.str i))) := PEi pe_str fun σ H Q ⟨ρ, d, s, e, q⟩ => by cases e; exact q _ rfl
/-- a global name as a value -/
theorem p_gl {x : Str} {u : Value} {v : V} (hg : Gl X x) (hm : X.mg x = some u) (r : RelV v u) (hd : (x == ("__debug__" : Str)) = false := by decide) : PE X (.Name x pos) (pS X (pC (.gl x))) :=
  PEi (pe_glob hg hm r hd) fun σ H Q ⟨ρ, d, s, e, q⟩ => by cases e; exact q _ ⟨u, hm, r⟩
/-! ### operators on values -/
def pBin (o : D → D → Option D) (f g : Env → Option D) : Env → Option D := fun ρ => (f ρ).bind fun x => (g ρ).bind fun y => o x y
def pUn (o : D → Option D) (f : Env → Option D) : Env → Option D := fun ρ => (f ρ).bind o
/-- an operator's rule, by data -/
def Op2 (X : Cx) (o : D → D → Option D) (r : R2) : Prop := ∀ (H : Hp) (x y z : D) (u v : V) (Q : VK), o x y = some z → Rep X.K X.mg H x u → Rep X.K X.mg H y v → (∀ w, Rep X.K X.mg H z w → Q w H) → r u v H Q
def Op1 (X : Cx) (o : D → Option D) (r : V → Hp → VK → Prop) : Prop := ∀ (H : Hp) (x z : D) (u : V) (Q : VK), o x = some z → Rep X.K X.mg H x u → (∀ w, Rep X.K X.mg H z w → Q w H) → r u H Q
theorem pBin_some {o : D → D → Option D} {z : D} (h : pBin o f g ρ = some z) : ∃ x y, f ρ = some x ∧ g ρ = some y ∧ o x y = some z := by
  unfold pBin at h
  cases ex : f ρ with
  | none => rw [ex] at h; cases h
  | some x =>
    cases ey : g ρ with
    | none => rw [ex, ey] at h; cases h
    | some y => rw [ex, ey] at h; exact ⟨x, y, rfl, rfl, h⟩
theorem pUn_some {o : D → Option D} {z : D} (h : pUn o f ρ = some z) : ∃ x, f ρ = some x ∧ o x = some z := by
  unfold pUn at h
  cases ex : f ρ with
  | none => rw [ex] at h; cases h
  | some x => rw [ex] at h; exact ⟨x, rfl, h⟩
theorem op_imp {o : D → D → Option D} {r : R2} (w : Op2 X o r) {σ : L2.St} {H : Hp} {Q : VK} (h : pS X (pBin o f g) σ H Q) : tOp r (pS X f) (pS X g) σ H Q := by
  obtain ⟨ρ, d, s, e, q⟩ := h
  obtain ⟨x, y, ex, ey, ez⟩ := pBin_some e
  exact ⟨ρ, x, s, ex, fun u hu => ⟨ρ, y, s, ey, fun v hv => w H x y d u v Q ez hu hv q⟩⟩
theorem p_op {op : Operator} {o : D → D → Option D} {r : R2} (ho : OpR X (binaryOp op) r) (w : Op2 X o r) (ha : PE X a (pS X f)) (hb : PE X b (pS X g)) : PE X (.BinOp a op b pos) (pS X (pBin o f g)) :=
  PEi (pe_op ho ha hb) fun σ H Q h => op_imp w h
theorem p_un {op : UnaryOp} {o : D → Option D} {r : V → Hp → VK → Prop} (ho : UnR X (unaryOp op) r) (w : Op1 X o r) (ha : PE X a (pS X f)) : PE X (.UnaryOp op a pos) (pS X (pUn o f)) :=
  PEi (pe_un ho ha) fun σ H Q ⟨ρ, d, s, e, q⟩ => by
    obtain ⟨x, ex, ez⟩ := pUn_some e
    exact ⟨ρ, x, s, ex, fun u hu => w H x d u Q ez hu q⟩
theorem p_cmp {op : CmpOp} {o : D → D → Option D} {r : R2} (ho : OpR X (compareOp op) r) (w : Op2 X o r) (ha : PE X a (pS X f)) (hb : PE X b (pS X g)) (hm : behindInMarks op b = false) : PE X (.Compare a [op] [b] pos) (pS X (pBin o f g)) :=
  PEi (pe_cmpR ho ha hb hm) fun σ H Q h => op_imp w h
theorem p_ix {r : R2} {o : D → D → Option D} (ho : IxR X r) (w : Op2 X o r) (ha : PE X a (pS X f)) (hb : PE X b (pS X g)) (hs : PlainIx b) : PE X (.Subscript a b pos) (pS X (pBin o f g)) :=
  PEi (pe_ix ho ha hb hs) fun σ H Q h => op_imp w h
/-! ### ints -/
def dInt2 (C : Int → Int → Bool) (g : Int → Int → Int) : D → D → Option D
  | .int i, .int j => if C i j then some (.int (g i j)) else none
  | _, _ => none
def dCmp2 (g : Int → Int → Bool) : D → D → Option D
  | .int i, .int j => some (.bl (g i j))
  | _, _ => none
def dInt1 (g : Int → Int) : D → Option D
  | .int i => some (.int (g i))
  | _ => none
theorem w_int2 {C : Int → Int → Bool} {P : Int → Int → Prop} {g : Int → Int → Int} (hC : ∀ i j, C i j = true → P i j) : Op2 X (dInt2 C g) (rI P fun i j => .int (g i j)) := fun H x y z u v Q e hu hv q => by
  cases x <;> cases y <;> first | (cases e; done) | skip
  rename_i i j
  simp only [dInt2] at e
  split at e
  · cases e
    exact ⟨i, j, hu, hv, hC i j (by assumption), q _ rfl⟩
  · cases e
theorem w_int20 {g : Int → Int → Int} : Op2 X (dInt2 (fun _ _ => true) g) (rI0 fun i j => .int (g i j)) := fun H x y z u v Q e hu hv q => by
  cases x <;> cases y <;> first | (cases e; done) | skip
  rename_i i j
  cases e
  exact ⟨i, j, hu, hv, q _ rfl⟩
theorem w_cmp2 {g : Int → Int → Bool} : Op2 X (dCmp2 g) (rI0 fun i j => .bl (g i j)) := fun H x y z u v Q e hu hv q => by
  cases x <;> cases y <;> first | (cases e; done) | skip
  rename_i i j
  cases e
  exact ⟨i, j, hu, hv, q _ rfl⟩
theorem w_int1 {g : Int → Int} : Op1 X (dInt1 g) (rU fun i => .int (g i)) := fun H x z u Q e hu q => by
  cases x <;> first | (cases e; done) | skip
  cases e
  exact ⟨_, hu, q _ rfl⟩
abbrev dAdd := dInt2 (fun _ _ => true) fun i j => i + j
abbrev dSub := dInt2 (fun _ _ => true) fun i j => i - j
def okMul (i j : Int) : Bool := decide (i.natAbs.log2 + j.natAbs.log2 < 1000000)
abbrev dMul := dInt2 okMul fun i j => i * j
abbrev dMod := dInt2 (fun _ j => decide (0 < j)) fun i j => i % j
def okDiv (j : Int) : Bool := decide (j ≠ 0) && decide (j.natAbs.log2 < 9000)
/-- floor division -/
def fd (i j : Int) : Int := if 0 < j then i / j else i.fdiv j
theorem fd_pos {i j : Int} (h : 0 < j) : fd i j = i / j := if_pos h
theorem fd_eq (i j : Int) : fd i j = i.fdiv j := by
  unfold fd
  split
  · rw [Int.fdiv_eq_ediv_of_nonneg i (by omega)]
  · rfl
abbrev dDiv := dInt2 (fun _ j => okDiv j) fd
def okPow (i j : Int) : Bool := decide (0 ≤ j) && decide (j ≤ 1000000) && decide (((i.natAbs.log2 : Nat) + 1 : Int) * j ≤ 2 ^ 27)
abbrev dPow := dInt2 okPow fun i j => i ^ j.toNat
def okShl (i j : Int) : Bool := decide (0 ≤ j) && decide (((i.natAbs.log2 : Nat) + 1 : Int) + j ≤ 2 ^ 27)
abbrev dShl := dInt2 okShl fun i j => i * 2 ^ j.toNat
abbrev dShr := dInt2 (fun _ j => decide (0 ≤ j)) fun i j => i / 2 ^ j.toNat
abbrev dNeg := dInt1 fun i => -i
abbrev dLt := dCmp2 fun i j => decide (i < j)
abbrev dLe := dCmp2 fun i j => decide (i ≤ j)
abbrev dGt := dCmp2 fun i j => decide (j < i)
abbrev dGe := dCmp2 fun i j => decide (j ≤ i)
theorem p_add (ha : PE X a (pS X f)) (hb : PE X b (pS X g)) : PE X (.BinOp a .Add b pos) (pS X (pBin dAdd f g)) := p_op op_add w_int20 ha hb
theorem p_sub (ha : PE X a (pS X f)) (hb : PE X b (pS X g)) : PE X (.BinOp a .Sub b pos) (pS X (pBin dSub f g)) := p_op op_sub w_int20 ha hb
theorem p_mul (ha : PE X a (pS X f)) (hb : PE X b (pS X g)) : PE X (.BinOp a .Mult b pos) (pS X (pBin dMul f g)) := p_op op_mulW (w_int2 fun i j h => of_decide_eq_true (p := i.natAbs.log2 + j.natAbs.log2 < 1000000) h) ha hb
theorem p_mod (ha : PE X a (pS X f)) (hb : PE X b (pS X g)) : PE X (.BinOp a .Mod b pos) (pS X (pBin dMod f g)) := p_op op_mod (w_int2 fun i j h => of_decide_eq_true h) ha hb
theorem op_fdivNW : OpR X (binaryOp .FloorDiv) (rI (fun _ j => j ≠ 0 ∧ j.natAbs.log2 < 9000) fun i j => .int (fd i j)) := opI fun i j _ _ _ _ _ hc q => floordiv_int hc.1 (by rw [← fd_eq]; exact q) (.inl (PyProof.noPylong_of_log2 hc.2))
theorem p_div (ha : PE X a (pS X f)) (hb : PE X b (pS X g)) : PE X (.BinOp a .FloorDiv b pos) (pS X (pBin dDiv f g)) := p_op op_fdivNW (w_int2 fun i j h => by
  unfold okDiv at h
  rw [Bool.and_eq_true] at h
  exact ⟨of_decide_eq_true h.1, of_decide_eq_true h.2⟩) ha hb
theorem okPow_of {i j : Int} (h : okPow i j = true) : 0 ≤ j ∧ (Builtin.Int.intBits i : Int) * j ≤ 2 ^ 27 := by
  unfold okPow at h
  rw [Bool.and_eq_true, Bool.and_eq_true] at h
  have h1 := of_decide_eq_true h.1.1
  have h3 := of_decide_eq_true h.2
  refine ⟨h1, Int.le_trans (Int.mul_le_mul_of_nonneg_right ?_ h1) h3⟩
  have b : Builtin.Int.intBits i ≤ i.natAbs.log2 + 1 := by
    unfold Builtin.Int.intBits
    split <;> omega
  omega
theorem op_powW : OpR X (binaryOp .Pow) (rI (fun i j => okPow i j = true) fun i j => .int (i ^ j.toNat)) := opI fun _ _ _ _ _ _ _ hc q => pow_int (okPow_of hc).1 (okPow_of hc).2 q
theorem p_pow (ha : PE X a (pS X f)) (hb : PE X b (pS X g)) : PE X (.BinOp a .Pow b pos) (pS X (pBin dPow f g)) := p_op op_powW (w_int2 fun i j h => h) ha hb
theorem okShl_of {i j : Int} (h : okShl i j = true) : CShl i j := by
  unfold okShl at h
  rw [Bool.and_eq_true] at h
  have h1 := of_decide_eq_true h.1
  have h3 := of_decide_eq_true h.2
  have b : Builtin.Int.intBits i ≤ i.natAbs.log2 + 1 := by
    unfold Builtin.Int.intBits
    split <;> omega
  exact ⟨h1, by omega⟩
theorem p_shl (ha : PE X a (pS X f)) (hb : PE X b (pS X g)) : PE X (.BinOp a .LShift b pos) (pS X (pBin dShl f g)) := p_op op_shlW (w_int2 fun i j h => okShl_of h) ha hb
theorem p_shr (ha : PE X a (pS X f)) (hb : PE X b (pS X g)) : PE X (.BinOp a .RShift b pos) (pS X (pBin dShr f g)) := p_op op_shr (w_int2 fun i j h => of_decide_eq_true h) ha hb
theorem p_neg (ha : PE X a (pS X f)) : PE X (.UnaryOp .USub a pos) (pS X (pUn dNeg f)) := p_un un_neg w_int1 ha
theorem p_lt (ha : PE X a (pS X f)) (hb : PE X b (pS X g)) : PE X (.Compare a [.Lt] [b] pos) (pS X (pBin dLt f g)) := p_cmp op_lt w_cmp2 ha hb (nomark _)
theorem p_le (ha : PE X a (pS X f)) (hb : PE X b (pS X g)) : PE X (.Compare a [.LtE] [b] pos) (pS X (pBin dLe f g)) := p_cmp op_le w_cmp2 ha hb (nomark _)
theorem p_gt (ha : PE X a (pS X f)) (hb : PE X b (pS X g)) : PE X (.Compare a [.Gt] [b] pos) (pS X (pBin dGt f g)) := p_cmp op_gt w_cmp2 ha hb (nomark _)
theorem p_ge (ha : PE X a (pS X f)) (hb : PE X b (pS X g)) : PE X (.Compare a [.GtE] [b] pos) (pS X (pBin dGe f g)) := p_cmp op_ge w_cmp2 ha hb (nomark _)
end
end Mn

namespace Mn
open PySem PySem.Spec PyProof.Rows L2

mutual
/-- as the library's data, where it has no dict and no global -/
def toP : D → Option PyData
  | .non => some .none
  | .bl b => some (.bool b)
  | .int i => some (.int i)
  | .str x => some (.str x)
  | .lst l => match toPL l with | some ps => some (.list ps) | none => none
  | .tup l => match toPL l with | some ps => some (.tuple ps) | none => none
  | .dct _ => none
  | .gl _ => none
def toPL : List D → Option (List PyData)
  | [] => some []
  | d :: ds => match toP d with
    | some p => match toPL ds with | some ps => some (p :: ps) | none => none
    | none => none
end
section
variable {K : PySem.W.Frag} {mg : Str → Option Value} {H : Hp}
mutual
theorem Rep.dp : ∀ (d : D) (v : V) (p : PyData), Rep K mg H d v → toP d = some p → Dp K H v p
  | .non, _, _, h, e => by cases e; cases (show _ = V.non from h); exact .non
  | .bl b, _, _, h, e => by cases e; cases (show _ = V.bl b from h); exact .bl b
  | .int i, _, _, h, e => by cases e; cases (show _ = V.int i from h); exact .int i
  | .str x, _, _, h, e => by cases e; cases (show _ = V.str x from h); exact .str x
  | .lst l, _, _, h, e => by
    obtain ⟨a, vs, rfl, h1, h2⟩ := h
    simp only [toP] at e
    split at e
    · rename_i ps ep
      cases e
      exact .lst h1.sq (RepL.dp l vs ps h2 ep)
    · cases e
  | .tup l, _, _, h, e => by
    obtain ⟨a, vs, rfl, h1, h2⟩ := h
    simp only [toP] at e
    split at e
    · rename_i ps ep
      cases e
      exact .tup h1 (RepL.dp l vs ps h2 ep)
    · cases e
  | .dct _, _, _, _, e => by cases e
  | .gl _, _, _, _, e => by cases e
theorem RepL.dp : ∀ (l : List D) (vs : List V) (ps : List PyData), RepL K mg H l vs → toPL l = some ps → DpAll K H vs ps
  | [], _, _, h, e => by cases e; cases (show _ = [] from h); exact .nil
  | d :: ds, _, _, h, e => by
    obtain ⟨v, r, rfl, h1, h2⟩ := h
    simp only [toPL] at e
    split at e
    · rename_i p ep
      split at e
      · rename_i ps eps
        cases e
        exact .cons (Rep.dp d v p h1 ep) (RepL.dp ds r ps h2 eps)
      · cases e
    · cases e
end
end
/-- == -/
def dEq : D → D → Option D := fun x y => match toP x, toP y with
  | some p, some q => if SeqAt.shaped p && SeqAt.shaped q then some (.bl (PyData.eqv p q)) else none
  | _, _ => none
def dNe : D → D → Option D := fun x y => match toP x, toP y with
  | some p, some q => if SeqAt.shaped p && SeqAt.shaped q then some (.bl (!PyData.eqv p q)) else none
  | _, _ => none
def dIn : D → D → Option D := fun x y => match toP x, toP y with
  | some p, some (.list q) => if SeqAt.shaped p && SeqAt.shaped (.list q) then some (.bl (q.any fun z => PyData.eqv z p)) else none
  | _, _ => none
def dNotIn : D → D → Option D := fun x y => match toP x, toP y with
  | some p, some (.list q) => if SeqAt.shaped p && SeqAt.shaped (.list q) then some (.bl (!q.any fun z => PyData.eqv z p)) else none
  | _, _ => none
section
variable {X : Cx} {a b c e : Expr} {es : List Expr} {f g h : Env → Option D} {p q : Env → Option Bool} {fs : Env → Option (List D)} {pos : Pos} {σ : L2.St} {H : Hp} {ρ : Env} {rest : List Expr}
theorem w_eq : Op2 X dEq (rEqD X.K) := fun H x y z u v Q e hu hv q => by
  unfold dEq at e
  split at e
  · rename_i px py ex ey
    split at e
    · rename_i hs
      rw [Bool.and_eq_true] at hs
      cases e
      exact ⟨px, py, Rep.dp x u px hu ex, Rep.dp y v py hv ey, hs.1, hs.2, q _ rfl⟩
    · cases e
  · cases e
theorem w_ne : Op2 X dNe (rNeD X.K) := fun H x y z u v Q e hu hv q => by
  unfold dNe at e
  split at e
  · rename_i px py ex ey
    split at e
    · rename_i hs
      rw [Bool.and_eq_true] at hs
      cases e
      exact ⟨px, py, Rep.dp x u px hu ex, Rep.dp y v py hv ey, hs.1, hs.2, q _ rfl⟩
    · cases e
  · cases e
theorem w_in : Op2 X dIn (rInD X.K) := fun H x y z u v Q e hu hv q => by
  unfold dIn at e
  split at e
  · rename_i px py ex ey
    split at e
    · rename_i hs
      rw [Bool.and_eq_true] at hs
      cases e
      exact ⟨px, py, Rep.dp x u px hu ex, Rep.dp y v _ hv ey, hs.1, hs.2, q _ rfl⟩
    · cases e
  · cases e
theorem w_notIn : Op2 X dNotIn (rNotInD X.K) := fun H x y z u v Q e hu hv q => by
  unfold dNotIn at e
  split at e
  · rename_i px py ex ey
    split at e
    · rename_i hs
      rw [Bool.and_eq_true] at hs
      cases e
      exact ⟨px, py, Rep.dp x u px hu ex, Rep.dp y v _ hv ey, hs.1, hs.2, q _ rfl⟩
    · cases e
  · cases e
/-! ### is None -/
def dIsN : D → D → Option D
  | .non, .non => some (.bl true)
  | .gl _, _ => none
  | _, .non => some (.bl false)
  | _, _ => none
def dNotN : D → D → Option D
  | .non, .non => some (.bl false)
  | .gl _, _ => none
  | _, .non => some (.bl true)
  | _, _ => none
theorem Rep.notN {K : PySem.W.Frag} {mg : Str → Option Value} {d : D} {v : V} (h : Rep K mg H d v) (h1 : d ≠ .non) (h2 : ∀ x, d ≠ .gl x) : v ≠ .non := by
  cases d with
  | non => exact (h1 rfl).elim
  | bl _ => cases (show v = _ from h); simp
  | int _ => cases (show v = _ from h); simp
  | str _ => cases (show v = _ from h); simp
  | lst _ => obtain ⟨a, vs, rfl, _⟩ := h; simp
  | tup _ => obtain ⟨a, vs, rfl, _⟩ := h; simp
  | dct _ => obtain ⟨a, vs, rfl, _⟩ := h; simp
  | gl x => exact (h2 x rfl).elim
theorem w_isN : Op2 X dIsN (fun x y H Q => y = .non ∧ Q (.bl (decide (x = .non))) H) := fun H x y z u v Q e hu hv q => by
  by_cases hx : x = .non
  · subst hx
    cases y <;> first | (cases e; done) | skip
    cases e
    cases (show u = V.non from hu)
    exact ⟨hv, q _ rfl⟩
  · have hy : y = .non ∧ z = .bl false ∧ ∀ w, x ≠ .gl w := by
      cases x <;> cases y <;> first | (cases e; done) | (cases e; exact ⟨rfl, rfl, fun w => by simp⟩) | (exact (hx rfl).elim)
    obtain ⟨rfl, rfl, hg⟩ := hy
    exact ⟨hv, by rw [decide_eq_false (Rep.notN hu hx hg)]; exact q _ rfl⟩
theorem w_notN : Op2 X dNotN (fun x y H Q => y = .non ∧ Q (.bl (!decide (x = .non))) H) := fun H x y z u v Q e hu hv q => by
  by_cases hx : x = .non
  · subst hx
    cases y <;> first | (cases e; done) | skip
    cases e
    cases (show u = V.non from hu)
    exact ⟨hv, q _ rfl⟩
  · have hy : y = .non ∧ z = .bl true ∧ ∀ w, x ≠ .gl w := by
      cases x <;> cases y <;> first | (cases e; done) | (cases e; exact ⟨rfl, rfl, fun w => by simp⟩) | (exact (hx rfl).elim)
    obtain ⟨rfl, rfl, hg⟩ := hy
    exact ⟨hv, by rw [decide_eq_false (Rep.notN hu hx hg)]; exact q _ rfl⟩
/-! ### items -/
def dIx : D → D → Option D
  | .lst l, .int i => atI l i
  | .tup l, .int i => atI l i
  | .str z, .int i => if z.length ≤ sizeLine then (match atI z.cps.toList i with | some c => some (.str ⟨#[c]⟩) | none => none) else none
  | _, _ => none
theorem RepL.atI {K : PySem.W.Frag} {mg : Str → Option Value} {l : List D} {vs : List V} {i : Int} {d : D} (h : RepL K mg H l vs) (e : L2.atI l i = some d) : ∃ v, L2.atI vs i = some v ∧ Rep K mg H d v := by
  unfold L2.atI at e ⊢
  rw [h.length]
  cases q : ixN l.length i with
  | none => rw [q] at e; cases e
  | some j =>
    rw [q] at e
    exact h.get e
theorem w_ix : Op2 X dIx (rIx X.K) := fun H x y z u v Q e hu hv q => by
  cases x <;> cases y <;> first | (cases e; done) | skip
  · rename_i z i
    simp only [dIx] at e
    split at e
    · rename_i hz
      split at e
      · rename_i ch ec
        cases e
        exact .inr (.inr ⟨z, i, ch, hu, hv, hz, ec, q _ rfl⟩)
      · cases e
    · cases e
  · rename_i l i
    obtain ⟨a, vs, rfl, h1, h2⟩ := hu
    obtain ⟨w, ew, hw⟩ := h2.atI e
    exact .inl ⟨a, vs, i, w, rfl, hv, h1.sq, ew, q w hw⟩
  · rename_i l i
    obtain ⟨a, vs, rfl, h1, h2⟩ := hu
    obtain ⟨w, ew, hw⟩ := h2.atI e
    exact .inr (.inl ⟨a, vs, i, w, rfl, hv, h1, ew, q w hw⟩)
/-! ### bools -/
def pAnd (f g : Env → Option D) : Env → Option D := fun ρ => match f ρ with
  | some (.bl true) => g ρ
  | some (.bl false) => some (.bl false)
  | _ => none
def pOr (f g : Env → Option D) : Env → Option D := fun ρ => match f ρ with
  | some (.bl false) => g ρ
  | some (.bl true) => some (.bl true)
  | _ => none
theorem p_and (ha : PE X a (pS X f)) (hb : PE X (.BoolOp .And (b :: rest) pos) (pS X g)) : PE X (.BoolOp .And (a :: b :: rest) pos) (pS X (pAnd f g)) :=
  PEi (pe_and ha hb) fun σ H Q ⟨ρ, d, s, e, q⟩ => by
    unfold pAnd at e
    split at e
    · rename_i ef
      exact ⟨ρ, _, s, ef, fun v hv => by cases (show v = V.bl true from hv); exact ⟨true, rfl, iteT ⟨ρ, d, s, e, q⟩⟩⟩
    · rename_i ef
      cases e
      exact ⟨ρ, _, s, ef, fun v hv => by cases (show v = V.bl false from hv); exact ⟨false, rfl, by rw [if_neg (by simp)]; exact q _ rfl⟩⟩
    · cases e
theorem p_or (ha : PE X a (pS X f)) (hb : PE X (.BoolOp .Or (b :: rest) pos) (pS X g)) : PE X (.BoolOp .Or (a :: b :: rest) pos) (pS X (pOr f g)) :=
  PEi (pe_or ha hb) fun σ H Q ⟨ρ, d, s, e, q⟩ => by
    unfold pOr at e
    split at e
    · rename_i ef
      exact ⟨ρ, _, s, ef, fun v hv => by cases (show v = V.bl false from hv); exact ⟨false, rfl, iteF ⟨ρ, d, s, e, q⟩⟩⟩
    · rename_i ef
      cases e
      exact ⟨ρ, _, s, ef, fun v hv => by cases (show v = V.bl true from hv); exact ⟨true, rfl, by rw [if_pos rfl]; exact q _ rfl⟩⟩
    · cases e
theorem p_one {op} (h : PE X a (pS X f)) : PE X (.BoolOp op [a] pos) (pS X f) := pe_one h
def dNot : D → Option D
  | .bl b => some (.bl (!b))
  | _ => none
theorem p_not (ha : PE X a (pS X f)) : PE X (.UnaryOp .Not a pos) (pS X (pUn dNot f)) :=
  PEi (pe_not ha) fun σ H Q ⟨ρ, d, s, e, q⟩ => by
    obtain ⟨x, ex, ez⟩ := pUn_some e
    cases x <;> first | (cases ez; done) | skip
    cases ez
    exact ⟨ρ, _, s, ex, fun v hv => ⟨_, hv, q _ rfl⟩⟩
def pIf (p : Env → Option Bool) (f g : Env → Option D) : Env → Option D := fun ρ => match p ρ with
  | some true => f ρ
  | some false => g ρ
  | none => none
theorem p_if (hc : PT X c (pT X p)) (ha : PE X a (pS X f)) (hb : PE X b (pS X g)) : PE X (.IfExp c a b pos) (pS X (pIf p f g)) :=
  PEi (pe_ifExp hc ha hb) fun σ H Q ⟨ρ, d, s, e, q⟩ => by
    unfold pIf at e
    split at e
    · rename_i ec
      exact ⟨ρ, true, s, ec, iteT ⟨ρ, d, s, e, q⟩⟩
    · rename_i ec
      exact ⟨ρ, false, s, ec, iteF ⟨ρ, d, s, e, q⟩⟩
    · cases e
/-! ### tests -/
/-- a bool's test -/
def pB (f : Env → Option D) : Env → Option Bool := fun ρ => match f ρ with
  | some (.bl b) => some b
  | _ => none
theorem pB_some {f : Env → Option D} {b : Bool} (h : pB f ρ = some b) : f ρ = some (.bl b) := by
  unfold pB at h
  split at h
  · rename_i e; cases h; exact e
  · cases h
theorem t_val (ha : PE X a (pS X f)) (he : ∀ whole, isTrue a X.env whole = (do let v ← whole; standAt a.pos; holding [v] (truthy v)) := by intro _; rfl) : PT X a (pT X (pB f)) :=
  PTi (pt_val ha he) fun σ H Q ⟨ρ, b, s, e, q⟩ => ⟨ρ, _, s, pB_some e, fun v hv => ⟨b, hv, q⟩⟩
theorem t_cmp {op : CmpOp} {o : D → D → Option D} {r : R2} (ho : OpR X (compareOp op) r) (w : Op2 X o r) (ha : PE X a (pS X f)) (hb : PE X b (pS X g)) (hm : behindInMarks op b = false) : PT X (.Compare a [op] [b] pos) (pT X (pB (pBin o f g))) :=
  PTi (pt_cmpR ho ha hb hm) fun σ H Q ⟨ρ, b, s, e, q⟩ => op_imp w ⟨ρ, _, s, pB_some e, fun v hv => ⟨b, hv, q⟩⟩
def dTruth : D → Option Bool
  | .non => some false
  | .bl b => some b
  | .int i => some (i != 0)
  | .str y => if y.length ≤ sizeLine then some ((y.length : Int) != 0) else none
  | .lst l => some (!l.isEmpty)
  | .tup l => some (!l.isEmpty)
  | .dct l => some (!l.isEmpty)
  | .gl _ => none
theorem isEmpty_len {α β : Type} {l : List α} {m : List β} (h : l.length = m.length) : l.isEmpty = m.isEmpty := by
  cases l <;> cases m <;> simp at h ⊢
theorem RepK.length {K : PySem.W.Frag} {mg : Str → Option Value} : ∀ {l : List (Key × D)} {vs : List (Key × V)}, RepK K mg H l vs → vs.length = l.length
  | [], _, h => by cases (show _ = [] from h); rfl
  | _ :: ds, _, h => by
    obtain ⟨v, r, e1, _, h2⟩ := h
    rw [e1, List.length_cons, List.length_cons, RepK.length h2]
theorem dTruth_ok {K : PySem.W.Frag} {mg : Str → Option Value} {d : D} {v : V} {b : Bool} (h : Rep K mg H d v) (e : dTruth d = some b) : TruV K v H b := by
  cases d with
  | non => cases e; cases (show v = _ from h); exact rfl
  | bl _ => cases e; cases (show v = _ from h); exact rfl
  | int _ => cases e; cases (show v = _ from h); exact rfl
  | str y =>
    cases (show v = _ from h)
    simp only [dTruth] at e
    split at e
    · cases e; exact ⟨by assumption, rfl⟩
    · cases e
  | lst l => cases e; obtain ⟨a, vs, rfl, h1, h2⟩ := h; exact .inl ⟨vs, h1.sq, by rw [isEmpty_len h2.length]⟩
  | tup l => cases e; obtain ⟨a, vs, rfl, h1, h2⟩ := h; exact .inr (.inl ⟨vs, h1, by rw [isEmpty_len h2.length]⟩)
  | dct l => cases e; obtain ⟨a, vs, rfl, h1, h2⟩ := h; exact .inr (.inr ⟨vs, h1, by rw [isEmpty_len h2.length]⟩)
  | gl _ => cases e
def pTr (f : Env → Option D) : Env → Option Bool := fun ρ => (f ρ).bind dTruth
theorem pTr_some {f : Env → Option D} {b : Bool} (h : pTr f ρ = some b) : ∃ d, f ρ = some d ∧ dTruth d = some b := by
  unfold pTr at h
  cases e : f ρ with
  | none => rw [e] at h; cases h
  | some d => rw [e] at h; exact ⟨d, rfl, h⟩
theorem t_truth (ha : PE X a (pS X f)) (he : ∀ whole, isTrue a X.env whole = (do let v ← whole; standAt a.pos; holding [v] (truthy v)) := by intro _; rfl) : PT X a (pT X (pTr f)) :=
  PTi (pt_truth ha he) fun σ H Q ⟨ρ, b, s, e, q⟩ => by
    obtain ⟨d, ed, et⟩ := pTr_some e
    exact ⟨ρ, d, s, ed, fun v hv => ⟨b, dTruth_ok hv et, q⟩⟩
def ptAnd (p q : Env → Option Bool) : Env → Option Bool := fun ρ => match p ρ with
  | some true => q ρ
  | some false => some false
  | none => none
def ptOr (p q : Env → Option Bool) : Env → Option Bool := fun ρ => match p ρ with
  | some false => q ρ
  | some true => some true
  | none => none
def ptNot (p : Env → Option Bool) : Env → Option Bool := fun ρ => match p ρ with
  | some b => some (!b)
  | none => none
theorem t_and1 (ha : PT X a (pT X p)) : PW X (.BoolOp .And [a] pos) (pT X p) := pw_and1 ha
theorem t_or1 (ha : PT X a (pT X p)) : PW X (.BoolOp .Or [a] pos) (pT X p) := pw_or1 ha
theorem t_and (ha : PT X a (pT X p)) (hb : PW X (.BoolOp .And (b :: rest) pos) (pT X q)) : PW X (.BoolOp .And (a :: b :: rest) pos) (pT X (ptAnd p q)) :=
  PWi (pw_and ha hb) fun σ H Q ⟨ρ, d, s, e, k⟩ => by
    unfold ptAnd at e
    split at e
    · rename_i ec; exact ⟨ρ, true, s, ec, iteT ⟨ρ, d, s, e, k⟩⟩
    · rename_i ec; cases e; exact ⟨ρ, false, s, ec, iteF k⟩
    · cases e
theorem t_or (ha : PT X a (pT X p)) (hb : PW X (.BoolOp .Or (b :: rest) pos) (pT X q)) : PW X (.BoolOp .Or (a :: b :: rest) pos) (pT X (ptOr p q)) :=
  PWi (pw_or ha hb) fun σ H Q ⟨ρ, d, s, e, k⟩ => by
    unfold ptOr at e
    split at e
    · rename_i ec; exact ⟨ρ, false, s, ec, iteF ⟨ρ, d, s, e, k⟩⟩
    · rename_i ec; cases e; exact ⟨ρ, true, s, ec, iteT k⟩
    · cases e
theorem t_not (ha : PT X a (pT X p)) : PT X (.UnaryOp .Not a pos) (pT X (ptNot p)) :=
  PTi (pt_not ha) fun σ H Q ⟨ρ, d, s, e, k⟩ => by
    unfold ptNot at e
    split at e
    · rename_i ec; cases e; exact ⟨ρ, _, s, ec, k⟩
    · cases e
/-! ### a op b op c -/
def pChain (o o' : D → D → Option D) (f g h : Env → Option D) : Env → Option D := fun ρ => match f ρ, g ρ with
  | some x, some y => match o x y with
    | some (.bl true) => (h ρ).bind fun z => o' y z
    | some (.bl false) => some (.bl false)
    | _ => none
  | _, _ => none
theorem chain_imp {o o' : D → D → Option D} {r r' : R2} (w : Op2 X o r) (w' : Op2 X o' r') {Q : VK} (hq : pS X (pChain o o' f g h) σ H Q) : tChain r r' (pS X f) (pS X g) (pS X h) σ H Q := by
  obtain ⟨ρ, d, s, e, k⟩ := hq
  unfold pChain at e
  split at e
  · rename_i x y ex ey
    refine ⟨ρ, x, s, ex, fun u hu => ⟨ρ, y, s, ey, fun v hv => ?_⟩⟩
    split at e
    · rename_i eo
      refine w H x y _ u v _ eo hu hv fun z hz => ⟨true, hz, ?_⟩
      rw [if_pos rfl]
      cases ez : h ρ with
      | none => rw [ez] at e; cases e
      | some z' => rw [ez] at e; exact ⟨ρ, z', s, ez, fun u' hu' => w' H y z' d v u' Q e hv hu' k⟩
    · rename_i eo
      cases e
      refine w H x y _ u v _ eo hu hv fun z hz => ⟨false, hz, ?_⟩
      rw [if_neg (by simp)]
      exact k _ rfl
    · cases e
  · cases e
theorem p_chain {op op' : CmpOp} {o o' : D → D → Option D} {r r' : R2} (ho : OpR X (compareOp op) r) (ho' : OpR X (compareOp op') r') (w : Op2 X o r) (w' : Op2 X o' r') (ha : PE X a (pS X f)) (hb : PE X b (pS X g)) (hc : PE X c (pS X h))
    (hm : lastMarks [op, op'] [b, c] = false := by with_unfolding_all rfl) : PE X (.Compare a [op, op'] [b, c] pos) (pS X (pChain o o' f g h)) :=
  PEi (pe_chain ho ho' ha hb hc hm) fun σ H Q hq => chain_imp w w' hq
theorem t_chain {op op' : CmpOp} {o o' : D → D → Option D} {r r' : R2} (ho : OpR X (compareOp op) r) (ho' : OpR X (compareOp op') r') (w : Op2 X o r) (w' : Op2 X o' r') (ha : PE X a (pS X f)) (hb : PE X b (pS X g)) (hc : PE X c (pS X h))
    (hm : lastMarks [op, op'] [b, c] = false := by with_unfolding_all rfl) : PT X (.Compare a [op, op'] [b, c] pos) (pT X (pB (pChain o o' f g h))) :=
  PTi (pt_chain ho ho' ha hb hc hm) fun σ H Q ⟨ρ, b, s, e, q⟩ => chain_imp w w' ⟨ρ, _, s, pB_some e, fun v hv => ⟨b, hv, q⟩⟩
/-! ### built-in functions -/
def OpN (X : Cx) (o : List D → Option D) (r : List V → Hp → VK → Prop) : Prop := ∀ (H : Hp) (xs : List D) (z : D) (us : List V) (Q : VK), o xs = some z → RepL X.K X.mg H xs us → (∀ w, Rep X.K X.mg H z w → Q w H) → r us H Q
def pCall (o : List D → Option D) (fs : Env → Option (List D)) : Env → Option D := fun ρ => (fs ρ).bind o
def pNil : Env → Option (List D) := fun _ => some []
def pCons (f : Env → Option D) (fs : Env → Option (List D)) : Env → Option (List D) := fun ρ => (f ρ).bind fun x => (fs ρ).bind fun xs => some (x :: xs)
theorem p_anil : PA X [] (pA X pNil) := PAi pa_nil fun σ H Q ⟨ρ, ds, s, e, q⟩ => by cases e; exact q [] rfl
theorem p_acons (ha : PE X a (pS X f)) (hr : PA X es (pA X fs)) (hs : starEach (a :: es) X.env = (false, eval a X.env) :: starEach es X.env := by rfl) : PA X (a :: es) (pA X (pCons f fs)) :=
  PAi (pa_cons ha hr hs) fun σ H Q ⟨ρ, ds, s, e, q⟩ => by
    unfold pCons at e
    cases ex : f ρ with
    | none => rw [ex] at e; cases e
    | some x =>
      cases ey : fs ρ with
      | none => rw [ex, ey] at e; cases e
      | some xs =>
        rw [ex, ey] at e
        cases e
        exact ⟨ρ, x, s, ex, fun u hu => ⟨ρ, xs, s, ey, fun us hus => q (u :: us) ⟨u, us, rfl, hu, hus⟩⟩⟩
theorem pCall_imp {o : List D → Option D} {r : List V → Hp → VK → Prop} (w : OpN X o r) {Q : VK} (h : pS X (pCall o fs) σ H Q) : tCB r (pA X fs) σ H Q := by
  obtain ⟨ρ, d, s, e, q⟩ := h
  unfold pCall at e
  cases ex : fs ρ with
  | none => rw [ex] at e; cases e
  | some xs => rw [ex] at e; exact ⟨ρ, xs, s, ex, fun us hus => w H xs d us Q e hus q⟩
theorem p_callB {id : String} {o : List D → Option D} {r : List V → Hp → VK → Prop} {x : Str} {p : Pos} (hc : CallR X (.builtin id) r) (w : OpN X o r) (hg : Gl X x) (hm : X.mg x = none) (hv : bootBuiltins x = some (.builtin id)) (ha : PA X (e :: es) (pA X fs)) (hn : x ≠ "__name__" := by decide) (hdb : (x == ("__debug__" : Str)) = false := by decide)
    (he : starEach (e :: es) X.env = (false, eval e X.env) :: starEach es X.env := by rfl) (hpl : (backTo pos (starEach es X.env)).any (·.1) = false := by rfl) : PE X (.Call (.Name x p) (e :: es) [] pos) (pS X (pCall o fs)) :=
  PEi (pe_callB hc hg hm hv ha hn hdb he hpl) fun σ H Q h => pCall_imp w h
theorem p_callTy {T : String} {o : List D → Option D} {r : List V → Hp → VK → Prop} {x : Str} {p : Pos} (hc : CallR X (.type T) r) (w : OpN X o r) (hg : Gl X x) (hm : X.mg x = none) (hv : bootBuiltins x = some (.type T)) (ha : PA X (e :: es) (pA X fs)) (hn : x ≠ "__name__" := by decide) (hdb : (x == ("__debug__" : Str)) = false := by decide)
    (he : starEach (e :: es) X.env = (false, eval e X.env) :: starEach es X.env := by rfl) (hpl : (backTo pos (starEach es X.env)).any (·.1) = false := by rfl) : PE X (.Call (.Name x p) (e :: es) [] pos) (pS X (pCall o fs)) :=
  PEi (pe_callTy hc hg hm hv ha hn hdb he hpl) fun σ H Q h => pCall_imp w h
def dLen : List D → Option D
  | [.lst l] => some (.int l.length)
  | [.tup l] => some (.int l.length)
  | [.str z] => if z.length ≤ sizeLine then some (.int z.length) else none
  | _ => none
theorem repL1 {K : PySem.W.Frag} {mg : Str → Option Value} {x : D} {us : List V} (h : RepL K mg H [x] us) : ∃ u, us = [u] ∧ Rep K mg H x u := by
  obtain ⟨u, r, rfl, h1, h2⟩ := h
  cases (show r = [] from h2)
  exact ⟨u, rfl, h1⟩
theorem repL2 {K : PySem.W.Frag} {mg : Str → Option Value} {x y : D} {us : List V} (h : RepL K mg H [x, y] us) : ∃ u v, us = [u, v] ∧ Rep K mg H x u ∧ Rep K mg H y v := by
  obtain ⟨u, r, rfl, h1, h2⟩ := h
  obtain ⟨v, rfl, h3⟩ := repL1 h2
  exact ⟨u, v, rfl, h1, h3⟩
def rLen (X : Cx) : List V → Hp → VK → Prop := fun xs H Q => (∃ p ys, xs = [.ref p] ∧ (SqL X.K H p ys ∨ SqT X.K H p ys) ∧ Q (.int ys.length) H) ∨ ∃ z, xs = [.str z] ∧ z.length ≤ sizeLine ∧ Q (.int z.length) H
theorem call_lenS : CallR X (.builtin "len") (rLen X) := call_len_seq.or call_len_str
theorem w_len : OpN X dLen (rLen X) := fun H xs z us Q e hu q => by
  unfold dLen at e
  split at e
  · cases e
    obtain ⟨u, rfl, a, vs, rfl, h1, h2⟩ := repL1 hu
    exact .inl ⟨a, vs, rfl, .inl h1.sq, by rw [h2.length]; exact q _ rfl⟩
  · cases e
    obtain ⟨u, rfl, a, vs, rfl, h1, h2⟩ := repL1 hu
    exact .inl ⟨a, vs, rfl, .inr h1, by rw [h2.length]; exact q _ rfl⟩
  · split at e
    · cases e
      obtain ⟨u, rfl, h1⟩ := repL1 hu
      cases (show u = _ from h1)
      exact .inr ⟨_, rfl, by assumption, q _ rfl⟩
    · cases e
  · cases e
def dAbs : List D → Option D
  | [.int i] => some (.int (if i < 0 then -i else i))
  | _ => none
theorem w_abs : OpN X dAbs (fun xs H Q => ∃ i, xs = [.int i] ∧ Q (.int (if i < 0 then -i else i)) H) := fun H xs z us Q e hu q => by
  unfold dAbs at e
  split at e
  · cases e
    obtain ⟨u, rfl, h1⟩ := repL1 hu
    cases (show u = _ from h1)
    exact ⟨_, rfl, q _ rfl⟩
  · cases e
def dMax2 : List D → Option D
  | [.int i, .int j] => some (.int (if j > i then j else i))
  | _ => none
def dMin2 : List D → Option D
  | [.int i, .int j] => some (.int (if j < i then j else i))
  | _ => none
theorem w_max2 : OpN X dMax2 (fun xs H Q => ∃ i j, xs = [.int i, .int j] ∧ Q (.int (if j > i then j else i)) H) := fun H xs z us Q e hu q => by
  unfold dMax2 at e
  split at e
  · cases e
    obtain ⟨u, v, rfl, h1, h2⟩ := repL2 hu
    cases (show u = _ from h1); cases (show v = _ from h2)
    exact ⟨_, _, rfl, q _ rfl⟩
  · cases e
theorem w_min2 : OpN X dMin2 (fun xs H Q => ∃ i j, xs = [.int i, .int j] ∧ Q (.int (if j < i then j else i)) H) := fun H xs z us Q e hu q => by
  unfold dMin2 at e
  split at e
  · cases e
    obtain ⟨u, v, rfl, h1, h2⟩ := repL2 hu
    cases (show u = _ from h1); cases (show v = _ from h2)
    exact ⟨_, _, rfl, q _ rfl⟩
  · cases e
def dInt : List D → Option D
  | [.int i] => some (.int i)
  | [.bl k] => some (.int (if k then 1 else 0))
  | _ => none
theorem w_int : OpN X dInt (fun xs H Q => (∃ i, xs = [.int i] ∧ Q (.int i) H) ∨ ∃ k, xs = [.bl k] ∧ Q (.int (if k then 1 else 0)) H) := fun H xs z us Q e hu q => by
  unfold dInt at e
  split at e
  · cases e
    obtain ⟨u, rfl, h1⟩ := repL1 hu
    cases (show u = _ from h1)
    exact .inl ⟨_, rfl, q _ rfl⟩
  · cases e
    obtain ⟨u, rfl, h1⟩ := repL1 hu
    cases (show u = _ from h1)
    exact .inr ⟨_, rfl, q _ rfl⟩
  · cases e
/-- a list of intsOf -/
def intsOf : List D → Option (List Int)
  | [] => some []
  | .int i :: r => match intsOf r with | some l => some (i :: l) | none => none
  | _ :: _ => none
theorem intsOf_rep {K : PySem.W.Frag} {mg : Str → Option Value} : ∀ {l : List D} {ns : List Int} {vs : List V}, intsOf l = some ns → RepL K mg H l vs → vs = ns.map V.int
  | [], _, _, e, h => by cases e; exact h
  | .int i :: r, ns, vs, e, h => by
    simp only [intsOf] at e
    split at e
    · rename_i m em
      cases e
      obtain ⟨v, r', rfl, h1, h2⟩ := h
      cases (show v = _ from h1)
      rw [intsOf_rep em h2]; rfl
    · cases e
  | .non :: _, _, _, e, _ => by cases e
  | .bl _ :: _, _, _, e, _ => by cases e
  | .str _ :: _, _, _, e, _ => by cases e
  | .lst _ :: _, _, _, e, _ => by cases e
  | .tup _ :: _, _, _, e, _ => by cases e
  | .dct _ :: _, _, _, e, _ => by cases e
  | .gl _ :: _, _, _, e, _ => by cases e
def dSum : List D → Option D
  | [.lst l] => match intsOf l with | some ns => some (.int ns.sum) | none => none
  | _ => none
theorem w_sum : OpN X dSum (rSum X.K) := fun H xs z us Q e hu q => by
  unfold dSum at e
  split at e
  · split at e
    · rename_i ns en
      cases e
      obtain ⟨u, rfl, a, vs, rfl, h1, h2⟩ := repL1 hu
      cases intsOf_rep en h2
      exact ⟨a, ns, rfl, h1.sq, q _ rfl⟩
    · cases e
  · cases e
def dBits : D → Option D
  | .int i => some (.int (Builtin.Int.intBits i : Nat))
  | _ => none
theorem p_bits {apos : Pos} (ha : PE X a (pS X f)) (hbase : attributeBase a "bit_length" X.env (eval a X.env) = eval a X.env := by rfl) (hline : (apos.endLine == pos.line) = true := by rfl) : PE X (.Call (.Attribute a "bit_length" apos) [] [] pos) (pS X (pUn dBits f)) :=
  PEi (pe_bits ha hbase hline) fun σ H Q ⟨ρ, d, s, e, q⟩ => by
    obtain ⟨x, ex, ez⟩ := pUn_some e
    cases x <;> first | (cases ez; done) | skip
    cases ez
    exact ⟨ρ, _, s, ex, fun v hv => ⟨_, hv, q _ rfl⟩⟩
/-! ### isinstance of built-in types -/
def tyNm : D → Option String
  | .non => some "NoneType"
  | .bl _ => some "bool"
  | .int _ => some "int"
  | .str _ => some "str"
  | .lst _ => some "list"
  | .tup _ => some "tuple"
  | .dct _ => some "dict"
  | .gl _ => none
theorem tyNm_ok {K : PySem.W.Frag} {mg : Str → Option Value} {d : D} {v : V} {n : String} (h : Rep K mg H d v) (e : tyNm d = some n) : TyX K H v (.type n) := by
  cases d with
  | non => cases e; cases (show v = _ from h); exact .base .non
  | bl b => cases e; cases (show v = _ from h); exact .base (.bl b)
  | int i => cases e; cases (show v = _ from h); exact .base (.int i)
  | str i => cases e; cases (show v = _ from h); exact .base (.str i)
  | lst l =>
    cases e
    obtain ⟨a, vs, rfl, h1, _⟩ := h
    rcases h1.sq with (h1 | ⟨o, h1⟩) | ⟨o, its, n, h1, h2, _⟩
    · exact .base (.lst h1)
    · exact .base (.frz h1)
    · exact .kList h1 h2
  | tup l =>
    cases e
    obtain ⟨a, vs, rfl, h1, _⟩ := h
    rcases h1 with (h1 | ⟨o, h1⟩) | ⟨o, its, n, h1, h2, _⟩
    · exact .base (.tup h1)
    · exact .fTuple h1
    · exact .kTuple h1 h2
  | dct l => cases e; obtain ⟨a, vs, rfl, h1, _⟩ := h; exact .base (.dK h1)
  | gl _ => cases e
/-- is a value of the type with the name n of the type T -/
def isTy (n T : String) : Bool := n == T || (n == "bool" && T == "int")
theorem kit_isTy : ∀ n ∈ ["NoneType", "bool", "int", "str", "list", "tuple", "dict"], ∀ T ∈ ["bool", "int", "str", "list", "tuple", "dict"], kitB n T = some (isTy n T) := by decide +kernel
def dIsi (T : String) : D → Option D := fun d => match tyNm d with | some n => some (.bl (isTy n T)) | none => none
theorem tyNm_mem {d : D} {n : String} (e : tyNm d = some n) : n ∈ ["NoneType", "bool", "int", "str", "list", "tuple", "dict"] := by
  cases d <;> cases e <;> simp
theorem p_isi {T : String} {x y : Str} {p p2 : Pos} (hT : T ∈ ["bool", "int", "str", "list", "tuple", "dict"]) (ha : PE X a (pS X f)) (hg : Gl X x) (hm : X.mg x = none) (hv : bootBuiltins x = some (.builtin "isinstance")) (hg2 : Gl X y) (hm2 : X.mg y = none) (hv2 : bootBuiltins y = some (.type T))
    (hn : x ≠ "__name__" := by decide) (hdb : (x == ("__debug__" : Str)) = false := by decide) (hn2 : y ≠ "__name__" := by decide) (hdb2 : (y == ("__debug__" : Str)) = false := by decide)
    (he : starEach (a :: [.Name y p2]) X.env = (false, eval a X.env) :: starEach [.Name y p2] X.env := by rfl) (hpl : (backTo pos (starEach [.Name y p2] X.env)).any (·.1) = false := by rfl) (hs : starEach [.Name y p2] X.env = (false, eval (.Name y p2) X.env) :: starEach [] X.env := by rfl) :
    PE X (.Call (.Name x p) [a, .Name y p2] [] pos) (pS X (pUn (dIsi T) f)) :=
  PEi (pe_callB call_isi hg hm hv (pa_cons ha (pa_cons (pe_bltn (v := V.ty T) hg2 hm2 hv2 rfl hn2 hdb2) pa_nil hs) he) hn hdb he hpl) fun σ H Q ⟨ρ, d, s, e, q⟩ => by
    obtain ⟨z, ex, ez⟩ := pUn_some e
    unfold dIsi at ez
    split at ez
    · rename_i n en
      cases ez
      refine ⟨ρ, z, s, ex, fun v hv => ⟨v, V.ty T, .type n, .type T, isTy n T, rfl, .ty T, tyNm_ok hv en, kit_ty (kit_isTy n (tyNm_mem en) T hT), q _ rfl⟩⟩
    · cases ez
end
end Mn

namespace Mn
open PySem PySem.Spec PyProof.Rows L2

theorem get_app {α : Type} {tc ρ : List α} {i : Nat} : (tc ++ ρ)[tc.length + i]? = ρ[i]? := by rw [List.getElem?_append_right (Nat.le_add_right _ _), Nat.add_sub_cancel_left]
theorem set_app {α : Type} {x : α} : ∀ {tc ρ : List α} {i : Nat}, (tc ++ ρ).set (tc.length + i) x = tc ++ ρ.set i x
  | [], ρ, i => by simp
  | a :: r, ρ, i => by
    show (a :: (r ++ ρ)).set (r.length + 1 + i) x = a :: (r ++ ρ.set i x)
    rw [show r.length + 1 + i = (r.length + i) + 1 by omega, List.set_cons_succ, set_app]
section
variable {K : PySem.W.Frag} {mg : Str → Option Value} {W W' H H' B : Hp} {vs : List (Option V)} {cs : List (Option Cell)} {v : V} {ov : Option V} {oc : Option Cell} {k k' : Nat} {d : D} {c : Cell}
/-- the head to fewer levels (a scalar to any) -/
def fit (k : Nat) (c : Cell) : Bool := decide (k ≤ c.1) || c.2.sc
theorem R.fit (r : R K mg B W H (ov :: vs) (some c :: cs)) (h : fit k c = true) : ∃ W', Gr B W W' ∧ R K mg B W' H (ov :: vs) (some (k, c.2) :: cs) := by
  unfold Mn.fit at h
  rw [Bool.or_eq_true] at h
  rcases h with h | h
  · obtain ⟨W', g, r'⟩ := r.down (i := 0) (k := c.1) (k' := k) (d := c.2) rfl (of_decide_eq_true h)
    exact ⟨W', g, r'⟩
  · obtain ⟨T, ⟨F, G, ⟨u, e, h1⟩, h2, h3⟩, hT⟩ := r.ex
    exact ⟨W, Gr.refl B W, r.sw, r.sb, T, ⟨F, G, ⟨u, e, Own.scal h h1⟩, h2, h3⟩, hT⟩
/-- a cell becomes the head, the slot is left empty -/
theorem R.take (r : R K mg B W H vs cs) {i : Nat} (e : cs[i]? = some (some c)) : ∃ v, vs[i]? = some (some v) ∧ R K mg B W H (some v :: vs) (some c :: cs.set i none) := by
  obtain ⟨T, h, hT⟩ := r.ex
  obtain ⟨v, F, G, ev, ⟨u, eu, ho⟩, h3, put⟩ := h.focus e
  have p := put W H v none (fun _ => 0) (Same.refl W) (fun _ _ => rfl) fun _ => rfl
  rw [set_self ev] at p
  exact ⟨u, by rw [ev, eu], r.sw, r.sb, fun b => F b + (0 + G b), ⟨F, _, ⟨u, rfl, ho⟩, p, fun _ => rfl⟩, fun b => ⟨by have := (hT b).1; have := h3 b; show F b + (0 + G b) ≤ 1; omega, fun hb => (hT b).2 (by have := h3 b; have : F b + (0 + G b) ≠ 0 := hb; omega)⟩⟩
/-- an empty cell holds nothing: any value may stand there -/
theorem R.reslot (r : R K mg B W H vs cs) {vs' : List (Option V)} (hl : vs'.length = vs.length) (h : ∀ (i : Nat) (c : Cell), cs[i]? = some (some c) → vs'[i]? = vs[i]?) : R K mg B W H vs' cs := by
  obtain ⟨T, h1, hT⟩ := r.ex
  refine ⟨r.sw, r.sb, T, ?_, hT⟩
  clear hT r
  induction cs generalizing vs vs' T with
  | nil =>
    cases vs with
    | nil => cases vs' with
      | nil => exact h1
      | cons _ _ => simp at hl
    | cons _ _ => exact h1.elim
  | cons c cs ih =>
    cases vs with
    | nil => exact h1.elim
    | cons v vs =>
      cases vs' with
      | nil => simp at hl
      | cons v' vs' =>
        obtain ⟨F, G, p1, p2, p3⟩ := h1
        refine ⟨F, G, ?_, ih (by simpa using hl) (fun i c e => by simpa using h (i + 1) c (by simpa using e)) G p2, p3⟩
        cases c with
        | none => exact p1
        | some c =>
          have := h 0 c rfl
          simp at this
          rw [this]; exact p1
/-- a call that changes nothing that was there: what it hands back is put beside the state -/
theorem R.called {W1 H1 : Hp} (r : R K mg B W H vs cs) (g : Gr H W W1) (r1 : R K mg H W1 H1 [some v] [some c]) : Gr B W W1 ∧ R K mg B W1 H1 (some v :: vs) (some c :: cs) := by
  obtain ⟨T, h, hT⟩ := r.ex
  obtain ⟨T1, ⟨F, G, h1, h2, h3⟩, hT1⟩ := r1.ex
  have hG : ∀ b, G b = 0 := h2
  have hf : ∀ b, F b ≠ 0 → H b = none := fun b hb => ((hT1 b).2 (by have := h3 b; omega)).2
  have nb : ∀ a, H a = none → B a = none := fun a ha => by
    cases q : B a with
    | none => rfl
    | some o => rw [r.sb a o q] at ha; cases ha
  have ht : ∀ a, T a ≠ 0 → H1 a = H a := fun a ha => by
    cases q : H a with
    | none => exact absurd q (h.there a ha)
    | some o => exact r1.sb a o q
  refine ⟨⟨g.sm, fun a e n => nb a (g.nb a e n)⟩, r1.sw, r.sb.trans r1.sb, fun b => F b + T b, ⟨F, T, h1, h.mono g.sm ht, fun _ => rfl⟩, fun b => ?_⟩
  by_cases hb : F b = 0
  · refine ⟨by have := (hT b).1; show F b + T b ≤ 1; omega, fun hn => ?_⟩
    have hn' : T b ≠ 0 := by have : F b + T b ≠ 0 := hn; omega
    refine ⟨?_, ((hT b).2 hn').2⟩
    cases q : W1 b with
    | none => rfl
    | some o => exact absurd (g.nb b ((hT b).2 hn').1 (by rw [q]; simp)) (h.there b hn')
  · have ht0 : T b = 0 := by
      by_cases z : T b = 0
      · exact z
      · exact absurd (hf b hb) (h.there b z)
    exact ⟨by have := (hT1 b).1; have := h3 b; have := hG b; show F b + T b ≤ 1; omega, fun _ => ⟨((hT1 b).2 (by have := h3 b; omega)).1, nb b (hf b hb)⟩⟩
/-- .. that changes one cell's object too -/
theorem R.calledI (r : R K mg B W H vs cs) {i : Nat} (e : cs[i]? = some (some c)) : ∃ v0 B1, vs[i]? = some (some v0) ∧ R K mg B1 W H [some v0] [some c] ∧
    ∀ (W1 H1 : Hp) (v : V) (c1 c2 : Cell), Gr B1 W W1 → R K mg B1 W1 H1 [some v, some v0] [some c1, some c2] → Gr B W W1 ∧ R K mg B W1 H1 (some v :: vs) (some c1 :: cs.set i (some c2)) := by
  obtain ⟨T, h, hT⟩ := r.ex
  have hth := h.there
  obtain ⟨ov, F, G, ev, ⟨u, eu, ho⟩, h3, put⟩ := h.focus e
  have hF1 : ∀ b, F b ≤ 1 := fun b => by have := (hT b).1; have := h3 b; omega
  let B1 : Hp := fun b => if F b = 0 then H b else none
  have b1 : ∀ b, F b = 0 → B1 b = H b := fun b hb => if_pos hb
  have b2 : ∀ b, F b ≠ 0 → B1 b = none := fun b hb => if_neg hb
  refine ⟨u, B1, by rw [ev, eu], ⟨r.sw, fun b o q => ?_, F, ⟨F, fun _ => 0, ⟨u, rfl, ho⟩, fun _ => rfl, fun _ => rfl⟩, fun b => ⟨hF1 b, fun hb => ⟨((hT b).2 (by have := h3 b; omega)).1, b2 b hb⟩⟩⟩, fun W1 H1 v c1 c2 g r1 => ?_⟩
  · by_cases z : F b = 0
    · rw [b1 b z] at q; exact q
    · rw [b2 b z] at q; cases q
  obtain ⟨T1, ⟨F1, G1, p1, ⟨F2, G2, p2, p3, p4⟩, p5⟩, hT1⟩ := r1.ex
  have hG2 : ∀ b, G2 b = 0 := p3
  have nb : ∀ a, B1 a = none → B a = none := fun a ha => by
    by_cases z : F a = 0
    · rw [b1 a z] at ha
      cases q : B a with
      | none => rfl
      | some o => rw [r.sb a o q] at ha; cases ha
    · exact ((hT a).2 (by have := h3 a; omega)).2
  have keep : ∀ a, G a ≠ 0 → B1 a = H a ∧ H a ≠ none := fun a ha => by
    have z : F a = 0 := by have := (hT a).1; have := h3 a; omega
    exact ⟨b1 a z, hth a (by have := h3 a; omega)⟩
  have hg : ∀ a, G a ≠ 0 → H1 a = H a := fun a ha => by
    obtain ⟨q1, q2⟩ := keep a ha
    cases q : H a with
    | none => exact absurd q q2
    | some o => exact r1.sb a o (by rw [q1, q])
  have sbB : Same B H1 := fun a o q => by
    by_cases z : F a = 0
    · exact r1.sb a o (by rw [b1 a z]; exact r.sb a o q)
    · rw [((hT a).2 (by have := h3 a; omega)).2] at q; cases q
  have c' := put W1 H1 (some u) (some c2) F2 g.sm hg p2
  rw [eu] at ev
  rw [set_self ev] at c'
  refine ⟨⟨g.sm, fun a e n => nb a (g.nb a e n)⟩, r1.sw, sbB, fun b => F1 b + (F2 b + G b), ⟨F1, _, p1, c', fun _ => rfl⟩, fun b => ?_⟩
  have hb5 := p5 b
  have hb4 := p4 b
  have hg2 := hG2 b
  have ht1 := (hT1 b).1
  by_cases hb : G b = 0
  · refine ⟨by show F1 b + (F2 b + G b) ≤ 1; omega, fun hn => ?_⟩
    have : F1 b + (F2 b + G b) ≠ 0 := hn
    obtain ⟨q1, q2⟩ := (hT1 b).2 (by omega)
    exact ⟨q1, nb b q2⟩
  · obtain ⟨q1, q2⟩ := keep b hb
    have z : T1 b = 0 := by
      by_cases z : T1 b = 0
      · exact z
      · exact absurd (q1.symm.trans ((hT1 b).2 z).2) q2
    refine ⟨by have := (hT b).1; have := h3 b; show F1 b + (F2 b + G b) ≤ 1; omega, fun _ => ?_⟩
    have hTb := (hT b).2 (by have := h3 b; omega)
    refine ⟨?_, hTb.2⟩
    cases q : W1 b with
    | none => rfl
    | some o => exact absurd (q1.symm.trans (g.nb b hTb.1 (by rw [q]; simp))) q2
end

section
variable {X : Cx} {a b c e : Expr} {es : List Expr} {f g : Env → Option D} {p : Env → Option Bool} {m n : Env → Option (Cell × Env)} {ms : Env → Option (List D × Env)} {pos : Pos} {σ : L2.St} {H : Hp} {ρ : Env} {k : Nat}
/-! ### expressions -/
/-- a pure expression whose value is a scalar -/
def mP (f : Env → Option D) : Env → Option (Cell × Env) := fun ρ => match f ρ with
  | some d => if d.sc then some ((0, d), ρ) else none
  | none => none
theorem g_p (h : PE X e (pS X f)) : PE X e (gS X (mP f)) := PEi h fun σ H Q ⟨B, W, ts, tc, ρ, cl, ρ', r, hl, em, q⟩ => by
  unfold mP at em
  split at em
  · rename_i d ed
    split at em
    · rename_i hs
      cases em
      exact ⟨ρ, d, ⟨B, W, ts, tc, r, hl⟩, ed, fun v hv => q W H v (Gr.refl B W) (r.pushS hs hv)⟩
    · cases em
  · cases em
/-- a name, shared from now on -/
def mSh (i : Nat) : Env → Option (Cell × Env) := fun ρ => match ρ[i]? with
  | some (some c) => some ((0, c.2), ρ.set i (some (0, c.2)))
  | _ => none
theorem g_sh {i : Nat} (h : PE X e (tVar i)) : PE X e (gS X (mSh i)) := PEi h fun σ H Q ⟨B, W, ts, tc, ρ, cl, ρ', r, hl, em, q⟩ => by
  unfold mSh at em
  split at em
  · rename_i c ec
    cases em
    obtain ⟨W', g, r'⟩ := r.down (i := tc.length + i) (k := c.1) (k' := 0) (d := c.2) (by rw [get_app]; exact ec) (Nat.zero_le _)
    rw [set_app] at r'
    have ei : (ρ.set i (some ((0, c.2) : Cell)))[i]? = some (some (0, c.2)) := by
      rw [List.getElem?_set_self (List.getElem?_eq_some_iff.mp ec).1]
    obtain ⟨v, ev, hv⟩ := r'.rep0 (i := tc.length + i) (d := c.2) (by rw [get_app]; exact ei)
    rw [← hl, get_app] at ev
    exact ⟨v, ev, q W' H v g (r'.push0 hv)⟩
  · cases em
/-- a name, for the last time -/
def mMv (i : Nat) : Env → Option (Cell × Env) := fun ρ => match ρ[i]? with
  | some (some c) => some (c, ρ.set i none)
  | _ => none
theorem g_mv {i : Nat} (h : PE X e (tVar i)) : PE X e (gS X (mMv i)) := PEi h fun σ H Q ⟨B, W, ts, tc, ρ, cl, ρ', r, hl, em, q⟩ => by
  unfold mMv at em
  split at em
  · rename_i c ec
    cases em
    obtain ⟨v, ev, r'⟩ := r.take (i := tc.length + i) (c := cl) (by rw [get_app]; exact ec)
    rw [set_app] at r'
    rw [← hl, get_app] at ev
    exact ⟨v, ev, q W H v (Gr.refl B W) r'⟩
  · cases em
/-- expressions over what is shared already: their values stay -/
def wS (X : Cx) (f : Env → Option D) : TE := fun σ H Q => ∃ (B W : Hp) (ts : List (Option V)) (tc : List (Option Cell)) (ρ : Env) (d : D), R X.K X.mg B W H (ts ++ σ) (tc ++ ρ) ∧ ts.length = tc.length ∧ f ρ = some d ∧ ∀ v, Rep X.K X.mg W d v → Q v H
def wVar (i : Nat) : Env → Option D := fun ρ => match ρ[i]? with
  | some (some (0, d)) => some d
  | _ => none
theorem w_var {i : Nat} (h : PE X e (tVar i)) : PE X e (wS X (wVar i)) := PEi h fun σ H Q ⟨B, W, ts, tc, ρ, d, r, hl, em, q⟩ => by
  unfold wVar at em
  split at em
  · rename_i d' ec
    cases em
    obtain ⟨v, ev, hv⟩ := r.rep0 (i := tc.length + i) (d := d) (by rw [get_app]; exact ec)
    rw [← hl, get_app] at ev
    exact ⟨v, ev, q v hv⟩
  · cases em
/-- a scalar stays too -/
def wP (f : Env → Option D) : Env → Option D := fun ρ => match f ρ with
  | some d => if d.sc then some d else none
  | none => none
theorem w_p (h : PE X e (pS X f)) : PE X e (wS X (wP f)) := PEi h fun σ H Q ⟨B, W, ts, tc, ρ, d, r, hl, em, q⟩ => by
  unfold wP at em
  split at em
  · rename_i d' ed
    split at em
    · rename_i hs
      cases em
      exact ⟨ρ, d, ⟨B, W, ts, tc, r, hl⟩, ed, fun v hv => q v (Rep.scalar hs hv)⟩
    · cases em
  · cases em
def dIxL : D → D → Option D
  | .lst l, .int i => atI l i
  | .tup l, .int i => atI l i
  | _, _ => none
theorem w_ixw (ha : PE X a (wS X f)) (hb : PE X b (pS X g)) (hs : PlainIx b) : PE X (.Subscript a b pos) (wS X (pBin dIxL f g)) :=
  PEi (pe_ix ix_seq ha hb hs) fun σ H Q ⟨B, W, ts, tc, ρ, d, r, hl, e, q⟩ => by
    obtain ⟨x, y, ex, ey, ez⟩ := pBin_some e
    refine ⟨B, W, ts, tc, ρ, x, r, hl, ex, fun u hu => ⟨ρ, y, ⟨B, W, ts, tc, r, hl⟩, ey, fun v hv => ?_⟩⟩
    cases x <;> cases y <;> first | (cases ez; done) | skip
    · rename_i l i
      obtain ⟨a, vs, rfl, h1, h2⟩ := hu
      obtain ⟨w, ew, hw⟩ := h2.atI ez
      exact .inl ⟨a, vs, i, w, rfl, hv, r.sw.seq h1.sq, ew, q w hw⟩
    · rename_i l i
      obtain ⟨a, vs, rfl, h1, h2⟩ := hu
      obtain ⟨w, ew, hw⟩ := h2.atI ez
      exact .inr (.inl ⟨a, vs, i, w, rfl, hv, Same.seqT r.sw h1, ew, q w hw⟩)
theorem w_ifw {c : Expr} (hc : PT X c (pT X p)) (ha : PE X a (wS X f)) (hb : PE X b (wS X g)) : PE X (.IfExp c a b pos) (wS X (pIf p f g)) :=
  PEi (pe_ifExp hc ha hb) fun σ H Q ⟨B, W, ts, tc, ρ, d, r, hl, e, q⟩ => by
    unfold pIf at e
    split at e
    · rename_i ec
      exact ⟨ρ, true, ⟨B, W, ts, tc, r, hl⟩, ec, iteT ⟨B, W, ts, tc, ρ, d, r, hl, e, q⟩⟩
    · rename_i ec
      exact ⟨ρ, false, ⟨B, W, ts, tc, r, hl⟩, ec, iteF ⟨B, W, ts, tc, ρ, d, r, hl, e, q⟩⟩
    · cases e
def mW (f : Env → Option D) : Env → Option (Cell × Env) := fun ρ => match f ρ with
  | some d => some ((0, d), ρ)
  | none => none
theorem g_w (h : PE X e (wS X f)) : PE X e (gS X (mW f)) := PEi h fun σ H Q ⟨B, W, ts, tc, ρ, cl, ρ', r, hl, em, q⟩ => by
  unfold mW at em
  split at em
  · rename_i d ed
    cases em
    exact ⟨B, W, ts, tc, ρ, d, r, hl, ed, fun v hv => q W H v (Gr.refl B W) (r.push0 hv)⟩
  · cases em
/-! ### several -/
def mNil : Env → Option (List D × Env) := fun ρ => some ([], ρ)
def mCons (k : Nat) (m : Env → Option (Cell × Env)) (ms : Env → Option (List D × Env)) : Env → Option (List D × Env) := fun ρ => match m ρ with
  | some (c, ρ1) => if fit k c then (match ms ρ1 with
    | some (ds, ρ2) => some (c.2 :: ds, ρ2)
    | none => none) else none
  | none => none
theorem g_anil : PA X [] (gA X k mNil) := PAi pa_nil fun σ H Q ⟨B, W, ts, tc, ρ, ds, ρ', r, hl, e, q⟩ => by
  cases e
  exact q W H [] (Gr.refl B W) (RL.nil r)
theorem g_acons (ha : PE X a (gS X m)) (hr : PA X es (gA X k ms)) (hs : starEach (a :: es) X.env = (false, eval a X.env) :: starEach es X.env := by rfl) : PA X (a :: es) (gA X k (mCons k m ms)) :=
  PAi (pa_cons ha hr hs) fun σ H Q ⟨B, W, ts, tc, ρ, ds, ρ', r, hl, e, q⟩ => by
    unfold mCons at e
    split at e
    · rename_i c ρ1 em
      split at e
      · rename_i hf
        split at e
        · rename_i ds' ρ2 ems
          cases e
          refine ⟨B, W, ts, tc, ρ, c, ρ1, r, hl, em, fun W1 H1 v g1 r1 => ?_⟩
          obtain ⟨W2, g2, r2⟩ := R.fit (k := k) r1 hf
          refine ⟨B, W2, some v :: ts, some (k, c.2) :: tc, ρ1, ds', ρ', r2, by simp [hl], ems, fun W3 H3 vs g3 r3 => ?_⟩
          exact q W3 H3 (v :: vs) ((g1.trans g2).trans g3) (RL.cons r3)
        · cases e
      · cases e
    · cases e
def mLst (k : Nat) (ms : Env → Option (List D × Env)) : Env → Option (Cell × Env) := fun ρ => match ms ρ with
  | some (ds, ρ') => if ds.length ≤ sizeLine then some ((k + 1, .lst ds), ρ') else none
  | none => none
def mTup (k : Nat) (ms : Env → Option (List D × Env)) : Env → Option (Cell × Env) := fun ρ => match ms ρ with
  | some (ds, ρ') => if ds.length ≤ sizeLine then some ((k + 1, .tup ds), ρ') else none
  | none => none
theorem RL.length {K : PySem.W.Frag} {mg : Str → Option Value} {B W H : Hp} {ds : List D} {xs : List V} {vs : List (Option V)} {cs : List (Option Cell)} (r : RL K mg B W H k ds xs vs cs) : xs.length = ds.length := by
  obtain ⟨T, G, h2, h4, hT⟩ := r.ex
  exact h4.length
theorem g_lst (h : PA X es (gA X k ms)) : PE X (.List es pos) (gS X (mLst k ms)) := PEi (pe_lst h) fun σ H Q ⟨B, W, ts, tc, ρ, cl, ρ', r, hl, e, q⟩ => by
  unfold mLst at e
  split at e
  · rename_i ds ρ1 em
    split at e
    · rename_i hz
      cases e
      exact ⟨B, W, ts, tc, ρ, ds, _, r, hl, em, fun W1 H1 xs g1 r1 => ⟨by rw [RL.length r1]; exact hz, fun p np => q W1 _ _ g1 (RL.lst r1 np)⟩⟩
    · cases e
  · cases e
theorem g_tup {x1} (h : PA X es (gA X k ms)) : PE X (.Tuple es x1 pos) (gS X (mTup k ms)) := PEi (pe_tup h) fun σ H Q ⟨B, W, ts, tc, ρ, cl, ρ', r, hl, e, q⟩ => by
  unfold mTup at e
  split at e
  · rename_i ds ρ1 em
    split at e
    · rename_i hz
      cases e
      exact ⟨B, W, ts, tc, ρ, ds, _, r, hl, em, fun W1 H1 xs g1 r1 => ⟨by rw [RL.length r1]; exact hz, fun p np => q W1 _ _ g1 (RL.tup r1 np)⟩⟩
    · cases e
  · cases e
/-! ### operators whose sides do things -/
/-- both sides shared, then the operator on values -/
def mBin (o : D → D → Option D) (m n : Env → Option (Cell × Env)) : Env → Option (Cell × Env) := fun ρ => match m ρ with
  | some (c, ρ1) => (match n ρ1 with
    | some (c', ρ2) => (match o c.2 c'.2 with
      | some d => if d.sc then some ((0, d), ρ2) else none
      | none => none)
    | none => none)
  | none => none
theorem mBin_imp {o : D → D → Option D} {r : R2} (w : Op2 X o r) {Q : VK} (h : gS X (mBin o m n) σ H Q) : tOp r (gS X m) (gS X n) σ H Q := by
  obtain ⟨B, W, ts, tc, ρ, cl, ρ', r, hl, e, q⟩ := h
  unfold mBin at e
  split at e
  · rename_i c ρ1 em
    split at e
    · rename_i c' ρ2 en
      split at e
      · rename_i d ed
        split at e
        · rename_i hs
          cases e
          refine ⟨B, W, ts, tc, ρ, c, ρ1, r, hl, em, fun W1 H1 u g1 r1 => ?_⟩
          obtain ⟨W2, g2, r2, hu⟩ := R.pop r1
          refine ⟨B, W2, ts, tc, ρ1, c', ρ', r2, hl, en, fun W3 H3 v g3 r3 => ?_⟩
          obtain ⟨W4, g4, r4, hv⟩ := R.pop r3
          refine w H3 c.2 c'.2 d u v Q ed (Rep.mono (g3.sm.trans (g4.sm.trans r4.sw)) _ _ hu) (Rep.mono r4.sw _ _ hv) fun z hz => q W4 H3 z (((g1.trans g2).trans g3).trans g4) (r4.pushS hs hz)
        · cases e
      · cases e
    · cases e
  · cases e
theorem g_op {op : Operator} {o : D → D → Option D} {r : R2} (ho : OpR X (binaryOp op) r) (w : Op2 X o r) (ha : PE X a (gS X m)) (hb : PE X b (gS X n)) : PE X (.BinOp a op b pos) (gS X (mBin o m n)) :=
  PEi (pe_op ho ha hb) fun σ H Q h => mBin_imp w h
theorem g_cmp {op : CmpOp} {o : D → D → Option D} {r : R2} (ho : OpR X (compareOp op) r) (w : Op2 X o r) (ha : PE X a (gS X m)) (hb : PE X b (gS X n)) (hm : behindInMarks op b = false) : PE X (.Compare a [op] [b] pos) (gS X (mBin o m n)) :=
  PEi (pe_cmpR ho ha hb hm) fun σ H Q h => mBin_imp w h
/-- an item of what has just been made, a scalar or a shared one -/
def mIx (m n : Env → Option (Cell × Env)) : Env → Option (Cell × Env) := fun ρ => match m ρ with
  | some (c, ρ1) => (match n ρ1 with
    | some (c', ρ2) => (match dIxL c.2 c'.2 with
      | some d => some ((0, d), ρ2)
      | none => none)
    | none => none)
  | none => none
theorem g_ix (ha : PE X a (gS X m)) (hb : PE X b (gS X n)) (hs : PlainIx b) : PE X (.Subscript a b pos) (gS X (mIx m n)) :=
  PEi (pe_ix ix_seq ha hb hs) fun σ H Q ⟨B, W, ts, tc, ρ, cl, ρ', r, hl, e, q⟩ => by
    unfold mIx at e
    split at e
    · rename_i c ρ1 em
      split at e
      · rename_i c' ρ2 en
        split at e
        · rename_i d ed
          cases e
          refine ⟨B, W, ts, tc, ρ, c, ρ1, r, hl, em, fun W1 H1 u g1 r1 => ?_⟩
          obtain ⟨k0, x⟩ := c
          obtain ⟨W2, g2, r2, hu⟩ := R.pop r1
          refine ⟨B, W2, ts, tc, ρ1, c', ρ', r2, hl, en, fun W3 H3 v g3 r3 => ?_⟩
          obtain ⟨k1, y⟩ := c'
          obtain ⟨W4, g4, r4, hv⟩ := R.pop r3
          have hu' := Rep.mono (g3.sm.trans g4.sm) _ _ hu
          have gg := (((g1.trans g2).trans g3).trans g4)
          cases x <;> cases y <;> first | (cases ed; done) | skip
          · rename_i l i
            obtain ⟨a, vs, rfl, h1, h2⟩ := hu'
            obtain ⟨w, ew, hw⟩ := h2.atI ed
            exact .inl ⟨a, vs, i, w, rfl, hv, r4.sw.seq h1.sq, ew, q W4 H3 w gg (r4.push0 hw)⟩
          · rename_i l i
            obtain ⟨a, vs, rfl, h1, h2⟩ := hu'
            obtain ⟨w, ew, hw⟩ := h2.atI ed
            exact .inr (.inl ⟨a, vs, i, w, rfl, hv, Same.seqT r4.sw h1, ew, q W4 H3 w gg (r4.push0 hw)⟩)
        · cases e
      · cases e
    · cases e
def mUn (o : D → Option D) (m : Env → Option (Cell × Env)) : Env → Option (Cell × Env) := fun ρ => match m ρ with
  | some (c, ρ1) => (match o c.2 with
    | some d => if d.sc then some ((0, d), ρ1) else none
    | none => none)
  | none => none
theorem g_un {op : UnaryOp} {o : D → Option D} {r : V → Hp → VK → Prop} (ho : UnR X (unaryOp op) r) (w : Op1 X o r) (ha : PE X a (gS X m)) : PE X (.UnaryOp op a pos) (gS X (mUn o m)) :=
  PEi (pe_un ho ha) fun σ H Q ⟨B, W, ts, tc, ρ, cl, ρ', r, hl, e, q⟩ => by
    unfold mUn at e
    split at e
    · rename_i c ρ1 em
      split at e
      · rename_i d ed
        split at e
        · rename_i hs
          cases e
          refine ⟨B, W, ts, tc, ρ, c, ρ', r, hl, em, fun W1 H1 u g1 r1 => ?_⟩
          obtain ⟨W2, g2, r2, hu⟩ := R.pop r1
          exact w H1 c.2 d u Q ed (Rep.mono r2.sw _ _ hu) fun z hz => q W2 H1 z (g1.trans g2) (r2.pushS hs hz)
        · cases e
      · cases e
    · cases e
/-! ### tests -/
def mtP (p : Env → Option Bool) : Env → Option (Bool × Env) := fun ρ => match p ρ with
  | some b => some (b, ρ)
  | none => none
theorem gt_p (h : PT X e (pT X p)) : PT X e (gT X (mtP p)) := PTi h fun σ H Q ⟨B, W, ts, tc, ρ, cl, ρ', r, hl, em, q⟩ => by
  unfold mtP at em
  split at em
  · rename_i d ed
    cases em
    exact ⟨ρ, _, ⟨B, W, ts, tc, r, hl⟩, ed, q W H (Gr.refl B W) r⟩
  · cases em
def mtV (m : Env → Option (Cell × Env)) : Env → Option (Bool × Env) := fun ρ => match m ρ with
  | some ((_, .bl b), ρ1) => some (b, ρ1)
  | _ => none
theorem mtV_some {b : Bool} {ρ' : Env} (h : mtV m ρ = some (b, ρ')) : ∃ k, m ρ = some ((k, .bl b), ρ') := by
  unfold mtV at h
  split at h
  · rename_i e; cases h; exact ⟨_, e⟩
  · cases h
theorem gt_val (ha : PE X a (gS X m)) (he : ∀ whole, isTrue a X.env whole = (do let v ← whole; standAt a.pos; holding [v] (truthy v)) := by intro _; rfl) : PT X a (gT X (mtV m)) :=
  PTi (pt_val ha he) fun σ H Q ⟨B, W, ts, tc, ρ, cl, ρ', r, hl, em, q⟩ => by
    obtain ⟨k, e⟩ := mtV_some em
    refine ⟨B, W, ts, tc, ρ, _, ρ', r, hl, e, fun W1 H1 v g1 r1 => ?_⟩
    obtain ⟨W2, g2, r2, hu⟩ := R.pop r1
    exact ⟨cl, hu, q W2 H1 (g1.trans g2) r2⟩
def mtTr (m : Env → Option (Cell × Env)) : Env → Option (Bool × Env) := fun ρ => match m ρ with
  | some (c, ρ1) => (match dTruth c.2 with
    | some b => some (b, ρ1)
    | none => none)
  | none => none
theorem gt_truth (ha : PE X a (gS X m)) (he : ∀ whole, isTrue a X.env whole = (do let v ← whole; standAt a.pos; holding [v] (truthy v)) := by intro _; rfl) : PT X a (gT X (mtTr m)) :=
  PTi (pt_truth ha he) fun σ H Q ⟨B, W, ts, tc, ρ, cl, ρ', r, hl, em, q⟩ => by
    unfold mtTr at em
    split at em
    · rename_i c ρ1 e
      split at em
      · rename_i b eb
        cases em
        refine ⟨B, W, ts, tc, ρ, _, _, r, hl, e, fun W1 H1 v g1 r1 => ?_⟩
        obtain ⟨W2, g2, r2, hu⟩ := R.pop r1
        exact ⟨cl, dTruth_ok (Rep.mono r2.sw _ _ hu) eb, q W2 H1 (g1.trans g2) r2⟩
      · cases em
    · cases em
theorem gt_cmp {op : CmpOp} {o : D → D → Option D} {r : R2} (ho : OpR X (compareOp op) r) (w : Op2 X o r) (ha : PE X a (gS X m)) (hb : PE X b (gS X n)) (hm : behindInMarks op b = false) : PT X (.Compare a [op] [b] pos) (gT X (mtV (mBin o m n))) :=
  PTi (pt_cmpR ho ha hb hm) fun σ H Q ⟨B, W, ts, tc, ρ, cl, ρ', r, hl, em, q⟩ => by
    obtain ⟨k, e⟩ := mtV_some em
    refine mBin_imp w ⟨B, W, ts, tc, ρ, _, ρ', r, hl, e, fun W1 H1 v g1 r1 => ?_⟩
    obtain ⟨W2, g2, r2, hu⟩ := R.pop r1
    exact ⟨cl, hu, q W2 H1 (g1.trans g2) r2⟩
def mtAnd (m n : Env → Option (Bool × Env)) : Env → Option (Bool × Env) := fun ρ => match m ρ with
  | some (true, ρ1) => n ρ1
  | some (false, ρ1) => some (false, ρ1)
  | none => none
def mtOr (m n : Env → Option (Bool × Env)) : Env → Option (Bool × Env) := fun ρ => match m ρ with
  | some (false, ρ1) => n ρ1
  | some (true, ρ1) => some (true, ρ1)
  | none => none
def mtNot (m : Env → Option (Bool × Env)) : Env → Option (Bool × Env) := fun ρ => match m ρ with
  | some (b, ρ1) => some (!b, ρ1)
  | none => none
variable {u v : Env → Option (Bool × Env)} {rest : List Expr}
theorem gt_and1 (ha : PT X a (gT X u)) : PW X (.BoolOp .And [a] pos) (gT X u) := pw_and1 ha
theorem gt_or1 (ha : PT X a (gT X u)) : PW X (.BoolOp .Or [a] pos) (gT X u) := pw_or1 ha
theorem gt_and (ha : PT X a (gT X u)) (hb : PW X (.BoolOp .And (b :: rest) pos) (gT X v)) : PW X (.BoolOp .And (a :: b :: rest) pos) (gT X (mtAnd u v)) :=
  PWi (pw_and ha hb) fun σ H Q ⟨B, W, ts, tc, ρ, cl, ρ', r, hl, em, q⟩ => by
    unfold mtAnd at em
    split at em
    · rename_i ρ1 e; exact ⟨B, W, ts, tc, ρ, true, ρ1, r, hl, e, fun W1 H1 g1 r1 => iteT ⟨B, W1, ts, tc, ρ1, cl, ρ', r1, hl, em, fun W2 H2 g2 r2 => q W2 H2 (g1.trans g2) r2⟩⟩
    · rename_i ρ1 e; cases em; exact ⟨B, W, ts, tc, ρ, false, _, r, hl, e, fun W1 H1 g1 r1 => iteF (q W1 H1 g1 r1)⟩
    · cases em
theorem gt_or (ha : PT X a (gT X u)) (hb : PW X (.BoolOp .Or (b :: rest) pos) (gT X v)) : PW X (.BoolOp .Or (a :: b :: rest) pos) (gT X (mtOr u v)) :=
  PWi (pw_or ha hb) fun σ H Q ⟨B, W, ts, tc, ρ, cl, ρ', r, hl, em, q⟩ => by
    unfold mtOr at em
    split at em
    · rename_i ρ1 e; exact ⟨B, W, ts, tc, ρ, false, ρ1, r, hl, e, fun W1 H1 g1 r1 => iteF ⟨B, W1, ts, tc, ρ1, cl, ρ', r1, hl, em, fun W2 H2 g2 r2 => q W2 H2 (g1.trans g2) r2⟩⟩
    · rename_i ρ1 e; cases em; exact ⟨B, W, ts, tc, ρ, true, _, r, hl, e, fun W1 H1 g1 r1 => iteT (q W1 H1 g1 r1)⟩
    · cases em
theorem gt_not (ha : PT X a (gT X u)) : PT X (.UnaryOp .Not a pos) (gT X (mtNot u)) :=
  PTi (pt_not ha) fun σ H Q ⟨B, W, ts, tc, ρ, cl, ρ', r, hl, em, q⟩ => by
    unfold mtNot at em
    split at em
    · rename_i b ρ1 e; cases em; exact ⟨B, W, ts, tc, ρ, _, _, r, hl, e, q⟩
    · cases em
/-! ### conditional expressions, and, or as values -/
def mIf (t : Env → Option (Bool × Env)) (m n : Env → Option (Cell × Env)) : Env → Option (Cell × Env) := fun ρ => match t ρ with
  | some (true, ρ1) => m ρ1
  | some (false, ρ1) => n ρ1
  | none => none
theorem g_if (hc : PT X c (gT X u)) (ha : PE X a (gS X m)) (hb : PE X b (gS X n)) : PE X (.IfExp c a b pos) (gS X (mIf u m n)) :=
  PEi (pe_ifExp hc ha hb) fun σ H Q ⟨B, W, ts, tc, ρ, cl, ρ', r, hl, em, q⟩ => by
    unfold mIf at em
    split at em
    · rename_i ρ1 e; exact ⟨B, W, ts, tc, ρ, true, ρ1, r, hl, e, fun W1 H1 g1 r1 => iteT ⟨B, W1, ts, tc, ρ1, cl, ρ', r1, hl, em, fun W2 H2 v g2 r2 => q W2 H2 v (g1.trans g2) r2⟩⟩
    · rename_i ρ1 e; exact ⟨B, W, ts, tc, ρ, false, ρ1, r, hl, e, fun W1 H1 g1 r1 => iteF ⟨B, W1, ts, tc, ρ1, cl, ρ', r1, hl, em, fun W2 H2 v g2 r2 => q W2 H2 v (g1.trans g2) r2⟩⟩
    · cases em
def mAnd (m n : Env → Option (Cell × Env)) : Env → Option (Cell × Env) := fun ρ => match m ρ with
  | some ((_, .bl true), ρ1) => n ρ1
  | some ((_, .bl false), ρ1) => some ((0, .bl false), ρ1)
  | _ => none
def mOr (m n : Env → Option (Cell × Env)) : Env → Option (Cell × Env) := fun ρ => match m ρ with
  | some ((_, .bl false), ρ1) => n ρ1
  | some ((_, .bl true), ρ1) => some ((0, .bl true), ρ1)
  | _ => none
theorem g_and (ha : PE X a (gS X m)) (hb : PE X (.BoolOp .And (b :: rest) pos) (gS X n)) : PE X (.BoolOp .And (a :: b :: rest) pos) (gS X (mAnd m n)) :=
  PEi (pe_and ha hb) fun σ H Q ⟨B, W, ts, tc, ρ, cl, ρ', r, hl, em, q⟩ => by
    unfold mAnd at em
    split at em
    · rename_i k ρ1 e
      refine ⟨B, W, ts, tc, ρ, _, ρ1, r, hl, e, fun W1 H1 v g1 r1 => ?_⟩
      obtain ⟨W2, g2, r2, hu⟩ := R.pop r1
      exact ⟨true, hu, iteT ⟨B, W2, ts, tc, ρ1, cl, ρ', r2, hl, em, fun W3 H3 v g3 r3 => q W3 H3 v ((g1.trans g2).trans g3) r3⟩⟩
    · rename_i k ρ1 e
      cases em
      refine ⟨B, W, ts, tc, ρ, _, _, r, hl, e, fun W1 H1 v g1 r1 => ?_⟩
      obtain ⟨W2, g2, r2, hu⟩ := R.pop r1
      exact ⟨false, hu, iteF (q W2 H1 _ (g1.trans g2) (r2.push0 rfl))⟩
    · cases em
theorem g_or (ha : PE X a (gS X m)) (hb : PE X (.BoolOp .Or (b :: rest) pos) (gS X n)) : PE X (.BoolOp .Or (a :: b :: rest) pos) (gS X (mOr m n)) :=
  PEi (pe_or ha hb) fun σ H Q ⟨B, W, ts, tc, ρ, cl, ρ', r, hl, em, q⟩ => by
    unfold mOr at em
    split at em
    · rename_i k ρ1 e
      refine ⟨B, W, ts, tc, ρ, _, ρ1, r, hl, e, fun W1 H1 v g1 r1 => ?_⟩
      obtain ⟨W2, g2, r2, hu⟩ := R.pop r1
      exact ⟨false, hu, iteF ⟨B, W2, ts, tc, ρ1, cl, ρ', r2, hl, em, fun W3 H3 v g3 r3 => q W3 H3 v ((g1.trans g2).trans g3) r3⟩⟩
    · rename_i k ρ1 e
      cases em
      refine ⟨B, W, ts, tc, ρ, _, _, r, hl, e, fun W1 H1 v g1 r1 => ?_⟩
      obtain ⟨W2, g2, r2, hu⟩ := R.pop r1
      exact ⟨true, hu, iteT (q W2 H1 _ (g1.trans g2) (r2.push0 rfl))⟩
    · cases em
theorem g_one {op} (h : PE X a (gS X m)) : PE X (.BoolOp op [a] pos) (gS X m) := pe_one h
theorem g_not (ha : PE X a (gS X m)) : PE X (.UnaryOp .Not a pos) (gS X (mUn dNot m)) :=
  PEi (pe_not ha) fun σ H Q ⟨B, W, ts, tc, ρ, cl, ρ', r, hl, e, q⟩ => by
    unfold mUn at e
    split at e
    · rename_i c ρ1 em
      obtain ⟨k0, x⟩ := c
      cases x <;> first | (cases e; done) | skip
      rename_i b
      have e' : some (((0, D.bl (!b)) : Cell), ρ1) = some (cl, ρ') := e
      cases e'
      refine ⟨B, W, ts, tc, ρ, _, ρ', r, hl, em, fun W1 H1 u g1 r1 => ?_⟩
      obtain ⟨W2, g2, r2, hu⟩ := R.pop r1
      exact ⟨b, hu, q W2 H1 _ (g1.trans g2) (r2.push0 rfl)⟩
    · cases e
end
end Mn

namespace Mn
open PySem PySem.Spec PyProof.Rows L2

/-! ### statements -/
/-- how a statement ends -/
inductive Out where
  | nx (ρ : Env) | rt (c : Cell) (ρ : Env) | bk (ρ : Env) | ct (ρ : Env)
/-- the slots pr hold what they held -/
def Pr (pr : List Nat) (σ σ' : L2.St) : Prop := ∀ i ∈ pr, σ'[i]? = σ[i]?
theorem Pr.refl {pr : List Nat} {σ : L2.St} : Pr pr σ σ := fun _ _ => rfl
theorem Pr.trans {pr : List Nat} {σ σ1 σ2 : L2.St} (a : Pr pr σ σ1) (b : Pr pr σ1 σ2) : Pr pr σ σ2 := fun i h => (b i h).trans (a i h)
theorem Pr.set {pr : List Nat} {σ σ1 : L2.St} (a : Pr pr σ σ1) {i : Nat} {v : Option V} (h : i ∉ pr) : Pr pr σ (σ1.set i v) := fun j hj => by
  rw [List.getElem?_set_ne (fun e => h (by rw [e]; exact hj))]; exact a j hj
def After (X : Cx) (pr : List Nat) (B W : Hp) (σ : L2.St) (Dn : Ends) : Out → Prop
  | .nx ρ' => ∀ W' H' σ', Gr B W W' → R X.K X.mg B W' H' σ' ρ' → Pr pr σ σ' → Dn.nx σ' H'
  | .rt c ρ' => ∀ W' H' σ' v, Gr B W W' → R X.K X.mg B W' H' (some v :: σ') (some c :: ρ') → Pr pr σ σ' → Dn.rt v H'
  | .bk ρ' => ∀ W' H' σ', Gr B W W' → R X.K X.mg B W' H' σ' ρ' → Pr pr σ σ' → Dn.bk σ' H'
  | .ct ρ' => ∀ W' H' σ', Gr B W W' → R X.K X.mg B W' H' σ' ρ' → Pr pr σ σ' → Dn.ct σ' H'
def sS (X : Cx) (pr : List Nat) (m : Env → Option Out) : TS := fun Dn σ H => ∃ (B W : Hp) (ρ : Env) (o : Out), R X.K X.mg B W H σ ρ ∧ m ρ = some o ∧ After X pr B W σ Dn o
theorem After.later {X : Cx} {pr : List Nat} {B W W1 : Hp} {σ σ1 : L2.St} {Dn : Ends} {o : Out} (h : After X pr B W σ Dn o) (g : Gr B W W1) (p : Pr pr σ σ1) : After X pr B W1 σ1 Dn o := by
  cases o with
  | nx ρ' => exact fun W' H' σ' g' r' p' => h W' H' σ' (g.trans g') r' (p.trans p')
  | rt c ρ' => exact fun W' H' σ' v g' r' p' => h W' H' σ' v (g.trans g') r' (p.trans p')
  | bk ρ' => exact fun W' H' σ' g' r' p' => h W' H' σ' (g.trans g') r' (p.trans p')
  | ct ρ' => exact fun W' H' σ' g' r' p' => h W' H' σ' (g.trans g') r' (p.trans p')
/-- other ends, as wished for -/
theorem After.ends {X : Cx} {pr : List Nat} {B W : Hp} {σ : L2.St} {Dn Dn' : Ends} {o : Out} (h : After X pr B W σ Dn o) (h1 : ∀ σ H, Dn.nx σ H → Dn'.nx σ H) (h2 : ∀ v H, Dn.rt v H → Dn'.rt v H) (h3 : ∀ σ H, Dn.bk σ H → Dn'.bk σ H) (h4 : ∀ σ H, Dn.ct σ H → Dn'.ct σ H) : After X pr B W σ Dn' o := by
  cases o with
  | nx ρ' => exact fun W' H' σ' g' r' p' => h1 _ _ (h W' H' σ' g' r' p')
  | rt c ρ' => exact fun W' H' σ' v g' r' p' => h2 _ _ (h W' H' σ' v g' r' p')
  | bk ρ' => exact fun W' H' σ' g' r' p' => h3 _ _ (h W' H' σ' g' r' p')
  | ct ρ' => exact fun W' H' σ' g' r' p' => h4 _ _ (h W' H' σ' g' r' p')

section
variable {X : Cx} {pr : List Nat} {st : Stmt} {sts : List Stmt} {m n : Env → Option Out} {e a b : Expr} {x : Env → Option (Cell × Env)} {t : Env → Option (Bool × Env)} {f g : Env → Option D} {pos : Pos}
def sNx : Env → Option Out := fun ρ => some (.nx ρ)
def sSeq (m n : Env → Option Out) : Env → Option Out := fun ρ => match m ρ with
  | some (.nx ρ1) => n ρ1
  | o => o
theorem s_nil : PSs X [] (sS X pr sNx) := PSsi pss_nil fun Dn σ H ⟨B, W, ρ, o, r, e, q⟩ => by
  cases e
  exact q W H σ (Gr.refl B W) r Pr.refl
theorem s_cons (h1 : PS X st (sS X pr m)) (h2 : PSs X sts (sS X pr n)) : PSs X (st :: sts) (sS X pr (sSeq m n)) := PSsi (pss_cons h1 h2) fun Dn σ H ⟨B, W, ρ, o, r, e, q⟩ => by
  unfold sSeq at e
  split at e
  · rename_i ρ1 em
    exact ⟨B, W, ρ, _, r, em, fun W' H' σ' g' r' p' => ⟨B, W', ρ1, o, r', e, q.later g' p'⟩⟩
  · rename_i hn
    refine ⟨B, W, ρ, o, r, e, ?_⟩
    cases o with
    | nx ρ' => exact absurd e (hn ρ')
    | rt c ρ' => exact q
    | bk ρ' => exact q
    | ct ρ' => exact q
theorem s_one (h1 : PS X st (sS X pr m)) : PSs X [st] (sS X pr m) := pss_one h1
theorem s_pass : PS X (.Pass pos) (sS X pr sNx) := PSi ps_pass fun Dn σ H ⟨B, W, ρ, o, r, e, q⟩ => by
  cases e
  exact q W H σ (Gr.refl B W) r Pr.refl
def sBk : Env → Option Out := fun ρ => some (.bk ρ)
def sCt : Env → Option Out := fun ρ => some (.ct ρ)
theorem s_bk : PS X (.Break pos) (sS X pr sBk) := PSi ps_break fun Dn σ H ⟨B, W, ρ, o, r, e, q⟩ => by
  cases e
  exact q W H σ (Gr.refl B W) r Pr.refl
theorem s_ct : PS X (.Continue pos) (sS X pr sCt) := PSi ps_continue fun Dn σ H ⟨B, W, ρ, o, r, e, q⟩ => by
  cases e
  exact q W H σ (Gr.refl B W) r Pr.refl
/-- what is never come to -/
def sNo : Env → Option Out := fun _ => none
theorem s_no : PS X st (sS X pr sNo) := PSi ps_never fun Dn σ H ⟨B, W, ρ, o, r, e, q⟩ => by cases e
theorem ss_no : PSs X sts (sS X pr sNo) := PSsi pss_never fun Dn σ H ⟨B, W, ρ, o, r, e, q⟩ => by cases e
theorem s_doc {y j pos'} : PS X (.Expr (.Constant (.str y) j pos) pos') (sS X pr sNx) := PSi ps_doc fun Dn σ H ⟨B, W, ρ, o, r, e, q⟩ => by
  cases e
  exact q W H σ (Gr.refl B W) r Pr.refl
def sExp (x : Env → Option (Cell × Env)) : Env → Option Out := fun ρ => match x ρ with
  | some (_, ρ1) => some (.nx ρ1)
  | none => none
theorem s_exp (he : PE X e (gS X x)) (hs : swapsWith e none pos.line X.env = pure false := by rfl) : PS X (.Expr e pos) (sS X pr (sExp x)) := PSi (ps_expr he hs) fun Dn σ H ⟨B, W, ρ, o, r, em, q⟩ => by
  unfold sExp at em
  split at em
  · rename_i c ρ1 ex
    cases em
    exact ⟨B, W, [], [], ρ, c, ρ1, r, rfl, ex, fun W1 H1 v g1 r1 => q W1 H1 σ g1 (R.drop r1) Pr.refl⟩
  · cases em
def sRet (x : Env → Option (Cell × Env)) : Env → Option Out := fun ρ => match x ρ with
  | some (c, ρ1) => some (.rt c ρ1)
  | none => none
theorem s_ret (he : PE X e (gS X x)) : PS X (.Return (some e) pos) (sS X pr (sRet x)) := PSi (ps_ret he) fun Dn σ H ⟨B, W, ρ, o, r, em, q⟩ => by
  unfold sRet at em
  split at em
  · rename_i c ρ1 ex
    cases em
    exact ⟨B, W, [], [], ρ, c, ρ1, r, rfl, ex, fun W1 H1 v g1 r1 => q W1 H1 σ v g1 r1 Pr.refl⟩
  · cases em
def sRetN : Env → Option Out := fun ρ => some (.rt (0, .non) ρ)
theorem s_retN : PS X (.Return none pos) (sS X pr sRetN) := PSi ps_retN fun Dn σ H ⟨B, W, ρ, o, r, em, q⟩ => by
  cases em
  exact q W H σ .non (Gr.refl B W) (r.push0 rfl) Pr.refl
def sIf (t : Env → Option (Bool × Env)) (m n : Env → Option Out) : Env → Option Out := fun ρ => match t ρ with
  | some (true, ρ1) => m ρ1
  | some (false, ρ1) => n ρ1
  | none => none
theorem s_if {c : Expr} {as bs : List Stmt} (hc : PT X c (gT X t)) (ha : PSs X as (sS X pr m)) (hb : PSs X bs (sS X pr n)) : PS X (.If c as bs pos) (sS X pr (sIf t m n)) := PSi (ps_if hc ha hb) fun Dn σ H ⟨B, W, ρ, o, r, em, q⟩ => by
  unfold sIf at em
  split at em
  · rename_i ρ1 ex
    exact ⟨B, W, [], [], ρ, true, ρ1, r, rfl, ex, fun W1 H1 g1 r1 => iteT ⟨B, W1, ρ1, o, r1, em, q.later g1 Pr.refl⟩⟩
  · rename_i ρ1 ex
    exact ⟨B, W, [], [], ρ, false, ρ1, r, rfl, ex, fun W1 H1 g1 r1 => iteF ⟨B, W1, ρ1, o, r1, em, q.later g1 Pr.refl⟩⟩
  · cases em
/-! ### stores -/
def sAsg (i : Nat) (x : Env → Option (Cell × Env)) : Env → Option Out := fun ρ => match x ρ with
  | some (c, ρ1) => some (.nx (ρ1.set i (some c)))
  | none => none
theorem asg_imp {i : Nat} (hi : i ∉ pr) {Dn : Ends} {σ : L2.St} {H : Hp} (h : sS X pr (sAsg i x) Dn σ H) : tAsg (gS X x) (gName i) Dn σ H := by
  obtain ⟨B, W, ρ, o, r, em, q⟩ := h
  unfold sAsg at em
  split at em
  · rename_i c ρ1 ex
    cases em
    exact ⟨B, W, [], [], ρ, c, ρ1, r, rfl, ex, fun W1 H1 v g1 r1 => q W1 H1 _ g1 (R.move r1 i) (Pr.refl.set hi)⟩
  · cases em
theorem s_asg {i : Nat} {y : Str} {pos' : Pos} (hN : X.N.Nodup) (hi : X.N[i]? = some y) (hx : Loc X.env.scope y) (hp : i ∉ pr) (he : PE X e (gS X x)) (hs : swapsWith e (some (.Name y pos')) pos.line X.env = pure false := by rfl)
    (hf : X.fn y = true ∨ X.env.scope.names.lookup y = some .local := by first | exact .inl rfl | exact .inr rfl | assumption) : PS X (.Assign [.Name y pos'] e pos) (sS X pr (sAsg i x)) :=
  PSi (ps_set hN hi hx he hs hf) fun Dn σ H h => asg_imp hp h
def sAug (i : Nat) (o : D → D → Option D) (x : Env → Option (Cell × Env)) : Env → Option Out := fun ρ => match ρ[i]? with
  | some (some c0) => (match x ρ with
    | some (c, ρ1) => (match o c0.2 c.2 with
      | some d => if d.sc && c0.2.sc then some (.nx (ρ1.set i (some (0, d)))) else none
      | none => none)
    | none => none)
  | _ => none
/-- i op= e, of ints -/
theorem s_aug {i : Nat} {y : Str} {op : Operator} {o : D → D → Option D} {ti : TIp} {pos' : Pos} (hN : X.N.Nodup) (hi : X.N[i]? = some y) (hx : Loc X.env.scope y) (hp : i ∉ pr) (he : PE X e (gS X x)) (ho : PIp X op ti) (w : Op2 X o ti)
    (hf : X.fn y = true ∨ X.env.scope.names.lookup y = some .local := by first | exact .inl rfl | exact .inr rfl | assumption) : PS X (.AugAssign (.Name y pos') op e pos) (sS X pr (sAug i o x)) :=
  PSi (ps_aug hN hi hx he ho hf) fun Dn σ H ⟨B, W, ρ, o', r, em, q⟩ => by
    unfold sAug at em
    split at em
    · rename_i c0 ec
      split at em
      · rename_i c ρ1 ex
        split at em
        · rename_i d ed
          split at em
          · rename_i hs
            rw [Bool.and_eq_true] at hs
            cases em
            obtain ⟨v0, ev, hv⟩ := r.rep ec
            refine ⟨v0, ev, B, W, [], [], ρ, c, ρ1, r, rfl, ex, fun W1 H1 v g1 r1 => ?_⟩
            obtain ⟨W2, g2, r2, hu⟩ := R.pop r1
            refine w H1 c0.2 c.2 d v0 v _ ed (Rep.scalar hs.2 hv) (Rep.mono r2.sw _ _ hu) fun z hz => ?_
            exact q W2 H1 _ (g1.trans g2) (R.move (r2.pushS (k := 0) hs.1 hz) i) (Pr.refl.set hp)
          · cases em
        · cases em
      · cases em
    · cases em
theorem w_ipI {g : Int → Int → Int} : Op2 X (dInt2 (fun _ _ => true) g) (ipI g) := fun H x y z u v Q e hu hv q => by
  cases x <;> cases y <;> first | (cases e; done) | skip
  rename_i i j
  cases e
  exact ⟨i, j, hu, hv, q _ rfl⟩
/-- a, b = x, y: plain local names, stored from the right -/
def sPar (i j : Nat) (x y : Env → Option (Cell × Env)) : Env → Option Out := fun ρ => match x ρ with
  | some (c, ρ1) => (match y ρ1 with
    | some (c', ρ2) => some (.nx ((ρ2.set j (some c')).set i (some c)))
    | none => none)
  | none => none
end
end Mn

namespace Mn
open PySem PySem.Spec PyProof.Rows L2

/-! ### paths into a cell -/
def D.at : D → List Nat → Option D
  | d, [] => some d
  | .lst l, j :: js => match l[j]? with
    | some d => D.at d js
    | none => none
  | .tup l, j :: js => match l[j]? with
    | some d => D.at d js
    | none => none
  | _, _ :: _ => none
def D.put : D → List Nat → D → D
  | _, [], x => x
  | .lst l, j :: js, x => match l[j]? with
    | some d => .lst (l.set j (D.put d js x))
    | none => .lst l
  | .tup l, j :: js, x => match l[j]? with
    | some d => .tup (l.set j (D.put d js x))
    | none => .tup l
  | d, _ :: _, _ => d
inductive PathV (H : Hp) : V → List Nat → V → Prop where
  | nil {v : V} : PathV H v [] v
  | lst {a : Addr} {xs : List V} {j : Nat} {u w : V} {js : List Nat} : H a = some (.lst xs) → xs[j]? = some u → PathV H u js w → PathV H (.ref a) (j :: js) w
  | tup {a : Addr} {xs : List V} {j : Nat} {u w : V} {js : List Nat} : H a = some (.tup xs) → xs[j]? = some u → PathV H u js w → PathV H (.ref a) (j :: js) w
theorem PathV.snoc {H : Hp} {a : Addr} {xs : List V} {j : Nat} {u : V} (h : H a = some (.lst xs) ∨ H a = some (.tup xs)) (e : xs[j]? = some u) : ∀ {v : V} {js : List Nat}, PathV H v js (.ref a) → PathV H v (js ++ [j]) u
  | _, _, .nil => by
    rcases h with h | h
    · exact .lst h e .nil
    · exact .tup h e .nil
  | _, _, .lst h1 h2 h3 => .lst h1 h2 (PathV.snoc h e h3)
  | _, _, .tup h1 h2 h3 => .tup h1 h2 (PathV.snoc h e h3)
section
variable {K : PySem.W.Frag} {mg : Str → Option Value} {W W' H H' B : Hp} {vs : List (Option V)} {cs : List (Option Cell)} {v : V} {ov : Option V} {oc : Option Cell} {k k' : Nat} {d : D} {c : Cell}
theorem OwnL.focus {k : Nat} : ∀ {l : List D} {vs : List V} {G : Fp} {j : Nat} {d : D}, OwnL (Own K mg W H k) l vs G → l[j]? = some d →
    ∃ (v : V) (F G0 : Fp), vs[j]? = some v ∧ Own K mg W H k d v F ∧ (∀ b, G b = F b + G0 b) ∧
      ∀ (W' H' : Hp) (d' : D) (v' : V) (F' : Fp), Same W W' → (∀ a, G0 a ≠ 0 → H' a = H a) → Own K mg W' H' k d' v' F' → OwnL (Own K mg W' H' k) (l.set j d') (vs.set j v') (fun b => F' b + G0 b)
  | [], _, _, _, _, _, e => by simp at e
  | d :: ds, _, _, 0, x, h, e => by
    obtain ⟨v, r, F, G', rfl, h1, h2, h3⟩ := h
    cases (show some d = some x from e)
    exact ⟨v, F, G', rfl, h1, h3, fun W' H' d' v' F' s f ho => ⟨v', r, F', G', rfl, ho, h2.imp fun d _ v F hF hO => Own.mono s k d v F hO fun a ha => f a (by have := hF a; omega), fun _ => rfl⟩⟩
  | d :: ds, _, _, j + 1, x, h, e => by
    obtain ⟨v, r, F, G', rfl, h1, h2, h3⟩ := h
    obtain ⟨v0, F0, G0, e0, p1, p2, p3⟩ := OwnL.focus (j := j) (d := x) h2 (by simpa using e)
    exact ⟨v0, F0, fun b => F b + G0 b, by simpa using e0, p1, fun b => by have := h3 b; have := p2 b; show _ = F0 b + (F b + G0 b); omega,
      fun W' H' d' v' F' s f ho => ⟨v, r.set j v', F, _, rfl, Own.mono s k d v F h1 fun a ha => f a (by show F a + G0 a ≠ 0; omega), p3 W' H' d' v' F' s (fun a ha => f a (by show F a + G0 a ≠ 0; omega)) ho, fun b => by show F' b + (F b + G0 b) = F b + (F' b + G0 b); omega⟩⟩
/-- what stands at a path, looked at and put back as another -/
theorem Own.path : ∀ (js : List Nat) (k : Nat) (d d' : D) (v : V) (F : Fp), Own K mg W H (k + js.length) d v F → (∀ b, F b ≤ 1) → D.at d js = some d' →
    ∃ (w : V) (F1 F2 : Fp), PathV H v js w ∧ Own K mg W H k d' w F1 ∧ (∀ b, F b = F1 b + F2 b) ∧
      ∀ (W' H' : Hp) (d'' : D) (F' : Fp), Same W W' → (∀ a, F2 a ≠ 0 → H' a = H a) → Own K mg W' H' k d'' w F' → Own K mg W' H' (k + js.length) (D.put d js d'') v (fun b => F' b + F2 b)
  | [], k, d, d', v, F, h, _, e => by
    have e1 : some d = some d' := by cases d <;> exact e
    cases e1
    refine ⟨v, F, fun _ => 0, .nil, h, fun _ => rfl, fun W' H' d'' F' s f ho => ?_⟩
    have e2 : D.put d [] d'' = d'' := by cases d <;> rfl
    rw [e2]; exact ho
  | j :: js, k, d, d', v, F, h, hF, e => by
    have hk : k + (j :: js).length = (k + js.length) + 1 := by simp only [List.length_cons]; omega
    rw [hk] at h ⊢
    cases d with
    | lst l =>
      obtain ⟨a, vs, G, rfl, h1, h2, h3⟩ := h
      simp only [D.at] at e
      split at e
      · rename_i x ex
        obtain ⟨u, Fu, G0, eu, hu, hg, put⟩ := OwnL.focus h2 ex
        obtain ⟨w, F1, F2, p1, p2, p3, p4⟩ := Own.path js k x d' u Fu hu (fun b => by have := hF b; have := h3 b; have := hg b; omega) e
        refine ⟨w, F1, fun b => F2 b + ((if b = a then 1 else 0) + G0 b), .lst h1 eu p1, p2, fun b => by have := h3 b; have := hg b; have := p3 b; show F b = F1 b + (F2 b + ((if b = a then 1 else 0) + G0 b)); omega, fun W' H' d'' F' s f ho => ?_⟩
        have q := p4 W' H' d'' F' s (fun a' ha => f a' (by show F2 a' + ((if a' = a then 1 else 0) + G0 a') ≠ 0; omega)) ho
        have q2 := put W' H' _ u _ s (fun a' ha => f a' (by show F2 a' + ((if a' = a then 1 else 0) + G0 a') ≠ 0; omega)) q
        rw [set_self eu] at q2
        simp only [D.put, ex]
        exact ⟨a, vs, _, rfl, by rw [f a (by show F2 a + ((if a = a then 1 else 0) + G0 a) ≠ 0; rw [if_pos rfl]; omega)]; exact h1, q2, fun b => by show F' b + (F2 b + ((if b = a then 1 else 0) + G0 b)) = (if b = a then 1 else 0) + (F' b + F2 b + G0 b); omega⟩
      · cases e
    | tup l =>
      obtain ⟨a, vs, G, rfl, h1, h2, h3⟩ := h
      simp only [D.at] at e
      split at e
      · rename_i x ex
        obtain ⟨u, Fu, G0, eu, hu, hg, put⟩ := OwnL.focus h2 ex
        obtain ⟨w, F1, F2, p1, p2, p3, p4⟩ := Own.path js k x d' u Fu hu (fun b => by have := hF b; have := h3 b; have := hg b; omega) e
        refine ⟨w, F1, fun b => F2 b + ((if b = a then 1 else 0) + G0 b), .tup h1 eu p1, p2, fun b => by have := h3 b; have := hg b; have := p3 b; show F b = F1 b + (F2 b + ((if b = a then 1 else 0) + G0 b)); omega, fun W' H' d'' F' s f ho => ?_⟩
        have q := p4 W' H' d'' F' s (fun a' ha => f a' (by show F2 a' + ((if a' = a then 1 else 0) + G0 a') ≠ 0; omega)) ho
        have q2 := put W' H' _ u _ s (fun a' ha => f a' (by show F2 a' + ((if a' = a then 1 else 0) + G0 a') ≠ 0; omega)) q
        rw [set_self eu] at q2
        simp only [D.put, ex]
        exact ⟨a, vs, _, rfl, by rw [f a (by show F2 a + ((if a = a then 1 else 0) + G0 a) ≠ 0; rw [if_pos rfl]; omega)]; exact h1, q2, fun b => by show F' b + (F2 b + ((if b = a then 1 else 0) + G0 b)) = (if b = a then 1 else 0) + (F' b + F2 b + G0 b); omega⟩
      · cases e
    | non => cases e
    | bl _ => cases e
    | int _ => cases e
    | str _ => cases e
    | dct _ => cases e
    | gl _ => cases e
/-- .. of a slot -/
theorem Cells.path {T : Fp} (h : Cells K mg W H vs cs T) (hT : ∀ b, T b ≤ 1) {i : Nat} {js : List Nat} {d' : D} (e : cs[i]? = some (some (k + js.length, d))) (ed : D.at d js = some d') :
    ∃ (F1 G : Fp) (v w : V), vs[i]? = some (some v) ∧ PathV H v js w ∧ Own K mg W H k d' w F1 ∧ (∀ b, T b = F1 b + G b) ∧
      ∀ (W' H' : Hp) (d'' : D) (F' : Fp), Same W W' → (∀ a, G a ≠ 0 → H' a = H a) → Own K mg W' H' k d'' w F' → Cells K mg W' H' vs (cs.set i (some (k + js.length, D.put d js d''))) (fun b => F' b + G b) := by
  obtain ⟨ov, F, G, ev, ⟨u, eu, ho⟩, h3, put⟩ := h.focus e
  obtain ⟨w, F1, F2, p1, p2, p3, p4⟩ := Own.path js k d d' u F ho (fun b => by have := hT b; have := h3 b; omega) ed
  refine ⟨F1, fun b => F2 b + G b, u, w, by rw [ev, eu], p1, p2, fun b => by have := h3 b; have := p3 b; show T b = F1 b + (F2 b + G b); omega, fun W' H' d'' F' s f ho' => ?_⟩
  have c' := put W' H' (some u) (some (k + js.length, D.put d js d'')) _ s (fun a ha => f a (by show F2 a + G a ≠ 0; omega)) ⟨u, rfl, p4 W' H' d'' F' s (fun a ha => f a (by show F2 a + G a ≠ 0; omega)) ho'⟩
  rw [eu] at ev
  rw [set_self ev] at c'
  have e1 : (fun b => F' b + F2 b + G b) = fun b => F' b + (F2 b + G b) := by funext b; omega
  rwa [e1] at c'
theorem OwnL.snoc {P : D → V → Fp → Prop} {d : D} {v : V} {F : Fp} (hp : P d v F) : ∀ {l : List D} {vs : List V} {G : Fp}, OwnL P l vs G → OwnL P (l ++ [d]) (vs ++ [v]) (fun b => F b + G b)
  | [], _, _, h => by
    obtain ⟨rfl, h0⟩ := h
    exact ⟨v, [], F, fun _ => 0, rfl, hp, ⟨rfl, fun _ => rfl⟩, fun b => by show F b + _ = F b + 0; rw [h0 b]⟩
  | _ :: _, _, _, h => by
    obtain ⟨v1, r, F1, G1, rfl, h1, h2, h3⟩ := h
    exact ⟨v1, r ++ [v], F1, _, rfl, h1, OwnL.snoc hp h2, fun b => by show F b + _ = F1 b + (F b + G1 b); rw [h3 b]; omega⟩
/-- o[j] = the head, o a list at a path -/
theorem R.pathSet (r : R K mg B W H (some v :: vs) (some c :: cs)) {i j : Nat} {js : List Nat} {l : List D} (e : cs[i]? = some (some (k + 1 + js.length, d))) (ed : D.at d js = some (.lst l)) (hj : j < l.length) (hf : Mn.fit k c = true) :
    ∃ (W' : Hp) (v0 : V) (p : Addr) (xs : List V), vs[i]? = some (some v0) ∧ PathV H v0 js (.ref p) ∧ H p = some (.lst xs) ∧ xs.length = l.length ∧ Gr B W W' ∧ R K mg B W' (upd H p (.lst (xs.set j v))) vs (cs.set i (some (k + 1 + js.length, D.put d js (.lst (l.set j c.2))))) := by
  obtain ⟨W1, g1, r1⟩ := R.fit (k := k) r hf
  obtain ⟨T, ⟨Fh, Gt, ⟨hv, ehv, hown⟩, hcells, hsum⟩, hT⟩ := r1.ex
  cases ehv
  obtain ⟨F1, G, v0, w, ev, pv, ho, hs, put⟩ := Cells.path hcells (fun b => by have := (hT b).1; have := hsum b; omega) (k := k + 1) e ed
  obtain ⟨p, xs, G1, rfl, h1, h2, h3⟩ := ho
  obtain ⟨u, Fu, G0, eu, hu, hg, putL⟩ := OwnL.focus (j := j) (d := l[j]) h2 (by simp [hj])
  have tot : ∀ b, T b = Fh b + ((if b = p then 1 else 0) + (Fu b + G0 b) + G b) := fun b => by have := hsum b; have := hs b; have := h3 b; have := hg b; omega
  have hp : G p = 0 ∧ Fu p = 0 ∧ G0 p = 0 ∧ Fh p = 0 := by have := tot p; have := (hT p).1; rw [if_pos rfl] at *; omega
  have up : ∀ {a : Addr} {o : HO}, a ≠ p → upd H p o a = H a := fun h => upd_ne h
  have c' := put W1 (upd H p (.lst (xs.set j v))) (.lst (l.set j c.2)) (fun b => (if b = p then 1 else 0) + (Fh b + G0 b)) (Same.refl W1) (fun a ha => up fun z => by subst z; omega)
    ⟨p, xs.set j v, _, rfl, upd_same, putL W1 _ c.2 v Fh (Same.refl W1) (fun a ha => up fun z => by subst z; omega) (Own.mono (Same.refl W1) k _ v Fh hown fun a ha => up fun z => by subst z; omega), fun b => rfl⟩
  have nW : ∀ {b : Addr} {o : HO}, W1 b = some o → b ≠ p := fun {b o} q z => by
    subst z
    have := ((hT b).2 (by have := tot b; rw [if_pos rfl] at this; omega)).1
    rw [q] at this; cases this
  have nB : ∀ {b : Addr} {o : HO}, B b = some o → b ≠ p := fun {b o} q z => by
    subst z
    have := ((hT b).2 (by have := tot b; rw [if_pos rfl] at this; omega)).2
    rw [q] at this; cases this
  refine ⟨W1, v0, p, xs, ev, pv, h1, h2.length, g1, fun b o q => by rw [up (nW q)]; exact r1.sw b o q, fun b o q => by rw [up (nB q)]; exact r1.sb b o q, _, c', fun b => ?_⟩
  have := tot b
  have := (hT b).1
  exact ⟨by show (if b = p then 1 else 0) + (Fh b + G0 b) + G b ≤ 1; omega, fun hb => (hT b).2 (by have : (if b = p then 1 else 0) + (Fh b + G0 b) + G b ≠ 0 := hb; omega)⟩
/-- o.append(the head), o a list at a path -/
theorem R.pathApp (r : R K mg B W H (some v :: vs) (some c :: cs)) {i : Nat} {js : List Nat} {l : List D} (e : cs[i]? = some (some (k + 1 + js.length, d))) (ed : D.at d js = some (.lst l)) (hf : Mn.fit k c = true) :
    ∃ (W' : Hp) (v0 : V) (p : Addr) (xs : List V), vs[i]? = some (some v0) ∧ PathV H v0 js (.ref p) ∧ H p = some (.lst xs) ∧ xs.length = l.length ∧ Gr B W W' ∧ R K mg B W' (upd H p (.lst (xs ++ [v]))) vs (cs.set i (some (k + 1 + js.length, D.put d js (.lst (l ++ [c.2]))))) := by
  obtain ⟨W1, g1, r1⟩ := R.fit (k := k) r hf
  obtain ⟨T, ⟨Fh, Gt, ⟨hv, ehv, hown⟩, hcells, hsum⟩, hT⟩ := r1.ex
  cases ehv
  obtain ⟨F1, G, v0, w, ev, pv, ho, hs, put⟩ := Cells.path hcells (fun b => by have := (hT b).1; have := hsum b; omega) (k := k + 1) e ed
  obtain ⟨p, xs, G1, rfl, h1, h2, h3⟩ := ho
  have tot : ∀ b, T b = Fh b + ((if b = p then 1 else 0) + G1 b + G b) := fun b => by have := hsum b; have := hs b; have := h3 b; omega
  have hp : G p = 0 ∧ G1 p = 0 ∧ Fh p = 0 := by have := tot p; have := (hT p).1; rw [if_pos rfl] at *; omega
  have up : ∀ {a : Addr} {o : HO}, a ≠ p → upd H p o a = H a := fun h => upd_ne h
  have c' := put W1 (upd H p (.lst (xs ++ [v]))) (.lst (l ++ [c.2])) (fun b => (if b = p then 1 else 0) + (Fh b + G1 b)) (Same.refl W1) (fun a ha => up fun z => by subst z; omega)
    ⟨p, xs ++ [v], _, rfl, upd_same, OwnL.snoc (Own.mono (Same.refl W1) k _ v Fh hown fun a ha => up fun z => by subst z; omega) (h2.imp fun d _ v F hF hO => Own.mono (Same.refl W1) k d v F hO fun a ha => up fun z => by subst z; have := hF a; omega), fun b => rfl⟩
  have nW : ∀ {b : Addr} {o : HO}, W1 b = some o → b ≠ p := fun {b o} q z => by
    subst z
    have := ((hT b).2 (by have := tot b; rw [if_pos rfl] at this; omega)).1
    rw [q] at this; cases this
  have nB : ∀ {b : Addr} {o : HO}, B b = some o → b ≠ p := fun {b o} q z => by
    subst z
    have := ((hT b).2 (by have := tot b; rw [if_pos rfl] at this; omega)).2
    rw [q] at this; cases this
  refine ⟨W1, v0, p, xs, ev, pv, h1, h2.length, g1, fun b o q => by rw [up (nW q)]; exact r1.sw b o q, fun b o q => by rw [up (nB q)]; exact r1.sb b o q, _, c', fun b => ?_⟩
  have := tot b
  have := (hT b).1
  exact ⟨by show (if b = p then 1 else 0) + (Fh b + G1 b) + G b ≤ 1; omega, fun hb => (hT b).2 (by have : (if b = p then 1 else 0) + (Fh b + G1 b) + G b ≠ 0 := hb; omega)⟩
end
end Mn

namespace Mn
open PySem PySem.Spec PyProof.Rows L2
/-! ### places: a slot and a path, of owned levels -/
/-- the place's path from the slot i: the slot's cell owns more levels than the path has -/
def plAt (i : Nat) (fs : Env → Option (List Nat)) (ρ : Env) : Option (List Nat × Cell × D) := match ρ[i]?, fs ρ with
  | some (some c), some js => if js.length < c.1 then (match D.at c.2 js with | some d => some (js, c, d) | none => none) else none
  | _, _ => none
def plS (X : Cx) (i : Nat) (fs : Env → Option (List Nat)) : TE := fun σ H Q => ∃ ρ js c d, Sta X σ H ρ ∧ plAt i fs ρ = some (js, c, d) ∧ ∀ v w, σ[i]? = some (some v) → PathV H v js w → Q w H
section
variable {X : Cx} {a b c e : Expr} {es : List Expr} {f g : Env → Option D} {pos : Pos} {σ : L2.St} {H : Hp} {ρ : Env} {i : Nat} {fs : Env → Option (List Nat)} {x : Env → Option (Cell × Env)} {pr : List Nat}
theorem plAt_some {js : List Nat} {c : Cell} {d : D} (h : plAt i fs ρ = some (js, c, d)) : ρ[i]? = some (some c) ∧ fs ρ = some js ∧ js.length < c.1 ∧ D.at c.2 js = some d := by
  unfold plAt at h
  split at h
  · rename_i c' js' e1 e2
    split at h
    · rename_i hl
      split at h
      · rename_i d' ed
        cases h
        exact ⟨e1, e2, hl, ed⟩
      · cases h
    · cases h
  · cases h
def plNil : Env → Option (List Nat) := fun _ => some []
theorem pl_var (h : PE X e (tVar i)) : PE X e (plS X i plNil) := PEi h fun σ H Q ⟨ρ, js, c, d, s, ea, q⟩ => by
  obtain ⟨e1, e2, _, _⟩ := plAt_some ea
  cases e2
  obtain ⟨v, ev, _⟩ := s.var (i := i) (d := c.2) (by unfold pVar; rw [e1])
  exact ⟨v, ev, q v v ev .nil⟩
/-- one place further: the index by the length of what stands there -/
def plIx (i : Nat) (fs : Env → Option (List Nat)) (g : Env → Option D) : Env → Option (List Nat) := fun ρ => match plAt i fs ρ, g ρ with
  | some (js, _, .lst l), some (.int k) => (match ixN l.length k with | some j => some (js ++ [j]) | none => none)
  | some (js, _, .tup l), some (.int k) => (match ixN l.length k with | some j => some (js ++ [j]) | none => none)
  | _, _ => none
theorem ixN_lt {n : Nat} {k : Int} {j : Nat} (h : ixN n k = some j) : j < n := (ixN_seq h).2.1
theorem Sta.path (s : Sta X σ H ρ) {js : List Nat} {c : Cell} {d : D} (h : plAt i fs ρ = some (js, c, d)) : ∃ v w, σ[i]? = some (some v) ∧ PathV H v js w ∧ (∀ l, d = .lst l → ∃ p xs, w = .ref p ∧ H p = some (.lst xs) ∧ xs.length = l.length) ∧ (∀ l, d = .tup l → ∃ p xs, w = .ref p ∧ H p = some (.tup xs) ∧ xs.length = l.length) := by
  obtain ⟨e1, e2, hl, ed⟩ := plAt_some h
  obtain ⟨B, W, ts, tc, r, hlen⟩ := s
  obtain ⟨T, hc, hT⟩ := r.ex
  obtain ⟨m, hm⟩ : ∃ m, c.1 = m + 1 + js.length := ⟨c.1 - 1 - js.length, by omega⟩
  obtain ⟨k0, d0⟩ := c
  simp only at hm ed e1
  subst hm
  obtain ⟨F1, G, v, w, ev, pv, ho, _, _⟩ := Cells.path hc (fun b => (hT b).1) (i := tc.length + i) (k := m + 1) (js := js) (d := d0) (d' := d) (by rw [get_app]; exact e1) ed
  rw [← hlen, get_app] at ev
  refine ⟨v, w, ev, pv, fun l hd => ?_, fun l hd => ?_⟩
  · subst hd
    obtain ⟨p, xs, G1, rfl, h1, h2, _⟩ := ho
    exact ⟨p, xs, rfl, h1, h2.length⟩
  · subst hd
    obtain ⟨p, xs, G1, rfl, h1, h2, _⟩ := ho
    exact ⟨p, xs, rfl, h1, h2.length⟩
theorem PathV.uniq {H : Hp} : ∀ {v w w' : V} {js : List Nat}, PathV H v js w → PathV H v js w' → w = w'
  | _, _, _, _, .nil, .nil => rfl
  | _, _, _, _, .lst h1 h2 h3, .lst h1' h2' h3' => by
    rw [h1] at h1'; cases h1'
    rw [h2] at h2'; cases h2'
    exact PathV.uniq h3 h3'
  | _, _, _, _, .tup h1 h2 h3, .tup h1' h2' h3' => by
    rw [h1] at h1'; cases h1'
    rw [h2] at h2'; cases h2'
    exact PathV.uniq h3 h3'
  | _, _, _, _, .lst h1 _ _, .tup h1' _ _ => by rw [h1] at h1'; cases h1'
  | _, _, _, _, .tup h1 _ _, .lst h1' _ _ => by rw [h1] at h1'; cases h1'
theorem pl_ix (ha : PE X a (plS X i fs)) (hb : PE X b (pS X g)) (hs : PlainIx b) : PE X (.Subscript a b pos) (plS X i (plIx i fs g)) :=
  PEi (pe_ix ix_seq ha hb hs) fun σ H Q ⟨ρ, js, c, d, s, ea, q⟩ => by
    obtain ⟨e1, e2, hl, ed⟩ := plAt_some ea
    unfold plIx at e2
    split at e2
    · rename_i js0 c0 l k ep eg
      obtain ⟨e3, _, _, _⟩ := plAt_some ep
      split at e2
      · rename_i j ej
        cases e2
        obtain ⟨v, w, ev, pv, hL, _⟩ := s.path ep
        obtain ⟨p, xs, rfl, hp, hx⟩ := hL l rfl
        have hj : j < xs.length := by rw [hx]; exact ixN_lt ej
        refine ⟨ρ, js0, _, _, s, ep, fun v' w' ev' pv' => ⟨ρ, _, s, eg, fun u hu => ?_⟩⟩
        have e4 : v' = v := by rw [ev] at ev'; cases ev'; rfl
        subst e4
        cases PathV.uniq pv pv'
        exact .inl ⟨p, xs, k, xs[j], rfl, hu, SqL.of hp, by unfold atI; rw [hx, ej]; simp [hj], q _ _ ev (PathV.snoc (.inl hp) (by simp [hj]) pv)⟩
      · cases e2
    · rename_i js0 c0 l k ep eg
      obtain ⟨e3, _, _, _⟩ := plAt_some ep
      split at e2
      · rename_i j ej
        cases e2
        obtain ⟨v, w, ev, pv, _, hL⟩ := s.path ep
        obtain ⟨p, xs, rfl, hp, hx⟩ := hL l rfl
        have hj : j < xs.length := by rw [hx]; exact ixN_lt ej
        refine ⟨ρ, js0, _, _, s, ep, fun v' w' ev' pv' => ⟨ρ, _, s, eg, fun u hu => ?_⟩⟩
        have e4 : v' = v := by rw [ev] at ev'; cases ev'; rfl
        subst e4
        cases PathV.uniq pv pv'
        exact .inr (.inl ⟨p, xs, k, xs[j], rfl, hu, SqT.of hp, by unfold atI; rw [hx, ej]; simp [hj], q _ _ ev (PathV.snoc (.inr hp) (by simp [hj]) pv)⟩)
      · cases e2
    · cases e2
/-- o[j] = e -/
def sSet (i : Nat) (fs : Env → Option (List Nat)) (g : Env → Option D) (x : Env → Option (Cell × Env)) : Env → Option Out := fun ρ => match x ρ with
  | some (c, ρ1) => (match plAt i fs ρ1, g ρ1 with
    | some (js, c0, .lst l), some (.int k) => (match ixN l.length k with
      | some j => if fit (c0.1 - 1 - js.length) c then some (.nx (ρ1.set i (some (c0.1, D.put c0.2 js (.lst (l.set j c.2)))))) else none
      | none => none)
    | _, _ => none)
  | none => none
/-- readings under a value that is held -/
theorem Sta.held {B W H : Hp} {ts : List (Option V)} {tc : List (Option Cell)} (r : R X.K X.mg B W H (ts ++ σ) (tc ++ ρ)) (hl : ts.length = tc.length) : Sta X σ H ρ := ⟨B, W, ts, tc, r, hl⟩
theorem s_set (ho : PE X a (plS X i fs)) (hb : PE X b (pS X g)) (he : PE X e (gS X x)) {pos' : Pos}
    (hs : swapsWithSole [.Subscript a b pos] e pos'.line X.env = pure false := by rfl) (hw : swappedStores [.Subscript a b pos] e X.env = pure none := by rfl)
    (h1 : (assignEach [.Subscript a b pos] X.env).map (·.2) = [assign (.Subscript a b pos) X.env] := by rfl)
    (hsub : ∀ v, assign (.Subscript a b pos) X.env v = (do
      let ov ← holding [v] (eval a X.env)
      let iv ← holding [v, ov] (eval b X.env)
      standAt pos
      holding [v, ov, iv] (setItem ov iv v)
      release [v, ov, iv] []) := by intro _; rfl) : PS X (.Assign [.Subscript a b pos] e pos') (sS X pr (sSet i fs g x)) :=
  PSi (ps_asg he (pg_sub ho hb set_list hsub) hs hw h1) fun Dn σ H ⟨B, W, ρ, o, r, em, q⟩ => by
    unfold sSet at em
    split at em
    · rename_i c ρ1 ex
      split at em
      · rename_i js c0 l k ep eg
        split at em
        · rename_i j ej
          split at em
          · rename_i hf
            cases em
            obtain ⟨e1, e2, hlt, ed⟩ := plAt_some ep
            refine ⟨B, W, [], [], ρ, c, ρ1, r, rfl, ex, fun W1 H1 v g1 r1 => ?_⟩
            have s1 : Sta X σ H1 ρ1 := ⟨B, W1, [some v], [some c], r1, rfl⟩
            obtain ⟨m, hm⟩ : ∃ m, c0.1 = m + 1 + js.length := ⟨c0.1 - 1 - js.length, by omega⟩
            have hm2 : c0.1 - 1 - js.length = m := by omega
            rw [hm2] at hf
            obtain ⟨W2, v0, p, xs, ev, pv, hp, hx, g2, r2⟩ := R.pathSet (k := m) (d := c0.2) (js := js) r1 (i := i) (by rw [← hm]; exact e1) ed (ixN_lt ej) hf
            rw [← hm] at r2
            refine ⟨ρ1, js, c0, _, s1, ep, fun v' w' ev' pv' => ⟨ρ1, _, s1, eg, fun u hu => ?_⟩⟩
            have ev2 : σ[i]? = some (some v0) := ev
            have e4 : v' = v0 := by rw [ev2] at ev'; cases ev'; rfl
            subst e4
            cases PathV.uniq pv pv'
            exact ⟨p, xs, k, j, rfl, hu, hp, by rw [hx]; exact ej, q W2 _ σ (g1.trans g2) r2 Pr.refl⟩
          · cases em
        · cases em
      · cases em
    · cases em
/-- a cell's objects stand still while something else goes on -/
theorem R.hold {K : PySem.W.Frag} {mg : Str → Option Value} {B W H : Hp} {vs : List (Option V)} {cs : List (Option Cell)} {c : Cell} (r : R K mg B W H vs cs) {i : Nat} (e : cs[i]? = some (some c)) :
    ∃ (v : V) (F : Fp) (B1 : Hp), vs[i]? = some (some v) ∧ Own K mg W H c.1 c.2 v F ∧ (∀ b, F b ≤ 1) ∧ R K mg B1 W H vs (cs.set i none) ∧
      ∀ (W1 H1 : Hp) (vs1 : List (Option V)) (cs1 : List (Option Cell)), Gr B1 W W1 → R K mg B1 W1 H1 vs1 cs1 → Gr B W W1 ∧ R K mg B W1 H1 (some v :: vs1) (some c :: cs1) ∧ ∀ b, F b ≠ 0 → H1 b = H b := by
  obtain ⟨T, h, hT⟩ := r.ex
  have hth := h.there
  obtain ⟨ov, F, G, ev, ⟨u, eu, ho⟩, h3, put⟩ := h.focus e
  have p := put W H ov none (fun _ => 0) (Same.refl W) (fun _ _ => rfl) fun _ => rfl
  rw [set_self ev] at p
  let B1 : Hp := fun b => if F b = 0 then B b else H b
  have b1 : ∀ b, F b = 0 → B1 b = B b := fun b hb => if_pos hb
  have b2 : ∀ b, F b ≠ 0 → B1 b = H b := fun b hb => if_neg hb
  have nb : ∀ b, B1 b = none → B b = none := fun b hb => by
    by_cases z : F b = 0
    · rw [b1 b z] at hb; exact hb
    · exact ((hT b).2 (by have := h3 b; omega)).2
  have hF : ∀ b, F b ≠ 0 → ∃ o, H b = some o := fun b hb => by
    cases q : H b with
    | none => exact absurd q (hth b (by have := h3 b; omega))
    | some o => exact ⟨o, rfl⟩
  refine ⟨u, F, B1, by rw [ev, eu], ho, fun b => by have := (hT b).1; have := h3 b; omega, ⟨r.sw, fun b o q => ?_, _, p, fun b => ⟨by have := (hT b).1; have := h3 b; show 0 + G b ≤ 1; omega, fun hb => ?_⟩⟩, fun W1 H1 vs1 cs1 g r1 => ?_⟩
  · by_cases z : F b = 0
    · rw [b1 b z] at q; exact r.sb b o q
    · rw [b2 b z] at q; exact q
  · have hb' : G b ≠ 0 := by have : 0 + G b ≠ 0 := hb; omega
    have z : F b = 0 := by have := (hT b).1; have := h3 b; omega
    rw [b1 b z]
    exact (hT b).2 (by have := h3 b; omega)
  · have still : ∀ b, F b ≠ 0 → H1 b = H b := fun b hb => by
      obtain ⟨o, q⟩ := hF b hb
      rw [q]
      exact r1.sb b o (by rw [b2 b hb, q])
    obtain ⟨T1, c1, hT1⟩ := r1.ex
    have f0 : ∀ b, F b ≠ 0 → T1 b = 0 := fun b hb => by
      by_cases z : T1 b = 0
      · exact z
      · obtain ⟨o, q⟩ := hF b hb
        have := ((hT1 b).2 z).2
        rw [b2 b hb, q] at this; cases this
    refine ⟨⟨g.sm, fun a e n => nb a (g.nb a e n)⟩, ⟨r1.sw, fun b o q => ?_, fun b => F b + T1 b, ⟨F, T1, ⟨u, rfl, Own.mono g.sm _ _ _ _ ho still⟩, c1, fun _ => rfl⟩, fun b => ?_⟩, still⟩
    · by_cases z : F b = 0
      · exact r1.sb b o (by rw [b1 b z]; exact q)
      · have := ((hT b).2 (by have := h3 b; omega)).2
        rw [q] at this; cases this
    · by_cases z : F b = 0
      · refine ⟨by have := (hT1 b).1; show F b + T1 b ≤ 1; omega, fun hb => ?_⟩
        obtain ⟨q1, q2⟩ := (hT1 b).2 (by have : F b + T1 b ≠ 0 := hb; omega)
        exact ⟨q1, nb b q2⟩
      · refine ⟨by have := f0 b z; have := (hT b).1; have := h3 b; show F b + T1 b ≤ 1; omega, fun _ => ?_⟩
        have hb := (hT b).2 (by have := h3 b; omega)
        refine ⟨?_, hb.2⟩
        cases q : W1 b with
        | none => rfl
        | some o =>
          obtain ⟨o', q'⟩ := hF b z
          have := g.nb b hb.1 (by rw [q]; simp)
          rw [b2 b z, q'] at this; cases this
/-- x.append(e) -/
def sApp0 (i : Nat) (x : Env → Option (Cell × Env)) : Env → Option Out := fun ρ => match pVar i ρ, x ρ with
  | some (.lst _), some (c, ρ1) => (match ρ1[i]? with
    | some (some (k + 1, .lst l)) => if fit k c && decide (l.length < sizeLine) then some (.nx (ρ1.set i (some (k + 1, .lst (l ++ [c.2]))))) else none
    | _ => none)
  | _, _ => none
theorem one_arg {t : TE} (he : PE X e t) (hs : starEach (e :: []) X.env = (false, eval e X.env) :: starEach [] X.env := by rfl) : PA X [e] (tCons t tNil) := pa_cons he pa_nil hs
theorem s_app0 {apos cpos : Pos} (ho : PE X a (tVar i)) (he : PE X e (gS X x))
    (hbase : attributeBase a "append" X.env (eval a X.env) = eval a X.env := by rfl)
    (hfew : ((backTo cpos (starEach [e] X.env)).all (fun x => !x.1) && (backToKw cpos (keywordEach [] X.env)).all (fun x => x.1.isSome)
      && decide ([e].length + ([] : List Keyword).length + (if ([] : List Keyword).isEmpty then 0 else 1) < 30)) = true := by rfl)
    (hline : (apos.endLine == cpos.line) = true := by rfl) (hs : starEach [e] X.env = (false, eval e X.env) :: starEach [] X.env := by rfl) (hplain : (backTo cpos (starEach [] X.env)).any (·.1) = false := by rfl)
    (hsw : swapsWith (.Call (.Attribute a "append" apos) [e] [] cpos) none pos.line X.env = pure false := by rfl) :
    PS X (.Expr (.Call (.Attribute a "append" apos) [e] [] cpos) pos) (sS X pr (sApp0 i x)) :=
  PSi (ps_expr (pe_bm PySem.F.plainAttrs_list PySem.F.slot_list_append PySem.F.type_list_append mt_append ho (pa_cons he pa_nil hs) hbase hfew hline hs hplain) hsw) fun Dn σ H ⟨B, W, ρ, o, r, em, q⟩ => by
    unfold sApp0 at em
    split at em
    · rename_i l0 c ρ1 ev0 ex
      split at em
      · rename_i k l ec
        split at em
        · rename_i hf
          rw [Bool.and_eq_true] at hf
          cases em
          have s0 : Sta X σ H ρ := ⟨B, W, [], [], r, rfl⟩
          obtain ⟨v0, ev, a0, xs0, e0, h0, _⟩ := s0.var ev0
          refine ⟨v0, ev, ?_, B, W, [], [], ρ, c, ρ1, r, rfl, ex, fun W1 H1 v g1 r1 => ?_⟩
          · rw [e0]; exact .inl ⟨rfl, xs0, h0.sq⟩
          · obtain ⟨W2, v1, p, xs, ev1, pv, hp, hx, g2, r2⟩ := R.pathApp (k := k) (js := []) (l := l) (d := .lst l) r1 (i := i) ec rfl hf.1
            have ev2 : σ[i]? = some (some v1) := ev1
            rw [ev] at ev2; cases ev2
            cases pv
            exact ⟨p, xs, v, rfl, rfl, hp, by rw [hx]; exact of_decide_eq_true hf.2, q W2 _ σ (g1.trans g2) r2 Pr.refl⟩
        · cases em
      · cases em
    · cases em
theorem Own.pathKeep {K : PySem.W.Frag} {mg : Str → Option Value} {W H H' : Hp} : ∀ (js : List Nat) (k : Nat) (d d' : D) (v : V) (F : Fp), Own K mg W H (k + js.length) d v F → D.at d js = some d' → (∀ b, F b ≠ 0 → H' b = H b) → ∀ {w : V}, PathV H v js w → PathV H' v js w
  | [], k, d, d', v, F, h, _, _, _, p => by cases p; exact .nil
  | j :: js, k, d, d', v, F, h, e, f, w, p => by
    have hk : k + (j :: js).length = (k + js.length) + 1 := by simp only [List.length_cons]; omega
    rw [hk] at h
    cases d with
    | lst l =>
      obtain ⟨a, vs, G, rfl, h1, h2, h3⟩ := h
      simp only [D.at] at e
      split at e
      · rename_i x ex
        obtain ⟨u, Fu, G0, eu, hu, hg, put⟩ := OwnL.focus h2 ex
        cases p with
        | lst q1 q2 q3 =>
          rw [h1] at q1; cases q1
          rw [eu] at q2; cases q2
          exact .lst (by rw [f a (by have := h3 a; rw [if_pos rfl] at this; omega)]; exact h1) eu (Own.pathKeep js k x d' u Fu hu e (fun b hb => f b (by have := h3 b; have := hg b; omega)) q3)
        | tup q1 q2 q3 => rw [h1] at q1; cases q1
      · cases e
    | tup l =>
      obtain ⟨a, vs, G, rfl, h1, h2, h3⟩ := h
      simp only [D.at] at e
      split at e
      · rename_i x ex
        obtain ⟨u, Fu, G0, eu, hu, hg, put⟩ := OwnL.focus h2 ex
        cases p with
        | tup q1 q2 q3 =>
          rw [h1] at q1; cases q1
          rw [eu] at q2; cases q2
          exact .tup (by rw [f a (by have := h3 a; rw [if_pos rfl] at this; omega)]; exact h1) eu (Own.pathKeep js k x d' u Fu hu e (fun b hb => f b (by have := h3 b; have := hg b; omega)) q3)
        | lst q1 q2 q3 => rw [h1] at q1; cases q1
      · cases e
    | non => cases e
    | bl _ => cases e
    | int _ => cases e
    | str _ => cases e
    | dct _ => cases e
    | gl _ => cases e
/-- x[j]..append(e), e without x -/
def sApp (i : Nat) (fs : Env → Option (List Nat)) (x : Env → Option (Cell × Env)) : Env → Option Out := fun ρ => match plAt i fs ρ with
  | some (js, c0, .lst l) => (match x (ρ.set i none) with
    | some (c, ρ1) => if fit (c0.1 - 1 - js.length) c && decide (l.length < sizeLine) then some (.nx (ρ1.set i (some (c0.1, D.put c0.2 js (.lst (l ++ [c.2])))))) else none
    | none => none)
  | _ => none
theorem s_app {apos cpos : Pos} (ho : PE X a (plS X i fs)) (he : PE X e (gS X x))
    (hbase : attributeBase a "append" X.env (eval a X.env) = eval a X.env := by rfl)
    (hfew : ((backTo cpos (starEach [e] X.env)).all (fun x => !x.1) && (backToKw cpos (keywordEach [] X.env)).all (fun x => x.1.isSome)
      && decide ([e].length + ([] : List Keyword).length + (if ([] : List Keyword).isEmpty then 0 else 1) < 30)) = true := by rfl)
    (hline : (apos.endLine == cpos.line) = true := by rfl) (hs : starEach [e] X.env = (false, eval e X.env) :: starEach [] X.env := by rfl) (hplain : (backTo cpos (starEach [] X.env)).any (·.1) = false := by rfl)
    (hsw : swapsWith (.Call (.Attribute a "append" apos) [e] [] cpos) none pos.line X.env = pure false := by rfl) :
    PS X (.Expr (.Call (.Attribute a "append" apos) [e] [] cpos) pos) (sS X pr (sApp i fs x)) :=
  PSi (ps_expr (pe_bm PySem.F.plainAttrs_list PySem.F.slot_list_append PySem.F.type_list_append mt_append ho (pa_cons he pa_nil hs) hbase hfew hline hs hplain) hsw) fun Dn σ H ⟨B, W, ρ, o, r, em, q⟩ => by
    unfold sApp at em
    split at em
    · rename_i js c0 l ep
      split at em
      · rename_i c ρ1 ex
        split at em
        · rename_i hf
          rw [Bool.and_eq_true] at hf
          cases em
          obtain ⟨e1, e2, hlt, ed⟩ := plAt_some ep
          obtain ⟨m, hm⟩ : ∃ m, c0.1 = m + 1 + js.length := ⟨c0.1 - 1 - js.length, by omega⟩
          rw [show c0.1 - 1 - js.length = m by omega] at hf
          have s0 : Sta X σ H ρ := ⟨B, W, [], [], r, rfl⟩
          refine ⟨ρ, js, c0, _, s0, ep, fun v0 w ev pv => ?_⟩
          obtain ⟨v1, F, B1, ev1, ho1, hF1, rh, back⟩ := r.hold e1
          rw [ev1] at ev; cases ev
          rw [hm] at ho1
          obtain ⟨w1, F1, F2, pv1, ow1, _, _⟩ := Own.path js (m + 1) c0.2 (.lst l) v0 F ho1 hF1 ed
          cases PathV.uniq pv pv1
          obtain ⟨p, xs, G1, rfl, hp, hxl, _⟩ := ow1
          refine ⟨.inl ⟨rfl, xs, SqL.of hp⟩, B1, W, [], [], ρ.set i none, c, ρ1, rh, rfl, ex, fun W1 H1 v g1 r1 => ?_⟩
          obtain ⟨g2, r2, still⟩ := back W1 H1 _ _ g1 r1
          have r3 := R.move r2 (i + 1)
          have e3 : ((some v :: ([] ++ σ)).set (i + 1) (some v0)) = some v :: σ := by
            rw [List.set_cons_succ, List.nil_append, set_self ev1]
          rw [e3, List.set_cons_succ, List.nil_append] at r3
          have hi : i < ρ1.length := by
            have h1 := r3.length
            simp only [List.length_cons, List.length_set] at h1
            have h2 := r.length
            have := (List.getElem?_eq_some_iff.mp e1).1
            omega
          obtain ⟨W2, v2, p2, xs2, ev2, pv2, hp2, hx2, g3, r4⟩ := R.pathApp (k := m) (js := js) (l := l) (d := c0.2) r3 (i := i) (by rw [List.getElem?_set_self hi, ← hm]) ed hf.1
          have ev3 : σ[i]? = some (some v2) := ev2
          rw [ev1] at ev3; cases ev3
          have pv3 : PathV H1 v0 js (.ref p) := Own.pathKeep js (m + 1) c0.2 (.lst l) v0 F ho1 ed still pv
          cases PathV.uniq pv2 pv3
          rw [List.set_set, ← hm] at r4
          exact ⟨p, xs2, v, rfl, rfl, hp2, by rw [hx2]; exact of_decide_eq_true hf.2, q W2 _ σ (g2.trans g3) r4 Pr.refl⟩
        · cases em
      · cases em
    · cases em
end
end Mn

namespace Mn
open PySem PySem.Spec PyProof.Rows L2
/-! ### defs -/
abbrev Sp1 := List V → Hp → VK → Prop
structure FnG (P : Program) (w : World) (K : PySem.W.Frag) (mg : Str → Option Value) (base : Heap) (k : Nat) (f : Addr) (fd : FuncData) (ps : List Str) (sp : Sp1) : Prop where
  len : ∀ vs H Q, sp vs H Q → vs.length = ps.length
  run : ∀ (A : Around) (outer : List PySem.Env) (s : Shared) (H : Hp) (args : Args) (us : List Value) (vs : List V) (Q : VK), Room k A → A.guards = some [] → Env0 P w K mg base A outer s H → BindsTo s fd args (ps.zip us) → Vals vs us → sp vs H Q →
    codeAny (model P w) A (.call (.ref f) args) (CR CX0 outer P w H s Q E0) s
/-- the name x of the module is a def that keeps the promise sp by at most k levels -/
structure FnAt (P : Program) (w : World) (K : PySem.W.Frag) (mg : Str → Option Value) (base : Heap) (k : Nat) (x : Str) (n : Nat) (sp : Sp1) : Prop where
  ex : ∃ (f : Addr) (fd : FuncData) (ps : List Str), mg x = some (.ref f) ∧ PySem.W.keepIn K (.ref f) = true ∧ Binds K fd ps [] ∧ ps.length = n ∧ FnG P w K mg base k f fd ps sp
theorem FnG.mono {P : Program} {w : World} {K : PySem.W.Frag} {mg : Str → Option Value} {base : Heap} {j k : Nat} {f : Addr} {fd : FuncData} {ps : List Str} {sp : Sp1} (F : FnG P w K mg base j f fd ps sp) (h : j ≤ k) : FnG P w K mg base k f fd ps sp :=
  ⟨F.len, fun A outer s H args us vs Q hr => F.run A outer s H args us vs Q (hr.mono h)⟩
theorem FnAt.mono {P : Program} {w : World} {K : PySem.W.Frag} {mg : Str → Option Value} {base : Heap} {j k : Nat} {x : Str} {n : Nat} {sp : Sp1} (F : FnAt P w K mg base j x n sp) (h : j ≤ k) : FnAt P w K mg base k x n sp := by
  obtain ⟨f, fd, ps, h1, h2, h3, h4, h5⟩ := F.ex
  exact ⟨f, fd, ps, h1, h2, h3, h4, h5.mono h⟩
section
variable {P : Program} {w : World} {K : PySem.W.Frag} {mg : Str → Option Value} {base : Heap}
theorem fnG_of {k : Nat} {f : Addr} {name qual : Str} {params : Arguments} {body : List Stmt} {scope : Scope} {dV kV doc pm cdv ct oc : Value} {an od : Option Addr}
    {osl : Array (Option Value)} {N ps : List Str} {sp : Sp1} (lk : K.lookup f = some ⟨oc, od, .func (PySem.W.fnOf name qual params body scope dV kV doc pm an cdv ct), osl⟩) (hcd : PySem.W.codeIn K cdv qual = true) (S : FnScope N ps scope)
    (len : ∀ vs H Q, sp vs H Q → vs.length = ps.length)
    (hbody : ∀ (A : Around) (outer : List PySem.Env) (s : Shared) (H : Hp) (vs : List V) (Q : VK), Room k (A.deeper (envOfC qual scope s.heap.objs.size f cdv)) → (A.deeper (envOfC qual scope s.heap.objs.size f cdv)).guards = some [] → sp vs H Q →
      ∃ t, PSs (cxOf CX0 P w K mg base N qual scope f cdv A outer s H E0).nox body t ∧ t { nx := fun _ H' => Q .non H', rt := Q } (L2.start N vs) H) :
    FnG P w K mg base (k + 1) f (PySem.W.fnOf name qual params body scope dV kV doc pm an cdv ct) ps sp := by
  refine ⟨len, fun A outer s H args us vs Q hr hgd e0 hb r hsp => ?_⟩
  have hl := len _ _ _ hsp
  have KX : K.In s.heap := e0.mod.kin.keeps fun b o e => (e0.bs b o e).1
  have lim : s.heap.NoLimit := e0.mod.nolimit.keeps fun b o e => (e0.bs b o e).1
  have hkind : ∀ y ∈ ps.zip us, scope.names.lookup y.1 = some .local ∨ (scope.names.lookup y.1 = some .cell ∧ ((cellsFrom (s.heap.objs.size + 1) scope.names []).lookup y.1).isSome = true) := fun ⟨n, v⟩ hy => by
    rcases S.par n (List.of_mem_zip hy).1 with q | q
    · exact .inl q
    · exact .inr ⟨q, PySem.W.cellsFrom_some _ _ _ (.inl q)⟩
  refine codeAny_call_function hr.depth (KX _ _ lk) rfl S.co S.gen rfl (PySem.W.codeRec_of KX hcd) (hb _ _ _ _ ?_)
  refine wpAny_newFunctionEnv_cells S.kind hkind fun env he s1 x => ?_
  subst he
  refine ⟨lim.keeps x.toInCall.keep, codeAny_func ?_⟩
  obtain ⟨t, ht, hq⟩ := hbody A outer s H vs Q (hr.deeper _) hgd hsp
  have ht := ht.nox
  have I : Inv (cxOf CX0 P w K mg base N qual scope f cdv A outer s H E0) [] (L2.start N vs) H s1 := inv_start S hr.hd e0 hl r x
  refine wpAny_mono (ht.run [] s1 (L2.start N vs) H _ I hq) (fun fl s' hs => ?_) fun e s' hs => hs
  have fin : ∀ {σ' : L2.St} {H' : Hp} {v : V} {u : Value}, Inv (cxOf CX0 P w K mg base N qual scope f cdv A outer s H E0) [] σ' H' s' → RelV v u → Q v H' → CE outer P w H s Q u s' :=
    fun {σ' H' v u} J rv q => ⟨v, H', J.os, J.bare, J.base, J.hok, rv, q⟩
  cases fl with
  | ret u =>
    obtain ⟨v, σ', H', J, rv, q⟩ := hs
    exact fin J rv q
  | next =>
    obtain ⟨σ', H', J, q⟩ := hs
    exact fin (v := V.non) (u := Value.none) J rfl q
  | brk =>
    obtain ⟨_, _, _, q⟩ := hs
    exact False.elim q
  | cont =>
    obtain ⟨_, _, _, q⟩ := hs
    exact False.elim q
/-- a def by its body -/
theorem FnAt.of {x qual : Str} {st : Stmt} {f : Addr} {fd : FuncData} {N ps : List Str} {k n : Nat} {sp : Sp1} (F : Fun K x qual st f fd) (hm : mg x = some (.ref f)) (S : FnScope N ps (defScope st)) (hn : ps.length = n) (hb : Binds K fd ps []) (len : ∀ vs H Q, sp vs H Q → vs.length = ps.length)
    (hbody : ∀ (cdv : Value) (A : Around) (outer : List PySem.Env) (s : Shared) (H : Hp) (vs : List V) (Q : VK), Room k (A.deeper (envOfC qual (defScope st) s.heap.objs.size f cdv)) → (A.deeper (envOfC qual (defScope st) s.heap.objs.size f cdv)).guards = some [] → sp vs H Q →
      ∃ t, PSs (cxOf CX0 P w K mg base N qual (defScope st) f cdv A outer s H E0).nox (defBody st) t ∧ t { nx := fun _ H' => Q .non H', rt := Q } (L2.start N vs) H) : FnAt P w K mg base (k + 1) x n sp := by
  obtain ⟨oc, od, kV, doc, pm, an, cdv, ct, osl, rfl, lk, hcd⟩ := F.ex
  exact ⟨f, _, ps, hm, F.kp, hb, hn, fnG_of lk hcd S len fun A outer s H vs Q hr hg hsp => hbody cdv A outer s H vs Q hr hg hsp⟩
end
/-! ### promises -/
/-- a function of data that changes nothing that was there -/
abbrev Fp0 := List D → Option Cell
/-- one that changes its first argument's object -/
abbrev Fp1 := Cell → List D → Option (Cell × Cell)
def sp0 (K : PySem.W.Frag) (mg : Str → Option Value) (n : Nat) (F : Fp0) : Sp1 := fun vs H Q => ∃ (B W : Hp) (ds : List D) (c : Cell), R K mg B W H [] [] ∧ RepL K mg W ds vs ∧ ds.length = n ∧ F ds = some c ∧ ∀ W' H' v, Gr B W W' → R K mg B W' H' [some v] [some c] → Q v H'
def sp1 (K : PySem.W.Frag) (mg : Str → Option Value) (n : Nat) (F : Fp1) : Sp1 := fun vs H Q => ∃ (B W : Hp) (v0 : V) (vr : List V) (c0 : Cell) (ds : List D) (c c1 : Cell), vs = v0 :: vr ∧ R K mg B W H [some v0] [some c0] ∧ RepL K mg W ds vr ∧ ds.length + 1 = n ∧ F c0 ds = some (c, c1) ∧
  ∀ W' H' v, Gr B W W' → R K mg B W' H' [some v, some v0] [some c, some c1] → Q v H'
/-- the environment at the entry -/
def env0 (N : Nat) (ds : List D) : Env := (ds.map fun d => some (0, d)) ++ List.replicate (N - ds.length) none
def env1 (N : Nat) (c : Cell) (ds : List D) : Env := some c :: ((ds.map fun d => some (0, d)) ++ List.replicate (N - (ds.length + 1)) none)
def run0 (N : Nat) (m : Env → Option Out) : Fp0 := fun ds => match m (env0 N ds) with
  | some (.rt c _) => some c
  | some (.nx _) => some (0, .non)
  | _ => none
def run1 (N : Nat) (m : Env → Option Out) : Fp1 := fun c ds => match m (env1 N c ds) with
  | some (.rt c1 ρ) => (match ρ[0]? with | some (some c0) => some (c1, c0) | _ => none)
  | some (.nx ρ) => (match ρ[0]? with | some (some c0) => some ((0, .non), c0) | _ => none)
  | _ => none
section
variable {K : PySem.W.Frag} {mg : Str → Option Value} {B W H : Hp}
theorem R.nones (r : R K mg B W H [] []) : ∀ n : Nat, R K mg B W H (List.replicate n none) (List.replicate n none)
  | 0 => r
  | n + 1 => by
    have r' := R.nones r n
    obtain ⟨T, h, hT⟩ := r'.ex
    exact ⟨r'.sw, r'.sb, T, ⟨fun _ => 0, T, fun _ => rfl, h, fun b => (Nat.zero_add _).symm⟩, hT⟩
theorem R.args : ∀ {ds : List D} {vs : List V} {xs : List (Option V)} {cs : List (Option Cell)}, R K mg B W H xs cs → RepL K mg W ds vs → R K mg B W H (vs.map some ++ xs) ((ds.map fun d => some (0, d)) ++ cs)
  | [], _, _, _, r, h => by cases (show _ = [] from h); exact r
  | d :: ds, _, _, _, r, h => by
    obtain ⟨v, vr, rfl, h1, h2⟩ := h
    exact (R.args r h2).push0 h1
theorem env0_r (r : R K mg B W H [] []) {N : List Str} {ds : List D} {vs : List V} (h : RepL K mg W ds vs) : R K mg B W H (L2.start N vs) (env0 N.length ds) := by
  unfold L2.start env0
  rw [h.length]
  exact R.args (R.nones r _) h
theorem env1_r {v0 : V} {c0 : Cell} (r : R K mg B W H [some v0] [some c0]) {N : List Str} {ds : List D} {vs : List V} (h : RepL K mg W ds vs) : R K mg B W H (L2.start N (v0 :: vs)) (env1 N.length c0 ds) := by
  have hl := h.length
  have e : L2.start N (v0 :: vs) = some v0 :: (vs.map some ++ List.replicate (N.length - (ds.length + 1)) none) := by
    unfold L2.start
    rw [List.length_cons, hl]; rfl
  rw [e]
  unfold env1
  obtain ⟨T, ⟨F, G, h1, h2, h3⟩, hT⟩ := r.ex
  have hG : ∀ b, G b = 0 := h2
  -- the rest holds nothing
  have r0 : R K mg B W H [] [] := R.drop r
  have r1 := R.args (R.nones r0 (N.length - (ds.length + 1))) h
  obtain ⟨T1, c1, hT1⟩ := r1.ex
  have z : ∀ (ds : List D) (vs : List V) (n : Nat) (T : Fp), Cells K mg W H (vs.map some ++ List.replicate n none) ((ds.map fun d => some (0, d)) ++ List.replicate n none) T → ds.length = vs.length → ∀ b, T b = 0 := by
    intro ds
    induction ds with
    | nil =>
      intro vs n T hc hl
      cases vs with
      | cons _ _ => simp at hl
      | nil =>
        induction n generalizing T with
        | zero => exact hc
        | succ n ih =>
          obtain ⟨F, G, a1, a2, a3⟩ := hc
          intro b
          have := ih G a2 b
          have := a3 b
          have : F b = 0 := a1 b
          omega
    | cons d ds ih =>
      intro vs n T hc hl
      cases vs with
      | nil => simp at hl
      | cons v vs =>
        obtain ⟨F, G, ⟨u, _, a1⟩, a2, a3⟩ := hc
        intro b
        have := ih vs n G a2 (by simpa using hl) b
        have := a3 b
        have : F b = 0 := a1.2 b
        omega
  have hz := z ds vs _ T1 c1 hl.symm
  exact ⟨r.sw, r.sb, T, ⟨F, T1, h1, c1, fun b => by have := h3 b; have := hG b; have := hz b; omega⟩, hT⟩
/-- two heads, the rest dropped -/
theorem R.two {v v0 : Option V} {c c0 : Option Cell} {vs : List (Option V)} {cs : List (Option Cell)} (r : R K mg B W H (v :: v0 :: vs) (c :: c0 :: cs)) : R K mg B W H [v, v0] [c, c0] := by
  obtain ⟨T, ⟨F, G, h1, ⟨F1, G1, h2, h3, h4⟩, h5⟩, hT⟩ := r.ex
  exact ⟨r.sw, r.sb, fun b => F b + (F1 b + 0), ⟨F, fun b => F1 b + 0, h1, ⟨F1, fun _ => 0, h2, fun _ => rfl, fun _ => rfl⟩, fun _ => rfl⟩, fun b => ⟨by have := (hT b).1; have := h4 b; have := h5 b; show F b + (F1 b + 0) ≤ 1; omega, fun hb => (hT b).2 (by have := h4 b; have := h5 b; have : F b + (F1 b + 0) ≠ 0 := hb; omega)⟩⟩
theorem R.one {v : Option V} {c : Option Cell} {vs : List (Option V)} {cs : List (Option Cell)} (r : R K mg B W H (v :: vs) (c :: cs)) : R K mg B W H [v] [c] := by
  obtain ⟨T, ⟨F, G, h1, h2, h5⟩, hT⟩ := r.ex
  exact ⟨r.sw, r.sb, fun b => F b + 0, ⟨F, fun _ => 0, h1, fun _ => rfl, fun _ => rfl⟩, fun b => ⟨by have := (hT b).1; have := h5 b; show F b + 0 ≤ 1; omega, fun hb => (hT b).2 (by have := h5 b; have : F b + 0 ≠ 0 := hb; omega)⟩⟩
end
section
variable {P : Program} {w : World} {K : PySem.W.Frag} {mg : Str → Option Value} {base : Heap}
/-- THE RULE for a def that changes nothing -/
theorem FnAt.of0 {x qual : Str} {st : Stmt} {f : Addr} {fd : FuncData} {N ps : List Str} {k n : Nat} {m : Env → Option Out} (F : Fun K x qual st f fd) (hm : mg x = some (.ref f)) (S : FnScope N ps (defScope st)) (hn : ps.length = n) (hb : Binds K fd ps [])
    (hbody : ∀ X : Cx, X.prog = P → X.w = w → X.K = K → X.mg = mg → X.base = base → X.N = N → X.env.scope = defScope st → X.fn = (fun _ => true) → X.calm = true → Room k X.A → X.A.guards = some [] → X.xe = (fun _ _ => False) → PSs X (defBody st) (sS X [] m)) :
    FnAt P w K mg base (k + 1) x n (sp0 K mg n (run0 N.length m)) :=
  FnAt.of F hm S hn hb (fun vs H Q ⟨B, W, ds, c, r, h, hl, _⟩ => by rw [h.length, hl, hn]) fun cdv A outer s H vs Q hr hg ⟨B, W, ds, c, r, h, hl, ef, q⟩ => by
    refine ⟨_, hbody _ rfl rfl rfl rfl rfl rfl rfl rfl rfl hr hg rfl, ?_⟩
    unfold run0 at ef
    split at ef
    · rename_i c' ρ' em
      cases ef
      exact ⟨B, W, _, _, env0_r r h, em, fun W' H' σ' v g r' _ => q W' H' v g (R.one r')⟩
    · rename_i ρ' em
      cases ef
      exact ⟨B, W, _, _, env0_r r h, em, fun W' H' σ' g r' _ => q W' H' .non g (R.one (r'.push0 rfl))⟩
    · cases ef
theorem FnAt.of1 {x qual : Str} {st : Stmt} {f : Addr} {fd : FuncData} {N ps : List Str} {k n : Nat} {m : Env → Option Out} (F : Fun K x qual st f fd) (hm : mg x = some (.ref f)) (S : FnScope N ps (defScope st)) (hn : ps.length = n) (hb : Binds K fd ps [])
    (hbody : ∀ X : Cx, X.prog = P → X.w = w → X.K = K → X.mg = mg → X.base = base → X.N = N → X.env.scope = defScope st → X.fn = (fun _ => true) → X.calm = true → Room k X.A → X.A.guards = some [] → X.xe = (fun _ _ => False) → PSs X (defBody st) (sS X [0] m)) :
    FnAt P w K mg base (k + 1) x n (sp1 K mg n (run1 N.length m)) :=
  FnAt.of F hm S hn hb (fun vs H Q ⟨B, W, v0, vr, c0, ds, c, c1, ev, r, h, hl, _⟩ => by rw [ev, List.length_cons, h.length, hl, hn]) fun cdv A outer s H vs Q hr hg ⟨B, W, v0, vr, c0, ds, c, c1, ev, r, h, hl, ef, q⟩ => by
    subst ev
    refine ⟨_, hbody _ rfl rfl rfl rfl rfl rfl rfl rfl rfl hr hg rfl, ?_⟩
    have first : ∀ {σ' : L2.St}, Pr [0] (L2.start N (v0 :: vr)) σ' → ∃ r, σ' = some v0 :: r := fun {σ'} hp => by
      have e := hp 0 (by simp)
      have e2 : (L2.start N (v0 :: vr))[0]? = some (some v0) := rfl
      rw [e2] at e
      cases σ' with
      | nil => cases e
      | cons a r => cases (show some a = some (some v0) from e); exact ⟨r, rfl⟩
    unfold run1 at ef
    split at ef
    · rename_i c' ρ' em
      split at ef
      · rename_i c0' e0
        cases ef
        refine ⟨B, W, _, _, env1_r r h, em, fun W' H' σ' v g r' hp => ?_⟩
        obtain ⟨rr, rfl⟩ := first hp
        cases ρ' with
        | nil => cases e0
        | cons a ρr =>
          cases (show some a = _ from e0)
          exact q W' H' v g (R.two r')
      · cases ef
    · rename_i ρ' em
      split at ef
      · rename_i c0' e0
        cases ef
        refine ⟨B, W, _, _, env1_r r h, em, fun W' H' σ' g r' hp => ?_⟩
        obtain ⟨rr, rfl⟩ := first hp
        cases ρ' with
        | nil => cases e0
        | cons a ρr =>
          cases (show some a = _ from e0)
          exact q W' H' .non g (R.two (r'.push0 rfl))
      · cases ef
    · cases ef
end
/-! ### calls -/
section
variable {X : Cx} {e : Expr} {es : List Expr} {ms : Env → Option (List D × Env)} {p pos : Pos} {x : Str} {k n : Nat} {fd : FuncData} {f : Addr} {ps : List Str} {sp : Sp1} {t : TA}
theorem run_fnG {pins : List (Addr × Obj)} {σ : L2.St} {H : Hp} {s : Shared} {Q : VK} {us : List Value} {vs : List V} (F : FnG X.prog X.w X.K X.mg X.base k f fd ps sp) (hr : Room k X.A) (hgd : X.A.guards = some []) (hb : Binds X.K fd ps [])
    (I : Inv X pins σ H s) (r : Vals vs us) (h : sp vs H Q) : wpAny (model X.prog X.w) X.A (call (.ref f) us) (EP X pins σ Q) X.xe s := by
  have hl : (us ++ []).length = ps.length := by rw [List.append_nil, ← r.length]; exact F.len _ _ _ h
  have hbb := hb s us I.kIn hl
  rw [List.append_nil] at hbb
  refine wpAny_call (codeAny_mono (F.run X.A X.stack s H ⟨us, []⟩ us vs Q hr hgd I.env0 hbb r h) fun r s' hq => ?_)
  cases r with
  | error e => exact False.elim hq
  | ok fl =>
    cases fl with
    | ret u => exact I.after hq
    | next => exact False.elim hq
    | brk => exact False.elim hq
    | cont => exact False.elim hq
def tCallG (sp : Sp1) (t : TA) : TE := fun σ H Q => t σ H fun vs H1 => sp vs H1 Q
theorem pe_callG (F : FnAt X.prog X.w X.K X.mg X.base k x n sp) (hr : Room k X.A) (hgd : X.A.guards = some []) (hg : Gl X x)
    (ha : PA X (e :: es) t) (hdb : (x == ("__debug__" : Str)) = false := by decide) (he : starEach (e :: es) X.env = (false, eval e X.env) :: starEach es X.env := by rfl) (hpl : (backTo pos (starEach es X.env)).any (·.1) = false := by rfl) :
    PE X (.Call (.Name x p) (e :: es) [] pos) (tCallG sp t) := by
  obtain ⟨f, fd, ps, hm, hk, hb, _, F⟩ := F.ex
  refine ⟨fun pins s σ H Q I h => ?_⟩
  refine wpAny_Call_Name_kw (ld_glob I hg hm ?_ hdb)
  refine PySem.W.callWith_K (h₀ := X.base) I.ok.mod.kin hk (thn (ha.run pos pins s σ H _ I h) fun us s1 ⟨vs, H1, I1, r, q⟩ => ⟨I1.kIn, ?_⟩) he hpl
  exact run_fnG F hr hgd hb I1 r q
theorem pe_callG0 (F : FnAt X.prog X.w X.K X.mg X.base k x n sp) (hr : Room k X.A) (hgd : X.A.guards = some []) (hg : Gl X x) (hdb : (x == ("__debug__" : Str)) = false := by decide) :
    PE X (.Call (.Name x p) [] [] pos) (tCallG sp tNil) := by
  obtain ⟨f, fd, ps, hm, hk, hb, _, F⟩ := F.ex
  refine ⟨fun pins s σ H Q I h => ?_⟩
  refine wpAny_Call_Name_kw (ld_glob I hg hm ?_ hdb)
  exact PySem.W.callWith_K0 I.kIn hk (run_fnG (us := []) F hr hgd hb I .nil h)
def mCall (n : Nat) (F : Fp0) (ms : Env → Option (List D × Env)) : Env → Option (Cell × Env) := fun ρ => match ms ρ with
  | some (ds, ρ1) => if ds.length = n then (match F ds with
    | some c => some (c, ρ1)
    | none => none) else none
  | none => none
theorem call0_imp {F : Fp0} {σ : L2.St} {H : Hp} {Q : VK} (h : gS X (mCall n F ms) σ H Q) : tCallG (sp0 X.K X.mg n F) (gA X 0 ms) σ H Q := by
  obtain ⟨B, W, ts, tc, ρ, cl, ρ', r, hl, em, q⟩ := h
  unfold mCall at em
  split at em
  · rename_i ds ρ1 ex
    split at em
    · rename_i hn
      split at em
      · rename_i c ef
        cases em
        refine ⟨B, W, ts, tc, ρ, ds, ρ', r, hl, ex, fun W1 H1 vs g1 r1 => ?_⟩
        have r0 := RL.r r1
        refine ⟨H1, W1, ds, _, ⟨r0.sw, Same.refl _, fun _ => 0, fun _ => rfl, fun b => ⟨Nat.zero_le _, fun hb => (hb rfl).elim⟩⟩, RL.rep0 r1, hn, ef, fun W2 H2 v g2 r2 => ?_⟩
        obtain ⟨g3, r3⟩ := R.called r0 g2 r2
        exact q W2 H2 v (g1.trans g3) r3
      · cases em
    · cases em
  · cases em
theorem g_call {F : Fp0} (hF : FnAt X.prog X.w X.K X.mg X.base k x n (sp0 X.K X.mg n F)) (hr : Room k X.A) (hgd : X.A.guards = some []) (hg : Gl X x)
    (ha : PA X (e :: es) (gA X 0 ms)) (hdb : (x == ("__debug__" : Str)) = false := by decide) (he : starEach (e :: es) X.env = (false, eval e X.env) :: starEach es X.env := by rfl) (hpl : (backTo pos (starEach es X.env)).any (·.1) = false := by rfl) :
    PE X (.Call (.Name x p) (e :: es) [] pos) (gS X (mCall n F ms)) := PEi (pe_callG hF hr hgd hg ha hdb he hpl) fun σ H Q h => call0_imp h
theorem g_call0 {F : Fp0} (hF : FnAt X.prog X.w X.K X.mg X.base k x n (sp0 X.K X.mg n F)) (hr : Room k X.A) (hgd : X.A.guards = some []) (hg : Gl X x) (hdb : (x == ("__debug__" : Str)) = false := by decide) :
    PE X (.Call (.Name x p) [] [] pos) (gS X (mCall n F mNil)) := PEi (pe_callG0 hF hr hgd hg hdb) fun σ H Q h => by
  obtain ⟨B, W, ts, tc, ρ, ds, ρ', r, hl, ex, q⟩ := call0_imp h
  cases ex
  exact q W H [] (Gr.refl B W) (RL.nil r)
/-- f(x, ..) that changes x's object: x the name in the slot i -/
def mCallI (n : Nat) (F : Fp1) (i : Nat) (ms : Env → Option (List D × Env)) : Env → Option (Cell × Env) := fun ρ => match ρ[i]? with
  | some (some _) => (match ms ρ with
    | some (ds, ρ1) => if ds.length + 1 = n then (match ρ1[i]? with
      | some (some c0) => (match F c0 ds with
        | some (c, c1) => some (c, ρ1.set i (some c1))
        | none => none)
      | _ => none) else none
    | none => none)
  | _ => none
theorem g_callI {F : Fp1} {i : Nat} {es : List Expr} (hF : FnAt X.prog X.w X.K X.mg X.base k x n (sp1 X.K X.mg n F)) (hr : Room k X.A) (hgd : X.A.guards = some []) (hg : Gl X x)
    (h0 : PE X e (tVar i)) (ha : PA X es (gA X 0 ms)) (hdb : (x == ("__debug__" : Str)) = false := by decide) (he : starEach (e :: es) X.env = (false, eval e X.env) :: starEach es X.env := by rfl) (hpl : (backTo pos (starEach es X.env)).any (·.1) = false := by rfl) :
    PE X (.Call (.Name x p) (e :: es) [] pos) (gS X (mCallI n F i ms)) := PEi (pe_callG hF hr hgd hg (pa_cons h0 ha he) hdb he hpl) fun σ H Q ⟨B, W, ts, tc, ρ, cl, ρ', r, hl, em, q⟩ => by
  unfold mCallI at em
  split at em
  · rename_i c00 e00
    split at em
    · rename_i ds ρ1 ex
      split at em
      · rename_i hn
        split at em
        · rename_i c0 e0
          split at em
          · rename_i c c1 ef
            cases em
            obtain ⟨v00, ev0, _⟩ := r.rep (i := tc.length + i) (c := c00) (by rw [get_app]; exact e00)
            rw [← hl, get_app] at ev0
            refine ⟨v00, ev0, B, W, ts, tc, ρ, ds, ρ1, r, hl, ex, fun W1 H1 vs g1 r1 => ?_⟩
            have r0 := RL.r r1
            obtain ⟨v0, B1, ev, rc, back⟩ := R.calledI r0 (i := tc.length + i) (c := c0) (by rw [get_app]; exact e0)
            rw [← hl, get_app] at ev
            rw [ev0] at ev; cases ev
            refine ⟨B1, W1, v00, vs, c0, ds, _, c1, rfl, rc, RL.rep0 r1, hn, ef, fun W2 H2 v g2 r2 => ?_⟩
            obtain ⟨g3, r3⟩ := back W2 H2 v _ c1 g2 r2
            rw [set_app] at r3
            exact q W2 H2 v (g1.trans g3) r3
          · cases em
        · cases em
      · cases em
    · cases em
  · cases em
end
end Mn

namespace Mn
open PySem PySem.Spec PyProof.Rows L2
/-! ### targets -/
def tgS (X : Cx) (js : List Nat) (f : D → Env → Option Env) : TG := fun v σ H Q => ∃ (B W : Hp) (ts : List (Option V)) (tc : List (Option Cell)) (ρ : Env) (d : D) (ρ' : Env), R X.K X.mg B W H (ts ++ σ) (tc ++ ρ) ∧ ts.length = tc.length ∧ Rep X.K X.mg W d v ∧ f d ρ = some ρ' ∧
  ∀ σ', R X.K X.mg B W H (ts ++ σ') (tc ++ ρ') → (∀ i, i ∉ js → σ'[i]? = σ[i]?) → σ'.length = σ.length → Q σ' H
def tgsS (X : Cx) (js : List Nat) (f : List D → Env → Option Env) : TGs := fun vs σ H Q => ∃ (B W : Hp) (ts : List (Option V)) (tc : List (Option Cell)) (ρ : Env) (ds : List D) (ρ' : Env), R X.K X.mg B W H (ts ++ σ) (tc ++ ρ) ∧ ts.length = tc.length ∧ RepL X.K X.mg W ds vs ∧ f ds ρ = some ρ' ∧
  ∀ σ', R X.K X.mg B W H (ts ++ σ') (tc ++ ρ') → (∀ i, i ∉ js → σ'[i]? = σ[i]?) → σ'.length = σ.length → Q σ' H
theorem PGi {X : Cx} {e : Expr} {t t' : TG} (h : PG X e t) (i : ∀ v σ H Q, t' v σ H Q → t v σ H Q) : PG X e t' := ⟨fun pins s σ H v u Q I r q => h.run pins s σ H v u Q I r (i v σ H Q q)⟩
theorem PGsi {X : Cx} {e : List Expr} {t t' : TGs} (h : PGs X e t) (i : ∀ v σ H Q, t' v σ H Q → t v σ H Q) : PGs X e t' := ⟨fun pins s σ H v u Q I r q => h.run pins s σ H v u Q I r (i v σ H Q q)⟩
theorem PIi {X : Cx} {tg e : Expr} {t t' : TI} (h : PI X tg e t) (i : ∀ σ H Q, t' σ H Q → t σ H Q) : PI X tg e t' := ⟨fun pins s σ H R I q => h.run pins s σ H R I (i σ H R q)⟩
section
variable {X : Cx} {a b e : Expr} {es : List Expr} {pos : Pos} {f : D → Env → Option Env} {fs : List D → Env → Option Env} {js ks : List Nat}
def tName (i : Nat) : D → Env → Option Env := fun d ρ => some (ρ.set i (some (0, d)))
theorem tg_name {i : Nat} {y : Str} (hN : X.N.Nodup) (hi : X.N[i]? = some y) (hx : Loc X.env.scope y) (hf : X.fn y = true ∨ X.env.scope.names.lookup y = some .local := by first | exact .inl rfl | exact .inr rfl | assumption) : PG X (.Name y pos) (tgS X [i] (tName i)) :=
  PGi (pg_name hN hi hx hf) fun v σ H Q ⟨B, W, ts, tc, ρ, d, ρ', r, hl, hd, e, q⟩ => by
    cases e
    refine q _ ?_ (fun j hj => List.getElem?_set_ne (fun z => hj (by rw [z]; exact List.mem_singleton.mpr rfl))) (List.length_set ..)
    have r1 := R.move (r.push0 hd) (tc.length + i)
    rw [set_app, ← hl, set_app] at r1
    exact r1
def tsNil : List D → Env → Option Env := fun ds ρ => match ds with | [] => some ρ | _ => none
def tsCons (f : D → Env → Option Env) (fs : List D → Env → Option Env) : List D → Env → Option Env := fun ds ρ => match ds with
  | d :: r => (match f d ρ with | some ρ1 => fs r ρ1 | none => none)
  | [] => none
theorem tg_nil : PGs X [] (tgsS X [] tsNil) := PGsi pgs_nil fun vs σ H Q ⟨B, W, ts, tc, ρ, ds, ρ', r, hl, hd, e, q⟩ => by
  unfold tsNil at e
  split at e
  · cases e
    exact ⟨hd, q σ r (fun _ _ => rfl) rfl⟩
  · cases e
theorem tg_cons (h1 : PG X e (tgS X js f)) (h2 : PGs X es (tgsS X ks fs)) (hs : (assignEach (e :: es) X.env).map (·.2) = assign e X.env :: (assignEach es X.env).map (·.2) := by rfl) : PGs X (e :: es) (tgsS X (js ++ ks) (tsCons f fs)) :=
  PGsi (pgs_cons h1 h2 hs) fun vs σ H Q ⟨B, W, ts, tc, ρ, ds, ρ', r, hl, hd, e, q⟩ => by
    unfold tsCons at e
    split at e
    · rename_i d rr
      split at e
      · rename_i ρ1 e1
        obtain ⟨v, vr, rfl, hv, hvr⟩ := hd
        refine ⟨v, vr, rfl, B, W, ts, tc, ρ, d, ρ1, r, hl, hv, e1, fun σ1 r1 k1 l1 => ?_⟩
        exact ⟨B, W, ts, tc, ρ1, rr, ρ', r1, hl, hvr, e, fun σ2 r2 k2 l2 => q σ2 r2 (fun i hi => (k2 i fun z => hi (List.mem_append_right _ z)).trans (k1 i fun z => hi (List.mem_append_left _ z))) (l2.trans l1)⟩
      · cases e
    · cases e
def tTupT (n : Nat) (fs : List D → Env → Option Env) : D → Env → Option Env := fun d ρ => match d with
  | .tup l => if l.length = n then fs l ρ else none
  | _ => none
theorem tg_tup {k n : Nat} (hc : X.calm = true) (h : PGs X es (tgsS X js fs)) (hn : (assignEach es X.env).length = n := by rfl) (hst : (assignEach es X.env).findIdx? (·.1) = none := by rfl) : PG X (.Tuple es k pos) (tgS X js (tTupT n fs)) :=
  PGi (pg_tup hc h hn hst) fun v σ H Q ⟨B, W, ts, tc, ρ, d, ρ', r, hl, hd, e, q⟩ => by
    unfold tTupT at e
    split at e
    · rename_i l
      split at e
      · rename_i hlen
        obtain ⟨a, vs, rfl, h1, h2⟩ := hd
        exact ⟨a, vs, rfl, Same.seqT r.sw h1, by rw [h2.length]; exact hlen, B, W, ts, tc, ρ, l, ρ', r, hl, h2, e, q⟩
      · cases e
    · cases e
/-! ### what is walked -/
/-- the iterator hands on these, one after the other -/
structure ItOk (K : PySem.W.Frag) (mg : Str → Option Value) (J : It) (W : Hp) (ds : List D) : Prop where
  go : ∀ i H, Same W H → i < ds.length → J.go i H
  stop : ∀ H, Same W H → J.stop ds.length H
  yld : ∀ (B W1 H : Hp) (vs : List (Option V)) (cs : List (Option Cell)) (i : Nat) (x : V) (H' : Hp) (d : D), Same W W1 → R K mg B W1 H vs cs → ds[i]? = some d → J.yld i H x H' → ∃ W2, Gr B W1 W2 ∧ R K mg B W2 H' (some x :: vs) (some (0, d) :: cs)
def gI (X : Cx) (m : Env → Option (List D × Env)) : TI := fun σ H Rj => ∃ (B W : Hp) (ts : List (Option V)) (tc : List (Option Cell)) (ρ : Env) (ds : List D) (ρ' : Env), R X.K X.mg B W H (ts ++ σ) (tc ++ ρ) ∧ ts.length = tc.length ∧ m ρ = some (ds, ρ') ∧
  ∀ W' H' J, Gr B W W' → R X.K X.mg B W' H' (ts ++ σ) (tc ++ ρ') → ItOk X.K X.mg J W' ds → Rj J H'
theorem RepL.uniq {K : PySem.W.Frag} {mg : Str → Option Value} {W : Hp} {l : List D} {vs : List V} {i : Nat} {d : D} (h : RepL K mg W l vs) (e : l[i]? = some d) {x : V} (hx : vs[i]? = some x) : Rep K mg W d x := by
  obtain ⟨v, ev, hv⟩ := h.get e
  rw [hx] at ev; cases ev
  exact hv
theorem itOk_list {K : PySem.W.Frag} {mg : Str → Option Value} {W : Hp} {a : Addr} {vs : List V} {l : List D} (h1 : SqL K W a vs) (h2 : RepL K mg W l vs) : ItOk K mg (Itl K a) W l where
  go := fun i H s hi => by
    have : i < vs.length := by rw [h2.length]; exact hi
    exact ⟨vs, vs[i], s.seq h1, by simp [this]⟩
  stop := fun H s => ⟨vs, s.seq h1, by rw [h2.length]; exact Nat.le_refl _⟩
  yld := fun B W1 H xs cs i x H' d s r e y => by
    obtain ⟨rfl, f⟩ := y
    exact ⟨W1, Gr.refl B W1, r.push0 (Rep.mono s _ _ (h2.uniq e (f vs (r.sw.seq (s.seq h1)))))⟩
theorem itOk_tup {K : PySem.W.Frag} {mg : Str → Option Value} {W : Hp} {a : Addr} {vs : List V} {l : List D} (h1 : SqT K W a vs) (h2 : RepL K mg W l vs) : ItOk K mg (Itt K a) W l where
  go := fun i H s hi => by
    have : i < vs.length := by rw [h2.length]; exact hi
    exact ⟨vs, vs[i], Same.seqT s h1, by simp [this]⟩
  stop := fun H s => ⟨vs, Same.seqT s h1, by rw [h2.length]; exact Nat.le_refl _⟩
  yld := fun B W1 H xs cs i x H' d s r e y => by
    obtain ⟨rfl, f⟩ := y
    exact ⟨W1, Gr.refl B W1, r.push0 (Rep.mono s _ _ (h2.uniq e (f vs (Same.seqT r.sw (Same.seqT s h1)))))⟩
/-- a list or a tuple -/
def iSeq (m : Env → Option (Cell × Env)) : Env → Option (List D × Env) := fun ρ => match m ρ with
  | some ((_, .lst l), ρ1) => some (l, ρ1)
  | some ((_, .tup l), ρ1) => some (l, ρ1)
  | _ => none
theorem i_seq {tg : Expr} {m : Env → Option (Cell × Env)} (h : PE X e (gS X m)) : PI X tg e (gI X (iSeq m)) := by
  refine ⟨fun pins s σ H Rj I ⟨B, W, ts, tc, ρ, ds, ρ', r, hl, em, q⟩ => ?_⟩
  unfold iSeq at em
  split at em
  · rename_i k l ρ1 ex
    cases em
    refine (pi_list h).run pins s σ H Rj I ⟨B, W, ts, tc, ρ, _, ρ', r, hl, ex, fun W1 H1 v g1 r1 => ?_⟩
    obtain ⟨W2, g2, r2, a, vs, rfl, h1, h2⟩ := R.pop r1
    exact ⟨a, rfl, ⟨vs, r2.sw.seq h1.sq⟩, q W2 H1 _ (g1.trans g2) r2 (itOk_list h1.sq h2)⟩
  · rename_i k l ρ1 ex
    cases em
    refine (pi_tup h).run pins s σ H Rj I ⟨B, W, ts, tc, ρ, _, ρ', r, hl, ex, fun W1 H1 v g1 r1 => ?_⟩
    obtain ⟨W2, g2, r2, a, vs, rfl, h1, h2⟩ := R.pop r1
    exact ⟨a, rfl, ⟨vs, Same.seqT r2.sw h1⟩, q W2 H1 _ (g1.trans g2) r2 (itOk_tup h1 h2)⟩
  · cases em
/-- lo, lo + c, .. -/
def rng (lo c : Int) (n : Nat) : List D := (List.range n).map fun i => .int (lo + (i : Nat) * c)
theorem rng_get {lo c : Int} {n i : Nat} {d : D} (h : (rng lo c n)[i]? = some d) : i < n ∧ d = .int (lo + (i : Nat) * c) := by
  unfold rng at h
  rw [List.getElem?_map] at h
  by_cases hi : i < n
  · rw [List.getElem?_range hi] at h
    cases h
    exact ⟨hi, rfl⟩
  · rw [List.getElem?_eq_none (by simpa using hi)] at h
    cases h
theorem itOk_rng {K : PySem.W.Frag} {mg : Str → Option Value} {W : Hp} {lo : Int} {n : Nat} : ItOk K mg (Itr lo n) W (rng lo 1 n) where
  go := fun i H s hi => by show i < n; simpa [rng] using hi
  stop := fun H s => by show n ≤ (rng lo 1 n).length; simp [rng]
  yld := fun B W1 H xs cs i x H' d s r e y => by
    obtain ⟨rfl, rfl⟩ := y
    obtain ⟨_, rfl⟩ := rng_get e
    exact ⟨W1, Gr.refl B W1, r.push0 (by show V.int _ = V.int _; rw [Int.mul_one])⟩
theorem itOk_rngC {K : PySem.W.Frag} {mg : Str → Option Value} {W : Hp} {lo c : Int} {n : Nat} : ItOk K mg (Itc lo c n) W (rng lo c n) where
  go := fun i H s hi => by show i < n; simpa [rng] using hi
  stop := fun H s => by show n ≤ (rng lo c n).length; simp [rng]
  yld := fun B W1 H xs cs i x H' d s r e y => by
    obtain ⟨rfl, rfl⟩ := y
    obtain ⟨_, rfl⟩ := rng_get e
    exact ⟨W1, Gr.refl B W1, r.push0 rfl⟩
noncomputable def okRng (i : Int) : Bool := @decide (-(2 ^ 62) ≤ i ∧ i < 2 ^ 62) (Classical.propDecidable _)
theorem okRng_of {i : Int} (h : okRng i = true) : -(2 ^ 62) ≤ i ∧ i < 2 ^ 62 := @of_decide_eq_true _ (Classical.propDecidable _) h
theorem okRng_mk {i : Int} (h : -(2 ^ 62) ≤ i ∧ i < 2 ^ 62) : okRng i = true := @decide_eq_true _ (Classical.propDecidable _) h
noncomputable def iRange (ms : Env → Option (List D × Env)) : Env → Option (List D × Env) := fun ρ => match ms ρ with
  | some ([.int j], ρ1) => if okRng j then some (rng 0 1 j.toNat, ρ1) else none
  | some ([.int i, .int j], ρ1) => if okRng i && okRng j then some (rng i 1 (j - i).toNat, ρ1) else none
  | some ([.int i, .int j, .int (-1)], ρ1) => if okRng i && okRng j then some (rng i (-1) (i - j).toNat, ρ1) else none
  | _ => none
variable {ms : Env → Option (List D × Env)} {tg : Expr} {c : Expr} {p : Pos}
theorem i_range1 (hg : Gl X "range") (hm : X.mg "range" = none) (ha : PA X [a] (gA X 0 ms)) (hs : starEach [a] X.env = [(false, eval a X.env)] := by rfl) (h1 : ∀ ρ ds ρ', ms ρ = some (ds, ρ') → ds.length = 1) : PI X tg (.Call (.Name "range" p) [a] [] pos) (gI X (iRange ms)) :=
  PIi (pi_range1 hg hm ha hs) fun σ H Rj ⟨B, W, ts, tc, ρ, ds, ρ', r, hl, em, q⟩ => by
    unfold iRange at em
    split at em
    · rename_i j ρ1 ex
      split at em
      · rename_i hz
        cases em
        refine ⟨B, W, ts, tc, ρ, _, ρ', r, hl, ex, fun W1 H1 vs g1 r1 => ?_⟩
        obtain ⟨u, rfl, hu⟩ := repL1 (RL.rep0 r1)
        cases (show u = _ from hu)
        exact ⟨j, rfl, (okRng_of hz).1, (okRng_of hz).2, q W1 H1 _ g1 (RL.r r1) itOk_rng⟩
      · cases em
    · rename_i ex; have := h1 _ _ _ ex; simp at this
    · rename_i ex; have := h1 _ _ _ ex; simp at this
    · cases em
theorem i_range2 (hg : Gl X "range") (hm : X.mg "range" = none) (ha : PA X [a, b] (gA X 0 ms)) (hs : starEach [a, b] X.env = [(false, eval a X.env), (false, eval b X.env)] := by rfl) (hs2 : starEach [b] X.env = [(false, eval b X.env)] := by rfl) (h1 : ∀ ρ ds ρ', ms ρ = some (ds, ρ') → ds.length = 2) : PI X tg (.Call (.Name "range" p) [a, b] [] pos) (gI X (iRange ms)) :=
  PIi (pi_range2 hg hm ha hs hs2) fun σ H Rj ⟨B, W, ts, tc, ρ, ds, ρ', r, hl, em, q⟩ => by
    unfold iRange at em
    split at em
    · rename_i ex; have := h1 _ _ _ ex; simp at this
    · rename_i i j ρ1 ex
      split at em
      · rename_i hz
        rw [Bool.and_eq_true] at hz
        cases em
        refine ⟨B, W, ts, tc, ρ, _, ρ', r, hl, ex, fun W1 H1 vs g1 r1 => ?_⟩
        obtain ⟨u, v, rfl, hu, hv⟩ := repL2 (RL.rep0 r1)
        cases (show u = _ from hu); cases (show v = _ from hv)
        exact ⟨i, j, rfl, ⟨(okRng_of hz.1).1, (okRng_of hz.1).2, (okRng_of hz.2).1, (okRng_of hz.2).2⟩, q W1 H1 _ g1 (RL.r r1) itOk_rng⟩
      · cases em
    · rename_i ex; have := h1 _ _ _ ex; simp at this
    · cases em
theorem i_range3 (hg : Gl X "range") (hm : X.mg "range" = none) (ha : PA X [a, b, c] (gA X 0 ms)) (hs : starEach [a, b, c] X.env = (false, eval a X.env) :: starEach [b, c] X.env := by rfl) (hpl : (backTo pos (starEach [b, c] X.env)).any (·.1) = false := by rfl) (h1 : ∀ ρ ds ρ', ms ρ = some (ds, ρ') → ds.length = 3) : PI X tg (.Call (.Name "range" p) [a, b, c] [] pos) (gI X (iRange ms)) :=
  PIi (pi_range3 hg hm ha hs hpl) fun σ H Rj ⟨B, W, ts, tc, ρ, ds, ρ', r, hl, em, q⟩ => by
    unfold iRange at em
    split at em
    · rename_i ex; have := h1 _ _ _ ex; simp at this
    · rename_i ex; have := h1 _ _ _ ex; simp at this
    · rename_i i j ρ1 ex
      split at em
      · rename_i hz
        rw [Bool.and_eq_true] at hz
        cases em
        refine ⟨B, W, ts, tc, ρ, _, ρ', r, hl, ex, fun W1 H1 vs g1 r1 => ?_⟩
        obtain ⟨u, vr, rfl, hu, hvr⟩ := RL.rep0 r1
        obtain ⟨v, w, rfl, hv, hw⟩ := repL2 hvr
        cases (show u = _ from hu); cases (show v = _ from hv); cases (show w = _ from hw)
        exact ⟨i, j, -1, (i - j).toNat, rfl, RgC.neg (okRng_of hz.1).1 (okRng_of hz.1).2 (okRng_of hz.2).1 (okRng_of hz.2).2, q W1 H1 _ g1 (RL.r r1) itOk_rngC⟩
      · cases em
    · cases em
/-- enumerate(list) -/
def enumD : Nat → List D → List D
  | _, [] => []
  | i, d :: r => .tup [.int i, d] :: enumD (i + 1) r
theorem enumD_len : ∀ (l : List D) (i : Nat), (enumD i l).length = l.length
  | [], _ => rfl
  | _ :: r, i => by simp [enumD, enumD_len r]
theorem enumD_get : ∀ {l : List D} {j i : Nat} {d : D}, (enumD j l)[i]? = some d → ∃ x, l[i]? = some x ∧ d = .tup [.int ((j + i : Nat) : Int), x]
  | [], _, _, _, h => by simp [enumD] at h
  | x :: r, j, 0, d, h => by
    cases (show some (D.tup [.int (j : Nat), x]) = some d from h)
    exact ⟨x, rfl, rfl⟩
  | x :: r, j, i + 1, d, h => by
    obtain ⟨y, e, rfl⟩ := enumD_get (l := r) (j := j + 1) (i := i) (d := d) (by simpa [enumD] using h)
    exact ⟨y, by simpa using e, by rw [show j + 1 + i = j + (i + 1) by omega]⟩
/-- a new pair of what is shared, shared -/
theorem R.pair {K : PySem.W.Frag} {mg : Str → Option Value} {B W H : Hp} {vs : List (Option V)} {cs : List (Option Cell)} {ds : List D} {xs : List V} (r : R K mg B W H vs cs) (h : RepL K mg W ds xs) {p : Addr} (np : H p = none) :
    ∃ W2, Gr B W W2 ∧ R K mg B W2 (upd H p (.tup xs)) (some (.ref p) :: vs) (some (0, .tup ds) :: cs) := by
  have r1 := RL.tup (RL.of0 r h) np
  obtain ⟨W2, g, r2⟩ := R.down r1 (i := 0) (k := 1) (k' := 0) (d := .tup ds) rfl (Nat.zero_le _)
  exact ⟨W2, g, r2⟩
theorem itOk_enum {K : PySem.W.Frag} {mg : Str → Option Value} {W : Hp} {a : Addr} {vs : List V} {l : List D} (h1 : SqL K W a vs) (h2 : RepL K mg W l vs) : ItOk K mg (Ite K a) W (enumD 0 l) where
  go := fun i H s hi => by
    have : i < vs.length := by rw [h2.length]; rw [enumD_len] at hi; exact hi
    exact ⟨vs, vs[i], s.seq h1, by simp [this]⟩
  stop := fun H s => ⟨vs, s.seq h1, by rw [h2.length, enumD_len]; exact Nat.le_refl _⟩
  yld := fun B W1 H xs cs i x H' d s r e y => by
    obtain ⟨T, u, rfl, nT, rfl, f⟩ := y
    obtain ⟨z, ez, rfl⟩ := enumD_get e
    have hz := Rep.mono s _ _ (h2.uniq ez (f vs (r.sw.seq (s.seq h1))))
    exact R.pair (ds := [.int ((0 + i : Nat) : Int), z]) (xs := [.int (i : Nat), u]) r ⟨_, [u], rfl, by show V.int _ = V.int _; rw [Nat.zero_add], u, [], rfl, hz, rfl⟩ nT
def iEnumM (ms : Env → Option (List D × Env)) : Env → Option (List D × Env) := fun ρ => match ms ρ with
  | some ([.lst l], ρ1) => some (enumD 0 l, ρ1)
  | _ => none
theorem i_enum {elts : List Expr} {kk : Nat} {tpos : Pos} (hg : Gl X "enumerate") (hm : X.mg "enumerate" = none) (ha : PA X [e] (gA X 0 ms)) (hs : starEach [e] X.env = [(false, eval e X.env)] := by rfl) : PI X (.Tuple elts kk tpos) (.Call (.Name "enumerate" p) [e] [] pos) (gI X (iEnumM ms)) :=
  PIi (pi_enum hg hm ha hs) fun σ H Rj ⟨B, W, ts, tc, ρ, ds, ρ', r, hl, em, q⟩ => by
    unfold iEnumM at em
    split at em
    · rename_i l ρ1 ex
      cases em
      refine ⟨B, W, ts, tc, ρ, _, ρ', r, hl, ex, fun W1 H1 vs g1 r1 => ?_⟩
      obtain ⟨u, rfl, a, xs, rfl, h1, h2⟩ := repL1 (RL.rep0 r1)
      exact ⟨a, xs, rfl, (RL.r r1).sw.seq h1.sq, q W1 H1 _ g1 (RL.r r1) (itOk_enum h1.sq h2)⟩
    · cases em
/-- reversed(list) -/
theorem itOk_rev {K : PySem.W.Frag} {mg : Str → Option Value} {W : Hp} {a : Addr} {vs : List V} {l : List D} (h1 : SqL K W a vs) (h2 : RepL K mg W l vs) : ItOk K mg (Itv K a vs.length) W l.reverse where
  go := fun i H s hi => by
    have hi' : i < vs.length := by rw [h2.length]; simpa using hi
    exact ⟨hi', vs, vs[vs.length - 1 - i], s.seq h1, by rw [List.getElem?_eq_getElem]⟩
  stop := fun H s => by show vs.length ≤ l.reverse.length; rw [h2.length]; simp
  yld := fun B W1 H xs cs i x H' d s r e y => by
    obtain ⟨rfl, f⟩ := y
    have hi : i < l.length := by have := (List.getElem?_eq_some_iff.mp e).1; simpa using this
    have e2 : l[vs.length - 1 - i]? = some d := by rw [h2.length, ← List.getElem?_reverse hi]; exact e
    exact ⟨W1, Gr.refl B W1, r.push0 (Rep.mono s _ _ (h2.uniq e2 (f vs (r.sw.seq (s.seq h1)))))⟩
def iRevM (ms : Env → Option (List D × Env)) : Env → Option (List D × Env) := fun ρ => match ms ρ with
  | some ([.lst l], ρ1) => some (l.reverse, ρ1)
  | _ => none
theorem i_rev (hg : Gl X "reversed") (hm : X.mg "reversed" = none) (ha : PA X [e] (gA X 0 ms)) (hs : starEach [e] X.env = [(false, eval e X.env)] := by rfl) : PI X tg (.Call (.Name "reversed" p) [e] [] pos) (gI X (iRevM ms)) :=
  PIi (pi_reversed hg hm ha hs) fun σ H Rj ⟨B, W, ts, tc, ρ, ds, ρ', r, hl, em, q⟩ => by
    unfold iRevM at em
    split at em
    · rename_i l ρ1 ex
      cases em
      refine ⟨B, W, ts, tc, ρ, _, ρ', r, hl, ex, fun W1 H1 vs g1 r1 => ?_⟩
      obtain ⟨u, rfl, a, xs, rfl, h1, h2⟩ := repL1 (RL.rep0 r1)
      exact ⟨a, xs, rfl, (RL.r r1).sw.seq h1.sq, q W1 H1 _ g1 (RL.r r1) (itOk_rev h1.sq h2)⟩
    · cases em
/-- zip(list, list) -/
def zipD : List D → List D → List D
  | x :: xs, y :: ys => .tup [x, y] :: zipD xs ys
  | _, _ => []
theorem zipD_len : ∀ (l m : List D), (zipD l m).length = min l.length m.length
  | [], _ => by simp [zipD]
  | _ :: _, [] => by simp [zipD]
  | _ :: xs, _ :: ys => by simp [zipD, zipD_len xs ys]
theorem zipD_get : ∀ {l m : List D} {i : Nat} {d : D}, (zipD l m)[i]? = some d → ∃ x y, l[i]? = some x ∧ m[i]? = some y ∧ d = .tup [x, y]
  | [], _, _, _, h => by simp [zipD] at h
  | _ :: _, [], _, _, h => by simp [zipD] at h
  | x :: xs, y :: ys, 0, d, h => by
    cases (show some (D.tup [x, y]) = some d from h)
    exact ⟨x, y, rfl, rfl, rfl⟩
  | x :: xs, y :: ys, i + 1, d, h => by
    obtain ⟨a, b, e1, e2, e3⟩ := zipD_get (l := xs) (m := ys) (i := i) (d := d) (by simpa [zipD] using h)
    exact ⟨a, b, by simpa using e1, by simpa using e2, e3⟩
theorem itOk_zip {K : PySem.W.Frag} {mg : Str → Option Value} {W : Hp} {a b : Addr} {vs us : List V} {l m : List D} (h1 : SqL K W a vs) (h2 : RepL K mg W l vs) (h3 : SqL K W b us) (h4 : RepL K mg W m us) : ItOk K mg (Itz K a b) W (zipD l m) where
  go := fun i H s hi => by
    rw [zipD_len] at hi
    have hv : i < vs.length := by rw [h2.length]; omega
    have hu : i < us.length := by rw [h4.length]; omega
    exact ⟨vs, us, vs[i], us[i], s.seq h1, s.seq h3, by simp [hv], by simp [hu]⟩
  stop := fun H s => ⟨vs, us, s.seq h1, s.seq h3, by rw [zipD_len, h2.length, h4.length]; omega⟩
  yld := fun B W1 H xs cs i x H' d s r e y => by
    obtain ⟨T, u, u', rfl, nT, rfl, f, f'⟩ := y
    obtain ⟨z, z', ez, ez', rfl⟩ := zipD_get e
    exact R.pair (ds := [z, z']) (xs := [u, u']) r ⟨u, [u'], rfl, Rep.mono s _ _ (h2.uniq ez (f vs (r.sw.seq (s.seq h1)))), u', [], rfl, Rep.mono s _ _ (h4.uniq ez' (f' us (r.sw.seq (s.seq h3)))), rfl⟩ nT
def iZipM (ms : Env → Option (List D × Env)) : Env → Option (List D × Env) := fun ρ => match ms ρ with
  | some ([.lst l, .lst m], ρ1) => some (zipD l m, ρ1)
  | _ => none
theorem i_zip {elts : List Expr} {kk : Nat} {tpos : Pos} (hg : Gl X "zip") (hm : X.mg "zip" = none) (ha : PA X [a, b] (gA X 0 ms)) (hs : starEach [a, b] X.env = (false, eval a X.env) :: starEach [b] X.env := by rfl) (hpl : (backTo pos (starEach [b] X.env)).any (·.1) = false := by rfl) :
    PI X (.Tuple elts kk tpos) (.Call (.Name "zip" p) [a, b] [] pos) (gI X (iZipM ms)) :=
  PIi (pi_zip hg hm ha hs hpl) fun σ H Rj ⟨B, W, ts, tc, ρ, ds, ρ', r, hl, em, q⟩ => by
    unfold iZipM at em
    split at em
    · rename_i l m ρ1 ex
      cases em
      refine ⟨B, W, ts, tc, ρ, _, ρ', r, hl, ex, fun W1 H1 vs g1 r1 => ?_⟩
      obtain ⟨u, v, rfl, ⟨a, xs, rfl, h1, h2⟩, ⟨b, ys, rfl, h3, h4⟩⟩ := repL2 (RL.rep0 r1)
      exact ⟨a, b, xs, ys, rfl, (RL.r r1).sw.seq h1.sq, (RL.r r1).sw.seq h3.sq, q W1 H1 _ g1 (RL.r r1) (itOk_zip h1.sq h2 h3.sq h4)⟩
    · cases em
end
end Mn

namespace Mn
open PySem PySem.Spec PyProof.Rows L2
/-! ### for -/
/-- the turns of a for -/
def mLoop (tg : D → Env → Option Env) (body : Env → Option Out) : List D → Env → Option Out
  | [], ρ => some (.nx ρ)
  | d :: ds, ρ => match tg d ρ with
    | none => none
    | some ρ1 => match body ρ1 with
      | some (.nx ρ2) => mLoop tg body ds ρ2
      | some (.ct ρ2) => mLoop tg body ds ρ2
      | some (.bk ρ2) => some (.nx ρ2)
      | some (.rt c ρ2) => some (.rt c ρ2)
      | none => none
def sFor (it : Env → Option (List D × Env)) (tg : D → Env → Option Env) (body : Env → Option Out) : Env → Option Out := fun ρ => match it ρ with
  | some (ds, ρ1) => mLoop tg body ds ρ1
  | none => none
section
variable {X : Cx} {pr js : List Nat} {tgt iter e a b : Expr} {sts : List Stmt} {body : Env → Option Out} {it : Env → Option (List D × Env)} {tg : D → Env → Option Env} {pos : Pos} {t : Env → Option (Bool × Env)}
theorem Pr.off {pr js : List Nat} {σ σ1 σ2 : L2.St} (a : Pr pr σ σ1) (h : ∀ i, i ∉ js → σ2[i]? = σ1[i]?) (d : ∀ j ∈ js, j ∉ pr) : Pr pr σ σ2 := fun i hi => (h i fun z => d i z hi).trans (a i hi)
theorem s_for (hp : PassesOwn (model X.prog X.w) X.A X.env X.xe) (hc : X.calm = true) (hi : PI X tgt iter (gI X it)) (hg : PG X tgt (tgS X js tg)) (hb : PSs X sts (sS X pr body)) (hd : ∀ j ∈ js, j ∉ pr)
    (hs : ∀ x, foldedSetIterable iter X.env x = pure x := by intro _; rfl) : PS X (.For tgt iter sts [] pos) (sS X pr (sFor it tg body)) :=
  PSi (ps_for hp hc hi hg hb hs) fun Dn σ H ⟨B, W, ρ, o, r, em, q⟩ => by
    unfold sFor at em
    split at em
    · rename_i ds ρ1 ex
      refine ⟨B, W, [], [], ρ, ds, ρ1, r, rfl, ex, fun W1 H1 J g1 r1 ok => ?_⟩
      refine ⟨fun i m σi Hi => m = ds.length - i ∧ i ≤ ds.length ∧ ∃ Wi ρi, Gr B W1 Wi ∧ R X.K X.mg B Wi Hi σi ρi ∧ mLoop tg body (ds.drop i) ρi = some o ∧ Pr pr σ σi, ⟨ds.length, rfl, Nat.zero_le _, W1, ρ1, Gr.refl B W1, r1, em, Pr.refl⟩, ?_⟩
      rintro i m σi Hi ⟨rfl, hile, Wi, ρi, gi, ri, ei, pi⟩
      have sW : Same W1 Hi := gi.sm.trans ri.sw
      by_cases hlt : i < ds.length
      · refine .inr ⟨ok.go i Hi sW hlt, fun σ' H' => ∃ Wi' ρ', Gr B W1 Wi' ∧ R X.K X.mg B Wi' H' σ' ρ' ∧ mLoop tg body (ds.drop (i + 1)) ρ' = some o ∧ Pr pr σ σ', fun σ' H' ⟨Wi', ρ', g', r', e', p'⟩ => ⟨ds.length - (i + 1), by omega, rfl, hlt, Wi', ρ', g', r', e', p'⟩, fun x H' y => ?_⟩
        obtain ⟨W2, g2, r2⟩ := ok.yld B Wi Hi σi ρi i x H' ds[i] gi.sm ri (by simp [hlt]) y
        rw [List.drop_eq_getElem_cons hlt] at ei
        simp only [mLoop] at ei
        split at ei
        · cases ei
        · rename_i ρ2 et
          refine ⟨B, W2, [], [], ρi, ds[i], ρ2, R.drop r2, rfl, R.head0 r2, et, fun σ2 r3 k3 _ => ?_⟩
          have p3 : Pr pr σ σ2 := pi.off k3 hd
          have g3 := gi.trans g2
          split at ei
          · rename_i ρ3 eb
            exact ⟨B, W2, ρ2, _, r3, eb, fun W4 H4 σ4 g4 r4 p4 => ⟨W4, ρ3, g3.trans g4, r4, ei, p3.trans p4⟩⟩
          · rename_i ρ3 eb
            exact ⟨B, W2, ρ2, _, r3, eb, fun W4 H4 σ4 g4 r4 p4 => ⟨W4, ρ3, g3.trans g4, r4, ei, p3.trans p4⟩⟩
          · rename_i ρ3 eb
            cases ei
            exact ⟨B, W2, ρ2, _, r3, eb, fun W4 H4 σ4 g4 r4 p4 => q W4 H4 σ4 ((g1.trans g3).trans g4) r4 (p3.trans p4)⟩
          · rename_i c ρ3 eb
            cases ei
            exact ⟨B, W2, ρ2, _, r3, eb, fun W4 H4 σ4 v g4 r4 p4 => q W4 H4 σ4 v ((g1.trans g3).trans g4) r4 (p3.trans p4)⟩
          · cases ei
      · have e : i = ds.length := by omega
        subst e
        rw [List.drop_length] at ei
        cases ei
        exact .inl ⟨ok.stop Hi sW, q Wi Hi σi (g1.trans gi) ri pi⟩
    · cases em
/-! ### while -/
def mWhile (t : Env → Option (Bool × Env)) (body : Env → Option Out) : Nat → Env → Option Out
  | 0, _ => none
  | n + 1, ρ => match t ρ with
    | none => none
    | some (false, ρ1) => some (.nx ρ1)
    | some (true, ρ1) => match body ρ1 with
      | some (.nx ρ2) => mWhile t body n ρ2
      | some (.ct ρ2) => mWhile t body n ρ2
      | some (.bk ρ2) => some (.nx ρ2)
      | some (.rt c ρ2) => some (.rt c ρ2)
      | none => none
theorem s_while (N : Nat) (hp : PassesOwn (model X.prog X.w) X.A X.env X.xe) (hc : PT X a (gT X t)) (hb : PSs X sts (sS X pr body)) : PS X (.While a sts [] pos) (sS X pr (mWhile t body N)) :=
  PSi (ps_while hp hc hb) fun Dn σ H ⟨B, W, ρ, o, r, em, q⟩ => by
    refine ⟨fun m σi Hi => ∃ Wi ρi, Gr B W Wi ∧ R X.K X.mg B Wi Hi σi ρi ∧ mWhile t body m ρi = some o ∧ Pr pr σ σi, ⟨N, W, ρ, Gr.refl B W, r, em, Pr.refl⟩, ?_⟩
    rintro m σi Hi ⟨Wi, ρi, gi, ri, ei, pi⟩
    cases m with
    | zero => cases ei
    | succ m =>
      simp only [mWhile] at ei
      split at ei
      · cases ei
      · rename_i ρ1 et
        cases ei
        exact ⟨B, Wi, [], [], ρi, false, ρ1, ri, rfl, et, fun W2 H2 g2 r2 => iteF (q W2 H2 σi (gi.trans g2) r2 pi)⟩
      · rename_i ρ1 et
        refine ⟨B, Wi, [], [], ρi, true, ρ1, ri, rfl, et, fun W2 H2 g2 r2 => iteT ⟨fun σ' H' => ∃ Wi' ρ', Gr B W Wi' ∧ R X.K X.mg B Wi' H' σ' ρ' ∧ mWhile t body m ρ' = some o ∧ Pr pr σ σ', fun σ' H' h => ⟨m, Nat.lt_succ_self _, h⟩, ?_⟩⟩
        have g3 := gi.trans g2
        split at ei
        · rename_i ρ3 eb
          exact ⟨B, W2, ρ1, _, r2, eb, fun W4 H4 σ4 g4 r4 p4 => ⟨W4, ρ3, g3.trans g4, r4, ei, pi.trans p4⟩⟩
        · rename_i ρ3 eb
          exact ⟨B, W2, ρ1, _, r2, eb, fun W4 H4 σ4 g4 r4 p4 => ⟨W4, ρ3, g3.trans g4, r4, ei, pi.trans p4⟩⟩
        · rename_i ρ3 eb
          cases ei
          exact ⟨B, W2, ρ1, _, r2, eb, fun W4 H4 σ4 g4 r4 p4 => q W4 H4 σ4 (g3.trans g4) r4 (pi.trans p4)⟩
        · rename_i c ρ3 eb
          cases ei
          exact ⟨B, W2, ρ1, _, r2, eb, fun W4 H4 σ4 v g4 r4 p4 => q W4 H4 σ4 v (g3.trans g4) r4 (pi.trans p4)⟩
        · cases ei
/-! ### list comprehensions -/
def wipeE (ρ : Env) : List Nat → Env
  | [] => ρ
  | v :: vs => (wipeE ρ vs).set v none
theorem wipeE_get {ρ : Env} {i : Nat} {c : Cell} : ∀ {vs : List Nat}, (wipeE ρ vs)[i]? = some (some c) → i ∉ vs ∧ ρ[i]? = some (some c)
  | [], h => ⟨by simp, h⟩
  | v :: vs, h => by
    unfold wipeE at h
    by_cases hi : v = i
    · subst hi
      by_cases hv : v < (wipeE ρ vs).length
      · rw [List.getElem?_set_self hv] at h; cases h
      · rw [List.getElem?_eq_none (by simpa using hv)] at h; cases h
    · rw [List.getElem?_set_ne hi] at h
      obtain ⟨h1, h2⟩ := wipeE_get h
      exact ⟨by simp only [List.mem_cons, not_or]; exact ⟨fun e => hi e.symm, h1⟩, h2⟩
theorem wipe_off {σ : L2.St} {i : Nat} : ∀ {vs : List Nat}, i ∉ vs → (wipe σ vs)[i]? = σ[i]?
  | [], _ => rfl
  | v :: vs, h => by
    unfold wipe
    simp only [List.mem_cons, not_or] at h
    rw [List.getElem?_set_ne (fun z => h.1 z.symm)]
    exact wipe_off h.2
theorem R.wipe {K : PySem.W.Frag} {mg : Str → Option Value} {B W H : Hp} {ts : List (Option V)} {tc : List (Option Cell)} {σ : L2.St} {ρ : Env} (hl : ts.length = tc.length) (r : R K mg B W H (ts ++ σ) (tc ++ ρ)) : ∀ vs : List Nat, R K mg B W H (ts ++ L2.wipe σ vs) (tc ++ wipeE ρ vs)
  | [] => r
  | v :: vs => by
    have r1 := (R.wipe hl r vs).clear (tc.length + v) none
    rw [set_app, ← hl, set_app] at r1
    exact r1
/-- other slots under cells that hold nothing -/
theorem R.unwipe {K : PySem.W.Frag} {mg : Str → Option Value} {B W H : Hp} {ts : List (Option V)} {tc : List (Option Cell)} {σ σ' : L2.St} {ρ : Env} {vs : List Nat} (hl : ts.length = tc.length) (r : R K mg B W H (ts ++ σ) (tc ++ wipeE ρ vs)) (hs : σ'.length = σ.length) (h : ∀ i, i ∉ vs → σ'[i]? = σ[i]?) : R K mg B W H (ts ++ σ') (tc ++ wipeE ρ vs) := by
  refine r.reslot (by simp [hs]) fun i c e => ?_
  by_cases hi : i < tc.length
  · rw [List.getElem?_append_left (by omega), List.getElem?_append_left (by omega)]
  · obtain ⟨j, rfl⟩ : ∃ j, i = tc.length + j := ⟨i - tc.length, by omega⟩
    rw [get_app] at e
    rw [← hl, get_app, get_app]
    exact h j (wipeE_get e).1
theorem wipe_eq {σ σ2 : L2.St} {js : List Nat} : ∀ {vs : List Nat}, σ2.length = σ.length → (∀ i, i ∉ vs → σ2[i]? = σ[i]?) → wipe σ2 vs = wipe σ vs := fun {vs} hl h => by
  refine List.ext_getElem? fun i => ?_
  by_cases hi : i ∈ vs
  · have key : ∀ (σ : L2.St) (vs : List Nat), i ∈ vs → i < σ.length → (wipe σ vs)[i]? = some none := by
      intro σ vs
      induction vs with
      | nil => intro h; simp at h
      | cons v vs ih =>
        intro h hlt
        unfold wipe
        by_cases hv : v = i
        · subst hv
          rw [List.getElem?_set_self (by rw [wipe_length]; exact hlt)]
        · rw [List.getElem?_set_ne hv]
          rcases List.mem_cons.mp h with z | z
          · exact absurd z.symm hv
          · exact ih z hlt
    by_cases hlt : i < σ.length
    · rw [key σ2 vs hi (by omega), key σ vs hi hlt]
    · rw [List.getElem?_eq_none (by rw [wipe_length]; omega), List.getElem?_eq_none (by rw [wipe_length]; omega)]
  · rw [wipe_off hi, wipe_off hi]
    exact h i hi
/-- the turns of a list comprehension -/
def mCompL (kc : Nat) (tg : D → Env → Option Env) (t : Env → Option (Bool × Env)) (x : Env → Option (Cell × Env)) (own : List Nat) : List D → Env → Option (List D × Env)
  | [], ρ => some ([], ρ)
  | d :: ds, ρ => match tg d ρ with
    | none => none
    | some ρ1 => match t ρ1 with
      | none => none
      | some (false, ρ2) => mCompL kc tg t x own ds (wipeE ρ2 own)
      | some (true, ρ2) => match x ρ2 with
        | none => none
        | some (c, ρ3) => if fit kc c then (match mCompL kc tg t x own ds (wipeE ρ3 own) with
          | some (rs, ρ4) => some (c.2 :: rs, ρ4)
          | none => none) else none
def mComp (kc : Nat) (it : Env → Option (List D × Env)) (tg : D → Env → Option Env) (t : Env → Option (Bool × Env)) (x : Env → Option (Cell × Env)) (own : List Nat) : Env → Option (Cell × Env) := fun ρ => match it ρ with
  | some (ds, ρ1) => if ds.length < sizeLine then (match mCompL kc tg t x own ds (wipeE ρ1 own) with
    | some (rs, ρ2) => some ((kc + 1, .lst rs), ρ2)
    | none => none) else none
  | none => none
theorem mCompL_len {kc : Nat} {t : Env → Option (Bool × Env)} {x : Env → Option (Cell × Env)} {own : List Nat} : ∀ {ds : List D} {ρ : Env} {rs : List D} {ρ' : Env}, mCompL kc tg t x own ds ρ = some (rs, ρ') → rs.length ≤ ds.length
  | [], _, _, _, h => by cases h; exact Nat.le_refl _
  | d :: ds, ρ, rs, ρ', h => by
    simp only [mCompL] at h
    split at h
    · cases h
    · split at h
      · cases h
      · exact Nat.le_trans (mCompL_len h) (Nat.le_succ _)
      · split at h
        · cases h
        · split at h
          · split at h
            · rename_i e
              cases h
              exact Nat.succ_le_succ (mCompL_len e)
            · cases h
          · cases h
theorem wipeE_wiped {ρ : Env} {own : List Nat} : wipeE (wipeE ρ own) own = wipeE ρ own := by
  have key : ∀ (vs : List Nat) (ρ : Env), (∀ i ∈ vs, ∀ c, ρ[i]? ≠ some (some c)) → wipeE ρ vs = ρ := by
    intro vs
    induction vs with
    | nil => intro ρ _; rfl
    | cons v vs ih =>
      intro ρ h
      unfold wipeE
      rw [ih ρ fun i hi => h i (List.mem_cons_of_mem _ hi)]
      by_cases hv : v < ρ.length
      · refine set_self ?_
        have hh := h v List.mem_cons_self
        rw [List.getElem?_eq_getElem hv] at hh ⊢
        cases q : ρ[v] with
        | none => rfl
        | some c => rw [q] at hh; exact absurd rfl (hh c)
      · exact List.set_eq_of_length_le (by omega)
  exact key own _ fun i hi c e => (wipeE_get e).1 hi
/-- the reading of a list comprehension -/
theorem comp_imp {kc : Nat} {own : List Nat} {ti : TI} {tt : TT} {te : TE} {tgr : TG} {t : Env → Option (Bool × Env)} {x : Env → Option (Cell × Env)} {σ : L2.St} {H : Hp} {Q : VK}
    (hti : ∀ σ H R, gI X it σ H R → ti σ H R) (htg : ∀ v σ H Q, tgS X js tg v σ H Q → tgr v σ H Q) (htt : ∀ σ H Q, gT X t σ H Q → tt σ H Q) (hte : ∀ σ H Q, gS X x σ H Q → te σ H Q) (hjs : ∀ j ∈ js, j ∈ own)
    (h : gS X (mComp kc it tg t x own) σ H Q) : tLc ti tgr tt te own σ H Q := by
  obtain ⟨B, W, ts, tc, ρ, cl, ρ', r, hl, em, q⟩ := h
  unfold mComp at em
  split at em
  · rename_i ds ρ1 ex
    split at em
    · rename_i hz
      split at em
      · rename_i rs ρ2 ec
        cases em
        refine hti _ _ _ ⟨B, W, ts, tc, ρ, ds, ρ1, r, hl, ex, fun W1 H1 J g1 r1 ok D0 nD => ?_⟩
        have rD : R X.K X.mg B W1 (upd H1 D0 (.lst [])) (some (.ref D0) :: (ts ++ σ)) (some (kc + 1, .lst []) :: (tc ++ ρ1)) := RL.lst (k := kc) (RL.nil r1) nD
        have rW := R.wipe (ts := some (.ref D0) :: ts) (tc := some (kc + 1, .lst []) :: tc) (by simp [hl]) rD own
        refine ⟨fun i m Hi => m = ds.length - i ∧ i ≤ ds.length ∧ ∃ Wi ρi acc rs', Gr B W1 Wi ∧ R X.K X.mg B Wi Hi (some (.ref D0) :: (ts ++ wipe σ own)) (some (kc + 1, .lst acc) :: (tc ++ wipeE ρi own)) ∧ mCompL kc tg t x own (ds.drop i) (wipeE ρi own) = some (rs', ρ') ∧ acc ++ rs' = rs ∧ acc.length ≤ i,
          ⟨ds.length, rfl, Nat.zero_le _, W1, ρ1, [], rs, Gr.refl B W1, rW, ec, rfl, Nat.le_refl _⟩, ?_⟩
        rintro i m Hi ⟨rfl, hile, Wi, ρi, acc, rs', gi, ri, ei, ea, hacc⟩
        have sW : Same W1 Hi := gi.sm.trans ri.sw
        by_cases hlt : i < ds.length
        · refine .inr ⟨ok.go i Hi sW hlt, fun H' => ∃ Wi' ρi' acc' rs', Gr B W1 Wi' ∧ R X.K X.mg B Wi' H' (some (.ref D0) :: (ts ++ wipe σ own)) (some (kc + 1, .lst acc') :: (tc ++ wipeE ρi' own)) ∧ mCompL kc tg t x own (ds.drop (i + 1)) (wipeE ρi' own) = some (rs', ρ') ∧ acc' ++ rs' = rs ∧ acc'.length ≤ i + 1,
            fun H' ⟨Wi', ρi', acc', rs'', g', r', e', a', l'⟩ => ⟨ds.length - (i + 1), by omega, rfl, hlt, Wi', ρi', acc', rs'', g', r', e', a', l'⟩, fun v H' y => ?_⟩
          obtain ⟨W2, g2, r2⟩ := ok.yld B Wi Hi _ _ i v H' ds[i] gi.sm ri (by simp [hlt]) y
          rw [List.drop_eq_getElem_cons hlt] at ei
          simp only [mCompL] at ei
          split at ei
          · cases ei
          · rename_i ρ3 et
            refine htg _ _ _ _ ⟨B, W2, some (.ref D0) :: ts, some (kc + 1, .lst acc) :: tc, wipeE ρi own, ds[i], ρ3, R.drop r2, by simp [hl], R.head0 r2, et, fun σ2 r3 k3 l3 => ?_⟩
            have hw : wipe σ2 own = wipe σ own := by
              have h1 : wipe σ2 own = wipe (wipe σ own) own := wipe_eq (js := js) (by rw [l3]) fun i hi => k3 i fun z => hi (hjs i z)
              rw [h1]
              exact wipe_eq (js := js) (by rw [wipe_length]) fun i hi => wipe_off hi
            refine ⟨hw, ?_⟩
            have g3 := gi.trans g2
            -- a turn's end
            have fin : ∀ {W4 H4 : Hp} {ρ4 : Env} {acc4 : List D}, Gr B W2 W4 → R X.K X.mg B W4 H4 (some (.ref D0) :: (ts ++ σ2)) (some (kc + 1, .lst acc4) :: (tc ++ ρ4)) → R X.K X.mg B W4 H4 (some (.ref D0) :: (ts ++ wipe σ own)) (some (kc + 1, .lst acc4) :: (tc ++ wipeE ρ4 own)) := fun {W4 H4 ρ4 acc4} g4 r4 => by
              have r5 := R.wipe (ts := some (.ref D0) :: ts) (tc := some (kc + 1, .lst acc4) :: tc) (by simp [hl]) r4 own
              rw [hw] at r5
              exact r5
            split at ei
            · cases ei
            · rename_i ρ4 eb
              refine htt _ _ _ ⟨B, W2, some (.ref D0) :: ts, some (kc + 1, .lst acc) :: tc, ρ3, false, ρ4, r3, by simp [hl], eb, fun W4 H4 g4 r4 => ?_⟩
              show if false = true then _ else _
              exact iteF ⟨W4, ρ4, acc, rs', g3.trans g4, fin g4 r4, ei, ea, by omega⟩
            · rename_i ρ4 eb
              split at ei
              · cases ei
              · rename_i c ρ5 exx
                split at ei
                · rename_i hf
                  split at ei
                  · rename_i rs2 ρ6 er
                    cases ei
                    refine htt _ _ _ ⟨B, W2, some (.ref D0) :: ts, some (kc + 1, .lst acc) :: tc, ρ3, true, ρ4, r3, by simp [hl], eb, fun W4 H4 g4 r4 => ?_⟩
                    show if true = true then _ else _
                    refine iteT (hte _ _ _ ⟨B, W4, some (.ref D0) :: ts, some (kc + 1, .lst acc) :: tc, ρ4, c, ρ5, r4, by simp [hl], exx, fun W5 H5 y g5 r5 => ?_⟩)
                    obtain ⟨W6, v0, p, xs, ev, pv, hp, hx, g6, r6⟩ := R.pathApp (k := kc) (js := []) (l := acc) (d := .lst acc) r5 (i := 0) rfl rfl hf
                    have ev2 : some (some (V.ref D0)) = some (some v0) := ev
                    cases ev2
                    cases pv
                    refine ⟨xs, hp, by rw [hx]; omega, W6, ρ5, acc ++ [c.2], rs2, ((g3.trans g4).trans g5).trans g6, fin ((g4.trans g5).trans g6) r6, er, by rw [List.append_assoc]; exact ea, by rw [List.length_append]; simp; omega⟩
                  · cases ei
                · cases ei
        · have e : i = ds.length := by omega
          subst e
          rw [List.drop_length] at ei
          cases ei
          rw [List.append_nil] at ea
          subst ea
          refine .inl ⟨ok.stop Hi sW, q Wi Hi (.ref D0) (g1.trans gi) ?_⟩
          exact R.unwipe (ts := some (.ref D0) :: ts) (tc := some (kc + 1, .lst acc) :: tc) (by simp [hl]) ri (by rw [wipe_length]) fun i hi => (wipe_off hi).symm
      · cases em
    · cases em
  · cases em
/-- no test -/
def tYesM : Env → Option (Bool × Env) := fun ρ => some (true, ρ)
theorem yes_imp {σ : L2.St} {H : Hp} {Q : Bool → Hp → Prop} (h : gT X tYesM σ H Q) : tYes σ H Q := by
  obtain ⟨B, W, ts, tc, ρ, cl, ρ', r, hl, em, q⟩ := h
  cases em
  exact q W H (Gr.refl B W) r
theorem g_comp {kc : Nat} {elt tgt iter : Expr} {scope : Scope} {own : List (Str × Nat)} {x : Env → Option (Cell × Env)} (hc : X.calm = true) (hN : X.N.Nodup) (hi : PI X tgt iter (gI X it)) (ok : BlkOk X.N X.env.scope scope own)
    (hg : ∀ (s : Shared) (H : Hp) (C : Addr) (cl : List (Str × Addr)) (fp : List Addr), PG (X.blk s H scope (compEnvC scope cl C X.env) fp) tgt (tgS X js tg))
    (he : ∀ (s : Shared) (H : Hp) (C : Addr) (cl : List (Str × Addr)) (fp : List Addr), PE (X.blk s H scope (compEnvC scope cl C X.env) fp) elt (gS X x)) (hjs : ∀ j ∈ js, j ∈ own.map (·.2)) (hs : ∀ x, foldedSetIterable iter X.env x = pure x := by intro _; rfl) :
    PE X (.ListComp elt [⟨tgt, iter, [], 0⟩] scope pos) (gS X (mComp kc it tg tYesM x (own.map (·.2)))) :=
  PEi (pe_lc hc hN hi ok hg (fun _ _ _ _ _ => pts_nil) he hs) fun σ H Q h => comp_imp (fun _ _ _ h => h) (fun _ _ _ _ h => h) (fun _ _ _ h => yes_imp h) (fun _ _ _ h => h) hjs h
theorem g_compIf {kc : Nat} {elt tgt iter cond : Expr} {scope : Scope} {own : List (Str × Nat)} {x : Env → Option (Cell × Env)} {t : Env → Option (Bool × Env)} (hc : X.calm = true) (hN : X.N.Nodup) (hi : PI X tgt iter (gI X it)) (ok : BlkOk X.N X.env.scope scope own)
    (hg : ∀ (s : Shared) (H : Hp) (C : Addr) (cl : List (Str × Addr)) (fp : List Addr), PG (X.blk s H scope (compEnvC scope cl C X.env) fp) tgt (tgS X js tg))
    (ht : ∀ (s : Shared) (H : Hp) (C : Addr) (cl : List (Str × Addr)) (fp : List Addr), PT (X.blk s H scope (compEnvC scope cl C X.env) fp) cond (gT X t))
    (he : ∀ (s : Shared) (H : Hp) (C : Addr) (cl : List (Str × Addr)) (fp : List Addr), PE (X.blk s H scope (compEnvC scope cl C X.env) fp) elt (gS X x)) (hjs : ∀ j ∈ js, j ∈ own.map (·.2)) (hs : ∀ x, foldedSetIterable iter X.env x = pure x := by intro _; rfl) :
    PE X (.ListComp elt [⟨tgt, iter, [cond], 0⟩] scope pos) (gS X (mComp kc it tg t x (own.map (·.2)))) :=
  PEi (pe_lc hc hN hi ok hg (fun s H C cl fp => pts_one (ht s H C cl fp)) he hs) fun σ H Q h => comp_imp (fun _ _ _ h => h) (fun _ _ _ _ h => h) (fun _ _ _ h => h) (fun _ _ _ h => h) hjs h
/-- y = [..] on one line -/
theorem s_setComp {kc i : Nat} {y : Str} {py spos : Pos} {elt tgt iter : Expr} {scope : Scope} {own : List (Str × Nat)} {x : Env → Option (Cell × Env)} (hc : X.calm = true) (hN : X.N.Nodup) (hy : X.N[i]? = some y) (hyl : X.env.scope.names.lookup y = some .local) (hp : i ∉ pr)
    (hsw : swapsWith (.ListComp elt [⟨tgt, iter, [], 0⟩] scope pos) (some (.Name y py)) spos.line X.env = pure true) (hi : PI X tgt iter (gI X it)) (ok : BlkOk X.N X.env.scope scope own)
    (hg : ∀ (s : Shared) (H : Hp) (C : Addr) (cl : List (Str × Addr)) (fp : List Addr), PG (X.blk s H scope (compEnvC scope cl C X.env) fp) tgt (tgS X js tg))
    (he : ∀ (s : Shared) (H : Hp) (C : Addr) (cl : List (Str × Addr)) (fp : List Addr), PE (X.blk s H scope (compEnvC scope cl C X.env) fp) elt (gS X x)) (hjs : ∀ j ∈ js, j ∈ own.map (·.2)) (hs : ∀ x, foldedSetIterable iter X.env x = pure x := by intro _; rfl) :
    PS X (.Assign [.Name y py] (.ListComp elt [⟨tgt, iter, [], 0⟩] scope pos) spos) (sS X pr (sAsg i (mComp kc it tg tYesM x (own.map (·.2))))) :=
  PSi (ps_setLc hc hN hy hyl hsw hi ok hg (fun _ _ _ _ _ => pts_nil) he hs) fun Dn σ H h => comp_imp (fun _ _ _ h => h) (fun _ _ _ _ h => h) (fun _ _ _ h => yes_imp h) (fun _ _ _ h => h) hjs (asg_imp hp h)
theorem s_setCompIf {kc i : Nat} {y : Str} {py spos : Pos} {elt tgt iter cond : Expr} {scope : Scope} {own : List (Str × Nat)} {x : Env → Option (Cell × Env)} {t : Env → Option (Bool × Env)} (hc : X.calm = true) (hN : X.N.Nodup) (hy : X.N[i]? = some y) (hyl : X.env.scope.names.lookup y = some .local) (hp : i ∉ pr)
    (hsw : swapsWith (.ListComp elt [⟨tgt, iter, [cond], 0⟩] scope pos) (some (.Name y py)) spos.line X.env = pure true) (hi : PI X tgt iter (gI X it)) (ok : BlkOk X.N X.env.scope scope own)
    (hg : ∀ (s : Shared) (H : Hp) (C : Addr) (cl : List (Str × Addr)) (fp : List Addr), PG (X.blk s H scope (compEnvC scope cl C X.env) fp) tgt (tgS X js tg))
    (ht : ∀ (s : Shared) (H : Hp) (C : Addr) (cl : List (Str × Addr)) (fp : List Addr), PT (X.blk s H scope (compEnvC scope cl C X.env) fp) cond (gT X t))
    (he : ∀ (s : Shared) (H : Hp) (C : Addr) (cl : List (Str × Addr)) (fp : List Addr), PE (X.blk s H scope (compEnvC scope cl C X.env) fp) elt (gS X x)) (hjs : ∀ j ∈ js, j ∈ own.map (·.2)) (hs : ∀ x, foldedSetIterable iter X.env x = pure x := by intro _; rfl) :
    PS X (.Assign [.Name y py] (.ListComp elt [⟨tgt, iter, [cond], 0⟩] scope pos) spos) (sS X pr (sAsg i (mComp kc it tg t x (own.map (·.2))))) :=
  PSi (ps_setLc hc hN hy hyl hsw hi ok hg (fun s H C cl fp => pts_one (ht s H C cl fp)) he hs) fun Dn σ H h => comp_imp (fun _ _ _ h => h) (fun _ _ _ _ h => h) (fun _ _ _ h => h) (fun _ _ _ h => h) hjs (asg_imp hp h)
end
end Mn

namespace Mn
open PySem PySem.Spec PyProof.Rows L2
section
variable {X : Cx} {pins : List (Addr × Obj)} {σ : L2.St} {H : Hp} {s : Shared} {a : Addr} {xs : List V}
theorem Inv.listX (I : Inv X pins σ H s) (h : SqX X.K H a xs) : xs.length ≤ sizeLine ∧ ∃ (its : List Value) (n : Nat), Vals xs its ∧ xs.length = its.length ∧ s.heap.get? a = some { cls := .type "list", data := .seq its.toArray n } := by
  rcases h with h | ⟨its, n, hk, hz, r⟩
  · obtain ⟨z, its, n, r, e⟩ := h.ok I.hok
    exact ⟨z, its, n, r, r.length, e⟩
  · have e := r.length
    refine ⟨by simp only [Array.length_toList] at e; omega, its.toList, n, r, e, ?_⟩
    have := I.kIn a _ hk
    rw [this]
def rCatX (K : PySem.W.Frag) : R2 := fun x y H Q => ∃ l b xs zs, x = .ref l ∧ y = .ref b ∧ SqX K H l xs ∧ SqX K H b zs ∧ xs.length + zs.length ≤ sizeLine ∧ ∀ p, H p = none → Q (.ref p) (upd H p (.lst (xs ++ zs)))
theorem op_catX : OpR X (binaryOp .Add) (rCatX X.K) := by
  intro pins s σ H x y v u Q I rx ry h
  obtain ⟨l, b, xs, zs, rfl, rfl, hH, hB, hz, q⟩ := h
  cases rx
  cases ry
  obtain ⟨z, its, n, r, hl, e⟩ := Mn.Inv.listX I hH
  obtain ⟨z2, its2, n2, r2, hl2, e2⟩ := Mn.Inv.listX I hB
  refine PySem.P.add_list e e2 ?_ (by rw [List.size_toArray, List.size_toArray]; omega)
  have ea : its.toArray ++ its2.toArray = (its ++ its2).toArray := by simp
  rw [ea]
  exact ⟨.ref _, _, I.lnew (t' := s.toks) (r.append r2) (by rw [List.length_append]; omega), rfl, q _ I.fresh⟩
def rRepX (K : PySem.W.Frag) : R2 := fun x y H Q => ∃ l k xs, x = .ref l ∧ y = .int k ∧ SqX K H l xs ∧ -(2 ^ 63) ≤ k ∧ k < 2 ^ 63 ∧ xs.length * k.toNat ≤ sizeLine ∧
  ∀ p, H p = none → Q (.ref p) (upd H p (.lst (List.replicate k.toNat xs).flatten))
theorem op_repX : OpR X (binaryOp .Mult) (rRepX X.K) := by
  intro pins s σ H x y v u Q I rx ry h
  obtain ⟨l, k, xs, rfl, rfl, hH, h1, h2, hz, q⟩ := h
  cases rx
  obtain ⟨t, rfl⟩ := ry
  obtain ⟨z, its, n, r, hl, e⟩ := Mn.Inv.listX I hH
  have hlen : its.toArray.size * k.toNat ≤ sizeLine := by rw [List.size_toArray, ← hl]; exact hz
  have hcap : ¬ its.toArray.size * k.toNat > (2 ^ 63 - 1) / 8 := by
    have : (sizeLine : Nat) ≤ (2 ^ 63 - 1) / 8 := by decide
    omega
  have hfit : ¬ (!Builtin.List.listFitsIndex k) = true := by
    rw [fitsIndex_both h1 h2]
    exact Bool.false_ne_true
  have hlong : ¬ Builtin.List.listTooLong (its.toArray.size * k.toNat) = true := by
    rw [notLongL hlen]
    exact Bool.false_ne_true
  have hnew : List.foldl (fun x1 x2 => x1 ++ x2) #[] (List.replicate (if its.toArray.isEmpty = true then 0 else k.toNat) its.toArray) = (List.replicate k.toNat its).flatten.toArray := by
    have f0 : ∀ m : Nat, List.foldl (fun x1 x2 => x1 ++ x2) #[] (List.replicate m its.toArray) = (List.replicate m its).flatten.toArray := fun m => by
      have := foldl_rep its m []
      rw [List.nil_append] at this
      exact this
    rw [f0]
    cases its with
    | nil => simp
    | cons a r' => rw [if_neg (by simp)]
  refine wpAny_binaryOp_repeat_ref (T := "list") (U := "int") (by decide) ⟨_, e, rfl⟩ (fun s' => typeIs_int s' k t) noFill_list_mul F.fills_int_mul F.slot_int_rmul repeat_list F.slot_int_index.lookup
    (call_meets F.slot_int_rmul (typeIs_int s k t) F.entry_int_rmul (F.args_int_rmul_2 _ _) (int___rmul___int_list k t l its.toArray n)
      ⟨e, rfl, ⟨_, e, rfl⟩, call_meets F.slot_list_mul ⟨_, e, rfl⟩ F.entry_list_mul (F.args_list_mul_2 _ _) (AutoListH.list___mul___list_int_3 l its.toArray n k t hfit hcap hlong) ⟨e, ?_⟩⟩)
  rw [hnew]
  exact ⟨.ref _, _, I.lnew (t' := s.toks) (r.rep k.toNat) (by rw [PyProof.Rows.lm_len_rep_flat, Nat.mul_comm]; exact hz), rfl, q _ I.fresh⟩
end
/-! ### operators that may make something new of shared operands -/
def OpF (X : Cx) (o : D → D → Option Cell) (r : R2) : Prop := ∀ (B W H : Hp) (vs : List (Option V)) (cs : List (Option Cell)) (x y : D) (c : Cell) (u v : V) (Q : VK), o x y = some c → R X.K X.mg B W H vs cs → Rep X.K X.mg W x u → Rep X.K X.mg W y v →
  (∀ W' H' w, Gr B W W' → R X.K X.mg B W' H' (some w :: vs) (some c :: cs) → Q w H') → r u v H Q
def OpF1 (X : Cx) (o : List D → Option Cell) (r : List V → Hp → VK → Prop) : Prop := ∀ (B W H : Hp) (vs : List (Option V)) (cs : List (Option Cell)) (xs : List D) (c : Cell) (us : List V) (Q : VK), o xs = some c → R X.K X.mg B W H vs cs → RepL X.K X.mg W xs us →
  (∀ W' H' w, Gr B W W' → R X.K X.mg B W' H' (some w :: vs) (some c :: cs) → Q w H') → r us H Q
def mBinF (o : D → D → Option Cell) (m n : Env → Option (Cell × Env)) : Env → Option (Cell × Env) := fun ρ => match m ρ with
  | some (c, ρ1) => (match n ρ1 with
    | some (c', ρ2) => (match o c.2 c'.2 with
      | some d => some (d, ρ2)
      | none => none)
    | none => none)
  | none => none
def mCallF (o : List D → Option Cell) (ms : Env → Option (List D × Env)) : Env → Option (Cell × Env) := fun ρ => match ms ρ with
  | some (ds, ρ1) => (match o ds with
      | some d => some (d, ρ1)
      | none => none)
  | none => none
section
variable {X : Cx} {a b c e : Expr} {es : List Expr} {f g : Env → Option D} {m n : Env → Option (Cell × Env)} {ms : Env → Option (List D × Env)} {pos : Pos} {σ : L2.St} {H : Hp} {ρ : Env} {k : Nat}
theorem mBinF_imp {o : D → D → Option Cell} {r : R2} (w : OpF X o r) {Q : VK} (h : gS X (mBinF o m n) σ H Q) : tOp r (gS X m) (gS X n) σ H Q := by
  obtain ⟨B, W, ts, tc, ρ, cl, ρ', r, hl, e, q⟩ := h
  unfold mBinF at e
  split at e
  · rename_i c ρ1 em
    split at e
    · rename_i c' ρ2 en
      split at e
      · rename_i d ed
        cases e
        refine ⟨B, W, ts, tc, ρ, c, ρ1, r, hl, em, fun W1 H1 u g1 r1 => ?_⟩
        obtain ⟨W2, g2, r2, hu⟩ := R.pop r1
        refine ⟨B, W2, ts, tc, ρ1, c', ρ', r2, hl, en, fun W3 H3 v g3 r3 => ?_⟩
        obtain ⟨W4, g4, r4, hv⟩ := R.pop r3
        exact w B W4 H3 _ _ c.2 c'.2 cl u v Q ed r4 (Rep.mono (g3.sm.trans g4.sm) _ _ hu) hv fun W5 H5 z g5 r5 => q W5 H5 z ((((g1.trans g2).trans g3).trans g4).trans g5) r5
      · cases e
    · cases e
  · cases e
theorem g_opF {op : Operator} {o : D → D → Option Cell} {r : R2} (ho : OpR X (binaryOp op) r) (w : OpF X o r) (ha : PE X a (gS X m)) (hb : PE X b (gS X n)) : PE X (.BinOp a op b pos) (gS X (mBinF o m n)) :=
  PEi (pe_op ho ha hb) fun σ H Q h => mBinF_imp w h
theorem mCallF_imp {o : List D → Option Cell} {r : List V → Hp → VK → Prop} (w : OpF1 X o r) {Q : VK} (h : gS X (mCallF o ms) σ H Q) : tCB r (gA X 0 ms) σ H Q := by
  obtain ⟨B, W, ts, tc, ρ, cl, ρ', r, hl, e, q⟩ := h
  unfold mCallF at e
  split at e
  · rename_i ds ρ1 em
    split at e
    · rename_i d ed
      cases e
      exact ⟨B, W, ts, tc, ρ, ds, ρ', r, hl, em, fun W1 H1 vs g1 r1 => w B W1 H1 _ _ ds cl vs Q ed (RL.r r1) (RL.rep0 r1) fun W5 H5 z g5 r5 => q W5 H5 z (g1.trans g5) r5⟩
    · cases e
  · cases e
theorem g_callB {id : String} {o : List D → Option Cell} {r : List V → Hp → VK → Prop} {x : Str} {p : Pos} (hc : CallR X (.builtin id) r) (w : OpF1 X o r) (hg : Gl X x) (hm : X.mg x = none) (hv : bootBuiltins x = some (.builtin id)) (ha : PA X (e :: es) (gA X 0 ms)) (hn : x ≠ "__name__" := by decide) (hdb : (x == ("__debug__" : Str)) = false := by decide)
    (he : starEach (e :: es) X.env = (false, eval e X.env) :: starEach es X.env := by rfl) (hpl : (backTo pos (starEach es X.env)).any (·.1) = false := by rfl) : PE X (.Call (.Name x p) (e :: es) [] pos) (gS X (mCallF o ms)) :=
  PEi (pe_callB hc hg hm hv ha hn hdb he hpl) fun σ H Q h => mCallF_imp w h
theorem g_callTy {T : String} {o : List D → Option Cell} {r : List V → Hp → VK → Prop} {x : Str} {p : Pos} (hc : CallR X (.type T) r) (w : OpF1 X o r) (hg : Gl X x) (hm : X.mg x = none) (hv : bootBuiltins x = some (.type T)) (ha : PA X (e :: es) (gA X 0 ms)) (hn : x ≠ "__name__" := by decide) (hdb : (x == ("__debug__" : Str)) = false := by decide)
    (he : starEach (e :: es) X.env = (false, eval e X.env) :: starEach es X.env := by rfl) (hpl : (backTo pos (starEach es X.env)).any (·.1) = false := by rfl) : PE X (.Call (.Name x p) (e :: es) [] pos) (gS X (mCallF o ms)) :=
  PEi (pe_callTy hc hg hm hv ha hn hdb he hpl) fun σ H Q h => mCallF_imp w h
/-- a pure built-in on arguments that do things -/
theorem w_ofN {o : List D → Option D} {r : List V → Hp → VK → Prop} (w : OpN X o r) : OpF1 X (fun ds => match o ds with | some d => if d.sc then some (0, d) else none | none => none) r := fun B W H vs cs xs c us Q e r hu q => by
  simp only at e
  split at e
  · rename_i d ed
    split at e
    · rename_i hs
      cases e
      exact w H xs d us Q ed (by
        have : ∀ (l : List D) (us : List V), RepL X.K X.mg W l us → RepL X.K X.mg H l us := fun l us h => RepL.mono r.sw l us h
        exact this _ _ hu) fun w hw => q W H w (Gr.refl B W) (r.pushS hs hw)
    · cases e
  · cases e
/-- a new list of what is shared -/
theorem R.newL {K : PySem.W.Frag} {mg : Str → Option Value} {B W H : Hp} {vs : List (Option V)} {cs : List (Option Cell)} {ds : List D} {xs : List V} (r : R K mg B W H vs cs) (h : RepL K mg W ds xs) {p : Addr} (np : H p = none) :
    R K mg B W (upd H p (.lst xs)) (some (.ref p) :: vs) (some (1, .lst ds) :: cs) := RL.lst (RL.of0 r h) np
/-- the levels of a new value -/
def dAddG : D → D → Option Cell
  | .int i, .int j => some (0, .int (i + j))
  | .str x, .str y => if x.length + y.length ≤ sizeLine then some (0, .str (x ++ y)) else none
  | .lst l, .lst m => if l.length + m.length ≤ sizeLine then some (1, .lst (l ++ m)) else none
  | .tup l, .tup m => if l.length + m.length ≤ sizeLine then some (0, .tup (l ++ m)) else none
  | _, _ => none
def rAddG (K : PySem.W.Frag) : R2 := fun x y H Q => (rI0 fun i j => .int (i + j)) x y H Q ∨ (∃ i j, x = .str i ∧ y = .str j ∧ i.length + j.length ≤ sizeLine ∧ Q (.str (i ++ j)) H) ∨ rCatX K x y H Q ∨ rCatA K x y H Q
theorem op_addG : OpR X (binaryOp .Add) (rAddG X.K) := by
  intro pins s σ H x y v u Q I rx ry h
  rcases h with h | h | h | h
  · exact op_add pins s σ H x y v u Q I rx ry h
  · exact op_add_str pins s σ H x y v u Q I rx ry h
  · exact op_catX pins s σ H x y v u Q I rx ry h
  · exact op_catA pins s σ H x y v u Q I rx ry h
theorem w_addG : OpF X dAddG (rAddG X.K) := fun B W H vs cs x y c u v Q e r hu hv q => by
  unfold dAddG at e
  split at e
  · cases e
    exact .inl ⟨_, _, hu, hv, q W H _ (Gr.refl B W) (r.push0 rfl)⟩
  · split at e
    · rename_i hz
      cases e
      exact .inr (.inl ⟨_, _, hu, hv, hz, q W H _ (Gr.refl B W) (r.push0 rfl)⟩)
    · cases e
  · split at e
    · rename_i hz
      cases e
      obtain ⟨p, xs, rfl, h1, h2⟩ := hu
      obtain ⟨p', ys, rfl, h3, h4⟩ := hv
      exact .inr (.inr (.inl ⟨p, p', xs, ys, rfl, rfl, Same.seqX r.sw h1, Same.seqX r.sw h3, by rw [h2.length, h4.length]; exact hz, fun p np => q W _ _ (Gr.refl B W) (r.newL (h2.append h4) np)⟩))
    · cases e
  · rename_i l m
    split at e
    · rename_i hz
      cases e
      obtain ⟨p, xs, rfl, h1, h2⟩ := hu
      obtain ⟨p', ys, rfl, h3, h4⟩ := hv
      refine .inr (.inr (.inr ⟨p, p', xs, ys, rfl, rfl, Same.seqT r.sw h1, Same.seqT r.sw h3, by rw [h2.length, h4.length]; exact hz, fun z => ?_, fun _ z => ?_, fun _ _ p np => ?_⟩))
      · subst z
        have hl := h2.length
        cases l with
        | nil => exact q W H _ (Gr.refl B W) (r.push0 ⟨p', ys, rfl, h3, h4⟩)
        | cons _ _ => simp at hl
      · subst z
        have hl := h4.length
        cases m with
        | nil => exact q W H _ (Gr.refl B W) (r.push0 (by rw [List.append_nil]; exact ⟨p, xs, rfl, h1, h2⟩))
        | cons _ _ => simp at hl
      · obtain ⟨W2, g2, r2⟩ := R.pair r (h2.append h4) np
        exact q W2 _ _ g2 r2
    · cases e
  · cases e
/-- list * int, int * int -/
noncomputable def okIx (i : Int) : Bool := @decide (-(2 ^ 63) ≤ i ∧ i < 2 ^ 63) (Classical.propDecidable _)
theorem okIx_of {i : Int} (h : okIx i = true) : -(2 ^ 63) ≤ i ∧ i < 2 ^ 63 := @of_decide_eq_true _ (Classical.propDecidable _) h
theorem okIx_mk {i : Int} (h : -(2 ^ 63) ≤ i ∧ i < 2 ^ 63) : okIx i = true := @decide_eq_true _ (Classical.propDecidable _) h
noncomputable def dMulG : D → D → Option Cell
  | .int i, .int j => if okMul i j then some (0, .int (i * j)) else none
  | .lst l, .int k => if okIx k && decide (l.length * k.toNat ≤ sizeLine) then some (1, .lst (List.replicate k.toNat l).flatten) else none
  | _, _ => none
def rMulG (K : PySem.W.Frag) : R2 := fun x y H Q => rI CMulW (fun i j => .int (i * j)) x y H Q ∨ rRepX K x y H Q
theorem op_mulG : OpR X (binaryOp .Mult) (rMulG X.K) := by
  intro pins s σ H x y v u Q I rx ry h
  rcases h with h | h
  · exact op_mulW pins s σ H x y v u Q I rx ry h
  · exact op_repX pins s σ H x y v u Q I rx ry h
theorem RepL.rep {K : PySem.W.Frag} {mg : Str → Option Value} {W : Hp} {l : List D} {vs : List V} (h : RepL K mg W l vs) : ∀ n : Nat, RepL K mg W (List.replicate n l).flatten (List.replicate n vs).flatten
  | 0 => rfl
  | n + 1 => by
    rw [List.replicate_succ, List.flatten_cons, List.replicate_succ, List.flatten_cons]
    exact h.append (RepL.rep h n)
theorem w_mulG : OpF X dMulG (rMulG X.K) := fun B W H vs cs x y c u v Q e r hu hv q => by
  unfold dMulG at e
  split at e
  · split at e
    · rename_i hz
      cases e
      exact .inl ⟨_, _, hu, hv, of_decide_eq_true (p := _ < 1000000) hz, q W H _ (Gr.refl B W) (r.push0 rfl)⟩
    · cases e
  · split at e
    · rename_i hz
      rw [Bool.and_eq_true] at hz
      cases e
      obtain ⟨p, xs, rfl, h1, h2⟩ := hu
      exact .inr ⟨p, _, xs, rfl, hv, Same.seqX r.sw h1, (okIx_of hz.1).1, (okIx_of hz.1).2, by rw [h2.length]; exact of_decide_eq_true hz.2, fun p np => q W _ _ (Gr.refl B W) (r.newL (h2.rep _) np)⟩
    · cases e
  · cases e
theorem g_add (ha : PE X a (gS X m)) (hb : PE X b (gS X n)) : PE X (.BinOp a .Add b pos) (gS X (mBinF dAddG m n)) := g_opF op_addG w_addG ha hb
theorem g_mul (ha : PE X a (gS X m)) (hb : PE X b (gS X n)) : PE X (.BinOp a .Mult b pos) (gS X (mBinF dMulG m n)) := g_opF op_mulG w_mulG ha hb
/-! ### slices -/
def cutD (l : List D) (lo hi : Option Int) : List D := (l.drop (HT.sIx l.length 0 lo)).take (HT.sIx l.length l.length hi - HT.sIx l.length 0 lo)
theorem RepL.cut {K : PySem.W.Frag} {mg : Str → Option Value} {W : Hp} {l : List D} {vs : List V} (h : RepL K mg W l vs) (lo hi : Option Int) : RepL K mg W (cutD l lo hi) (cutV vs lo hi) := by
  unfold cutD cutV
  rw [h.length]
  exact (h.drop _).take _
/-- a slice's part: left out, or a pure int -/
abbrev OPart := Option (Env → Option D)
def oVal (o : OPart) (ρ : Env) : Option (Option Int) := match o with
  | none => some none
  | some f => match f ρ with | some (.int i) => some (some i) | _ => none
def pO (X : Cx) (o : OPart) : TO := fun σ H Q => ∃ ρ i, Sta X σ H ρ ∧ oVal o ρ = some i ∧ Q i H
theorem POi {e : Option Expr} {t t' : TO} (h : PO X e t) (i : ∀ σ H Q, t' σ H Q → t σ H Q) : PO X e t' := ⟨fun pins s σ H Q I q => h.run pins s σ H Q I (i σ H Q q)⟩
theorem o_none : PO X none (pO X none) := POi po_none fun σ H Q ⟨ρ, i, s, e, q⟩ => by cases e; exact q
theorem o_some (h : PE X e (pS X f)) : PO X (some e) (pO X (some f)) := POi (po_some h) fun σ H Q ⟨ρ, i, s, e, q⟩ => by
  unfold oVal at e
  simp only at e
  split at e
  · rename_i j ej
    cases e
    exact ⟨ρ, _, s, ej, fun v hv => ⟨_, hv, q⟩⟩
  · cases e
def rSlG (K : PySem.W.Frag) : V → Option Int → Option Int → Hp → VK → Prop := fun x lo hi H Q => (rSlL K x lo hi H Q ∨ rSlA K x lo hi H Q) ∨ rSlS x lo hi H Q
theorem sl_G : SlR X (rSlG X.K) := SlR.or (SlR.or sl_list sl_tupA) sl_str
/-- a part that may do things -/
abbrev GPart := Option (Env → Option (Cell × Env))
def gVal (o : GPart) (ρ : Env) : Option (Option Int × Env) := match o with
  | none => some (none, ρ)
  | some f => match f ρ with | some ((_, .int i), ρ1) => some (some i, ρ1) | _ => none
def gO (X : Cx) (o : GPart) : TO := fun σ H Q => ∃ (B W : Hp) (ts : List (Option V)) (tc : List (Option Cell)) (ρ : Env) (i : Option Int) (ρ' : Env), R X.K X.mg B W H (ts ++ σ) (tc ++ ρ) ∧ ts.length = tc.length ∧ gVal o ρ = some (i, ρ') ∧
  ∀ W' H', Gr B W W' → R X.K X.mg B W' H' (ts ++ σ) (tc ++ ρ') → Q i H'
theorem go_none : PO X none (gO X none) := POi po_none fun σ H Q ⟨B, W, ts, tc, ρ, i, ρ', r, hl, e, q⟩ => by cases e; exact q W H (Gr.refl B W) r
theorem go_some (h : PE X e (gS X m)) : PO X (some e) (gO X (some m)) := POi (po_some h) fun σ H Q ⟨B, W, ts, tc, ρ, i, ρ', r, hl, em, q⟩ => by
  unfold gVal at em
  simp only at em
  split at em
  · rename_i k j ρ1 ej
    cases em
    refine ⟨B, W, ts, tc, ρ, _, _, r, hl, ej, fun W1 H1 v g1 r1 => ?_⟩
    obtain ⟨W2, g2, r2, hu⟩ := R.pop r1
    exact ⟨j, hu, q W2 H1 (g1.trans g2) r2⟩
  · cases em
def dCut : D → Option Int → Option Int → Option Cell
  | .lst l, lo, hi => some (1, .lst (cutD l lo hi))
  | .tup l, lo, hi => some (0, .tup (cutD l lo hi))
  | .str z, lo, hi => if z.length ≤ sizeLine then some (0, .str (cutS z lo hi)) else none
  | _, _, _ => none
def mSl (m : Env → Option (Cell × Env)) (lo hi : GPart) : Env → Option (Cell × Env) := fun ρ => match m ρ with
  | some (c, ρ1) => (match gVal lo ρ1 with
    | some (i, ρ2) => (match gVal hi ρ2 with
      | some (j, ρ3) => (match dCut c.2 i j with
        | some d => some (d, ρ3)
        | none => none)
      | none => none)
    | none => none)
  | none => none
theorem g_slice {lo hi : Option Expr} {l h : GPart} {p2 : Pos} (he : PE X e (gS X m)) (hl : PO X lo (gO X l)) (hh : PO X hi (gO X h)) : PE X (.Subscript e (.Slice lo hi none p2) pos) (gS X (mSl m l h)) :=
  PEi (pe_slice sl_G he hl hh) fun σ H Q ⟨B, W, ts, tc, ρ, cl, ρ', r, hlen, em, q⟩ => by
    unfold mSl at em
    split at em
    · rename_i c ρ1 e1
      split at em
      · rename_i i ρ2 e2
        split at em
        · rename_i j ρ3 e3
          split at em
          · rename_i d ed
            cases em
            obtain ⟨k0, x⟩ := c
            refine ⟨B, W, ts, tc, ρ, _, ρ1, r, hlen, e1, fun W1 H1 v g1 r1 => ?_⟩
            obtain ⟨W2, g2, r2, hu⟩ := R.pop r1
            refine ⟨B, W2, ts, tc, ρ1, i, ρ2, r2, hlen, e2, fun W3 H3 g3 r3 => ⟨B, W3, ts, tc, ρ2, j, _, r3, hlen, e3, fun W4 H4 g4 r4 => ?_⟩⟩
            have hu4 := Rep.mono (g3.sm.trans g4.sm) _ _ hu
            have gg := (((g1.trans g2).trans g3).trans g4)
            cases x <;> first | (cases ed; done) | skip
            · rename_i z
              simp only [dCut] at ed
              split at ed
              · cases ed
                exact .inr ⟨z, hu4, by assumption, q W4 H4 _ gg (r4.push0 rfl)⟩
              · cases ed
            · rename_i l
              cases ed
              obtain ⟨a, vs, rfl, h1, h2⟩ := hu4
              exact .inl (.inl ⟨a, vs, rfl, (Same.seqX r4.sw h1).sq, fun p np => q W4 _ _ gg (r4.newL (h2.cut i j) np)⟩)
            · rename_i l
              cases ed
              obtain ⟨a, vs, rfl, h1, h2⟩ := hu4
              refine .inl (.inr ⟨a, vs, rfl, Same.seqT r4.sw h1, fun hw => ?_, fun hw p np => ?_⟩)
              · have e : cutD l i j = l := by
                  unfold cutD
                  rw [← h2.length, hw.1, hw.2, List.drop_zero, Nat.sub_zero, h2.length, List.take_length]
                refine q W4 H4 _ gg (r4.push0 ?_)
                rw [e]
                exact ⟨a, vs, rfl, h1, h2⟩
              · obtain ⟨W5, g5, r5⟩ := R.pair r4 (h2.cut i j) np
                exact q W5 _ _ (gg.trans g5) r5
          · cases em
        · cases em
      · cases em
    · cases em
/-- xs[::-1] -/
def mRevL (m : Env → Option (Cell × Env)) : Env → Option (Cell × Env) := fun ρ => match m ρ with
  | some ((_, .lst l), ρ1) => some ((1, .lst l.reverse), ρ1)
  | _ => none
theorem RepL.reverse {K : PySem.W.Frag} {mg : Str → Option Value} {W : Hp} : ∀ {l : List D} {vs : List V}, RepL K mg W l vs → RepL K mg W l.reverse vs.reverse
  | [], _, h => by cases (show _ = [] from h); exact rfl
  | d :: ds, _, h => by
    obtain ⟨v, r, rfl, h1, h2⟩ := h
    rw [List.reverse_cons, List.reverse_cons]
    exact (RepL.reverse h2).append ⟨v, [], rfl, h1, rfl⟩
/-! ### lists of, tuples of -/
def dListOf : List D → Option Cell
  | [.lst l] => some (1, .lst l)
  | [.tup l] => some (1, .lst l)
  | _ => none
theorem w_listOf : OpF1 X dListOf (fun xs H Q => ∃ p ys, xs = [.ref p] ∧ (SqL X.K H p ys ∨ SqT X.K H p ys) ∧ ∀ l, H l = none → Q (.ref l) (upd H l (.lst ys))) := fun B W H vs cs xs c us Q e r hu q => by
  unfold dListOf at e
  split at e
  · cases e
    obtain ⟨u, rfl, a, ys, rfl, h1, h2⟩ := repL1 hu
    exact ⟨a, ys, rfl, .inl (Same.seqX r.sw h1).sq, fun p np => q W _ _ (Gr.refl B W) (r.newL h2 np)⟩
  · cases e
    obtain ⟨u, rfl, a, ys, rfl, h1, h2⟩ := repL1 hu
    exact ⟨a, ys, rfl, .inr (Same.seqT r.sw h1), fun p np => q W _ _ (Gr.refl B W) (r.newL h2 np)⟩
  · cases e
def dTupleOf : List D → Option Cell
  | [.lst l] => some (0, .tup l)
  | [.tup l] => some (0, .tup l)
  | _ => none
theorem w_tupleOf : OpF1 X dTupleOf (fun xs H Q => ∃ p ys, xs = [.ref p] ∧ ((SqL X.K H p ys ∧ ∀ l, H l = none → Q (.ref l) (upd H l (.tup ys))) ∨ (SqT X.K H p ys ∧ Q (.ref p) H))) := fun B W H vs cs xs c us Q e r hu q => by
  unfold dTupleOf at e
  split at e
  · cases e
    obtain ⟨u, rfl, a, ys, rfl, h1, h2⟩ := repL1 hu
    refine ⟨a, ys, rfl, .inl ⟨(Same.seqX r.sw h1).sq, fun p np => ?_⟩⟩
    obtain ⟨W5, g5, r5⟩ := R.pair r h2 np
    exact q W5 _ _ g5 r5
  · cases e
    obtain ⟨u, rfl, a, ys, rfl, h1, h2⟩ := repL1 hu
    exact ⟨a, ys, rfl, .inr ⟨Same.seqT r.sw h1, q W H _ (Gr.refl B W) (r.push0 ⟨a, ys, rfl, h1, h2⟩)⟩⟩
  · cases e
/-! ### min, max of a list of ints -/
def maxI : List Int → Option Int
  | [] => none
  | i :: r => match maxI r with | none => some i | some j => some (if j ≤ i then i else j)
def minI : List Int → Option Int
  | [] => none
  | i :: r => match minI r with | none => some i | some j => some (if i ≤ j then i else j)
theorem maxI_eq : ∀ {l : List Int} {m : Int}, m ∈ l → (∀ y ∈ l, y ≤ m) → maxI l = some m
  | i :: r, m, h, a => by
    unfold maxI
    cases q : maxI r with
    | none =>
      cases r with
      | nil => simp at h; rw [h]
      | cons j r => simp [maxI] at q; split at q <;> cases q
    | some j =>
      have hj : j ∈ r ∧ ∀ y ∈ r, y ≤ j := by
        clear h a
        induction r generalizing j with
        | nil => cases q
        | cons b r ih =>
          unfold maxI at q
          split at q
          · rename_i q2
            cases q
            cases r with
            | nil => simp
            | cons c r => unfold maxI at q2; split at q2 <;> cases q2
          · rename_i j2 q2
            cases q
            obtain ⟨h1, h2⟩ := ih j2 q2
            split
            · exact ⟨List.mem_cons_self, fun y hy => by rcases List.mem_cons.mp hy with rfl | hy; · exact Int.le_refl _
                                                        · exact Int.le_trans (h2 y hy) (by assumption)⟩
            · exact ⟨List.mem_cons_of_mem _ h1, fun y hy => by rcases List.mem_cons.mp hy with rfl | hy; · omega
                                                               · exact h2 y hy⟩
      have hi := a i List.mem_cons_self
      have hjm := a j (List.mem_cons_of_mem _ hj.1)
      simp only
      congr 1
      rcases List.mem_cons.mp h with rfl | h
      · rw [if_pos hjm]
      · have := hj.2 m h
        split <;> omega
theorem minI_eq : ∀ {l : List Int} {m : Int}, m ∈ l → (∀ y ∈ l, m ≤ y) → minI l = some m
  | i :: r, m, h, a => by
    unfold minI
    cases q : minI r with
    | none =>
      cases r with
      | nil => simp at h; rw [h]
      | cons j r => simp [minI] at q; split at q <;> cases q
    | some j =>
      have hj : j ∈ r ∧ ∀ y ∈ r, j ≤ y := by
        clear h a
        induction r generalizing j with
        | nil => cases q
        | cons b r ih =>
          unfold minI at q
          split at q
          · rename_i q2
            cases q
            cases r with
            | nil => simp
            | cons c r => unfold minI at q2; split at q2 <;> cases q2
          · rename_i j2 q2
            cases q
            obtain ⟨h1, h2⟩ := ih j2 q2
            split
            · exact ⟨List.mem_cons_self, fun y hy => by rcases List.mem_cons.mp hy with rfl | hy; · exact Int.le_refl _
                                                        · exact Int.le_trans (by assumption) (h2 y hy)⟩
            · exact ⟨List.mem_cons_of_mem _ h1, fun y hy => by rcases List.mem_cons.mp hy with rfl | hy; · omega
                                                               · exact h2 y hy⟩
      have hi := a i List.mem_cons_self
      have hjm := a j (List.mem_cons_of_mem _ hj.1)
      simp only
      congr 1
      rcases List.mem_cons.mp h with rfl | h
      · rw [if_pos hjm]
      · have := hj.2 m h
        split <;> omega
def dMaxL : List D → Option D
  | [.lst l] => match intsOf l with | some ns => (match maxI ns with | some m => some (.int m) | none => none) | none => none
  | [.int i, .int j] => some (.int (if j > i then j else i))
  | _ => none
def dMinL : List D → Option D
  | [.lst l] => match intsOf l with | some ns => (match minI ns with | some m => some (.int m) | none => none) | none => none
  | [.int i, .int j] => some (.int (if j < i then j else i))
  | _ => none
def rMaxG (X : Cx) : List V → Hp → VK → Prop := fun xs H Q => rMax X.K xs H Q ∨ ∃ i j, xs = [.int i, .int j] ∧ Q (.int (if j > i then j else i)) H
def rMinG (X : Cx) : List V → Hp → VK → Prop := fun xs H Q => rMin X.K xs H Q ∨ ∃ i j, xs = [.int i, .int j] ∧ Q (.int (if j < i then j else i)) H
theorem call_maxG (hc : X.calm = true) : CallR X (.builtin "max") (rMaxG X) := (cr_max hc).or (call_max2 hc)
theorem call_minG (hc : X.calm = true) : CallR X (.builtin "min") (rMinG X) := (cr_min hc).or (call_min2 hc)
theorem w_maxL : OpN X dMaxL (rMaxG X) := fun H xs z us Q e hu q => by
  unfold dMaxL at e
  split at e
  · split at e
    · rename_i ns en
      split at e
      · rename_i m em
        cases e
        obtain ⟨u, rfl, a, vs, rfl, h1, h2⟩ := repL1 hu
        cases intsOf_rep en h2
        refine .inl ⟨a, ns, rfl, h1.sq, ?_, fun m' h3 h4 => ?_⟩
        · cases ns with
          | nil => cases em
          | cons _ _ => simp
        · rw [maxI_eq h3 h4] at em; cases em
          exact q _ rfl
      · cases e
    · cases e
  · cases e
    obtain ⟨u, v, rfl, h1, h2⟩ := repL2 hu
    cases (show u = _ from h1); cases (show v = _ from h2)
    exact .inr ⟨_, _, rfl, q _ rfl⟩
  · cases e
theorem w_minL : OpN X dMinL (rMinG X) := fun H xs z us Q e hu q => by
  unfold dMinL at e
  split at e
  · split at e
    · rename_i ns en
      split at e
      · rename_i m em
        cases e
        obtain ⟨u, rfl, a, vs, rfl, h1, h2⟩ := repL1 hu
        cases intsOf_rep en h2
        refine .inl ⟨a, ns, rfl, h1.sq, ?_, fun m' h3 h4 => ?_⟩
        · cases ns with
          | nil => cases em
          | cons _ _ => simp
        · rw [minI_eq h3 h4] at em; cases em
          exact q _ rfl
      · cases e
    · cases e
  · cases e
    obtain ⟨u, v, rfl, h1, h2⟩ := repL2 hu
    cases (show u = _ from h1); cases (show v = _ from h2)
    exact .inr ⟨_, _, rfl, q _ rfl⟩
  · cases e
/-! ### is, is not of None and bools -/
def dIsG : D → D → Option D
  | .bl a, .bl b => some (.bl (decide (a = b)))
  | x, y => dIsN x y
def dNotG : D → D → Option D
  | .bl a, .bl b => some (.bl (!decide (a = b)))
  | x, y => dNotN x y
end
end Mn

namespace Mn
open PySem PySem.Spec PyProof.Rows L2
/-! ### values one after the other, each with its own levels -/
def gAs (X : Cx) (m : Env → Option (List Cell × Env)) : TA := fun σ H Q => ∃ (B W : Hp) (ts : List (Option V)) (tc : List (Option Cell)) (ρ : Env) (cs : List Cell) (ρ' : Env), R X.K X.mg B W H (ts ++ σ) (tc ++ ρ) ∧ ts.length = tc.length ∧ m ρ = some (cs, ρ') ∧
  ∀ W' H' vs, Gr B W W' → vs.length = cs.length → R X.K X.mg B W' H' ((vs.reverse.map some) ++ (ts ++ σ)) ((cs.reverse.map some) ++ (tc ++ ρ')) → Q vs H'
def mAsNil : Env → Option (List Cell × Env) := fun ρ => some ([], ρ)
def mAsCons (m : Env → Option (Cell × Env)) (ms : Env → Option (List Cell × Env)) : Env → Option (List Cell × Env) := fun ρ => match m ρ with
  | some (c, ρ1) => (match ms ρ1 with
    | some (cs, ρ2) => some (c :: cs, ρ2)
    | none => none)
  | none => none
section
variable {X : Cx} {a b c e : Expr} {es : List Expr} {m n o : Env → Option (Cell × Env)} {ms : Env → Option (List Cell × Env)} {pos : Pos} {pr : List Nat}
theorem as_nil : PA X [] (gAs X mAsNil) := PAi pa_nil fun σ H Q ⟨B, W, ts, tc, ρ, cs, ρ', r, hl, e, q⟩ => by
  cases e
  exact q W H [] (Gr.refl B W) rfl r
theorem as_cons (ha : PE X a (gS X m)) (hr : PA X es (gAs X ms)) (hs : starEach (a :: es) X.env = (false, eval a X.env) :: starEach es X.env := by rfl) : PA X (a :: es) (gAs X (mAsCons m ms)) :=
  PAi (pa_cons ha hr hs) fun σ H Q ⟨B, W, ts, tc, ρ, cs, ρ', r, hl, e, q⟩ => by
    unfold mAsCons at e
    split at e
    · rename_i c ρ1 em
      split at e
      · rename_i cr ρ2 ems
        cases e
        refine ⟨B, W, ts, tc, ρ, c, ρ1, r, hl, em, fun W1 H1 v g1 r1 => ?_⟩
        refine ⟨B, W1, some v :: ts, some c :: tc, ρ1, cr, ρ', r1, by simp [hl], ems, fun W3 H3 vs g3 hv r3 => ?_⟩
        exact q W3 H3 (v :: vs) (g1.trans g3) (by simp [hv]) (by simpa using r3)
      · cases e
    · cases e
/-- a, b = x, y -/
def sPar2 (i j : Nat) (m n : Env → Option (Cell × Env)) : Env → Option Out := fun ρ => match m ρ with
  | some (c, ρ1) => (match n ρ1 with
    | some (c', ρ2) => some (.nx ((ρ2.set i (some c)).set j (some c')))
    | none => none)
  | none => none
theorem s_par2 {i j : Nat} {x y : Str} {px py pt : Pos} {kt k2 pt2} (hc : X.calm = true) (hN : X.N.Nodup) (hi : X.N[i]? = some x) (hj : X.N[j]? = some y) (hij : i ≠ j)
    (hx : X.env.scope.names.lookup x = some .local) (hy : X.env.scope.names.lookup y = some .local) (hpi : i ∉ pr) (hpj : j ∉ pr) (ha : PE X a (gS X m)) (hb : PE X b (gS X n))
    (hw : swappedStores [.Tuple [.Name x px, .Name y py] kt pt] (.Tuple [a, b] k2 pt2) X.env = pure (some [x, y]))
    (hs1 : starEach (a :: [b]) X.env = (false, eval a X.env) :: starEach [b] X.env := by rfl) (hs2 : starEach [b] X.env = (false, eval b X.env) :: starEach [] X.env := by rfl)
    (hs : swapsWithSole [.Tuple [.Name x px, .Name y py] kt pt] (.Tuple [a, b] k2 pt2) pos.line X.env = pure false := by rfl) :
    PS X (.Assign [.Tuple [.Name x px, .Name y py] kt pt] (.Tuple [a, b] k2 pt2) pos) (sS X pr (sPar2 i j m n)) :=
  PSi (ps_par hc hN hi hj hij hx hy (as_cons ha (as_cons hb as_nil hs2) hs1) hw hs) fun Dn σ H ⟨B, W, ρ, o, r, em, q⟩ => by
    unfold sPar2 at em
    split at em
    · rename_i c ρ1 e1
      split at em
      · rename_i c' ρ2 e2
        cases em
        refine ⟨B, W, [], [], ρ, [c, c'], ρ2, r, rfl, by simp only [mAsCons, mAsNil, e1, e2], fun W1 H1 vs g1 hv r1 => ?_⟩
        match vs, hv with
        | [v, w], _ =>
          refine ⟨v, w, rfl, q W1 H1 _ g1 ?_ ((Pr.refl.set hpi).set hpj)⟩
          have r2 := R.move r1 (j + 1)
          have r3 := R.move r2 i
          have e1 : (σ.set j (some w)).set i (some v) = (σ.set i (some v)).set j (some w) := List.set_comm _ _ (Ne.symm hij)
          have e2 : (ρ2.set j (some c')).set i (some c) = (ρ2.set i (some c)).set j (some c') := List.set_comm _ _ (Ne.symm hij)
          rw [← e1, ← e2]
          exact r3
      · cases em
    · cases em
def sPar3 (i j l : Nat) (m n o : Env → Option (Cell × Env)) : Env → Option Out := fun ρ => match m ρ with
  | some (c, ρ1) => (match n ρ1 with
    | some (c', ρ2) => (match o ρ2 with
      | some (c'', ρ3) => some (.nx (((ρ3.set i (some c)).set j (some c')).set l (some c'')))
      | none => none)
    | none => none)
  | none => none
theorem s_par3 {i j l : Nat} {x y z : Str} {px py pz pt : Pos} {kt k2 pt2} (hc : X.calm = true) (hN : X.N.Nodup) (hi : X.N[i]? = some x) (hj : X.N[j]? = some y) (hl : X.N[l]? = some z) (hij : i ≠ j) (hil : i ≠ l) (hjl : j ≠ l)
    (hx : X.env.scope.names.lookup x = some .local) (hy : X.env.scope.names.lookup y = some .local) (hz : X.env.scope.names.lookup z = some .local) (hpi : i ∉ pr) (hpj : j ∉ pr) (hpl : l ∉ pr) (ha : PE X a (gS X m)) (hb : PE X b (gS X n)) (hcc : PE X c (gS X o))
    (hw : swappedStores [.Tuple [.Name x px, .Name y py, .Name z pz] kt pt] (.Tuple [a, b, c] k2 pt2) X.env = pure (some [x, y, z]))
    (hs1 : starEach (a :: [b, c]) X.env = (false, eval a X.env) :: starEach [b, c] X.env := by rfl) (hs2 : starEach [b, c] X.env = (false, eval b X.env) :: starEach [c] X.env := by rfl) (hs3 : starEach [c] X.env = (false, eval c X.env) :: starEach [] X.env := by rfl)
    (hs : swapsWithSole [.Tuple [.Name x px, .Name y py, .Name z pz] kt pt] (.Tuple [a, b, c] k2 pt2) pos.line X.env = pure false := by rfl) :
    PS X (.Assign [.Tuple [.Name x px, .Name y py, .Name z pz] kt pt] (.Tuple [a, b, c] k2 pt2) pos) (sS X pr (sPar3 i j l m n o)) :=
  PSi (ps_par3 hc hN hi hj hl hij hil hjl hx hy hz (as_cons ha (as_cons hb (as_cons hcc as_nil hs3) hs2) hs1) hw hs) fun Dn σ H ⟨B, W, ρ, o', r, em, q⟩ => by
    unfold sPar3 at em
    split at em
    · rename_i c ρ1 e1
      split at em
      · rename_i c' ρ2 e2
        split at em
        · rename_i c'' ρ3 e3
          cases em
          refine ⟨B, W, [], [], ρ, [c, c', c''], ρ3, r, rfl, by simp only [mAsCons, mAsNil, e1, e2, e3], fun W1 H1 vs g1 hv r1 => ?_⟩
          match vs, hv with
          | [u, v, w], _ =>
            refine ⟨u, v, w, rfl, q W1 H1 _ g1 ?_ (((Pr.refl.set hpi).set hpj).set hpl)⟩
            have r2 := R.move r1 (l + 2)
            have r3 := R.move r2 (j + 1)
            have r4 := R.move r3 i
            have e1 : ((σ.set l (some w)).set j (some v)).set i (some u) = ((σ.set i (some u)).set j (some v)).set l (some w) := by
              rw [List.set_comm (some w) (some v) (Ne.symm hjl) (l := σ), List.set_comm (some w) (some u) (Ne.symm hil), List.set_comm (some v) (some u) (Ne.symm hij)]
            have e2 : ((ρ3.set l (some c'')).set j (some c')).set i (some c) = ((ρ3.set i (some c)).set j (some c')).set l (some c'') := by
              rw [List.set_comm (some c'') (some c') (Ne.symm hjl) (l := ρ3), List.set_comm (some c'') (some c) (Ne.symm hil), List.set_comm (some c') (some c) (Ne.symm hij)]
            rw [← e1, ← e2]
            exact r4
        · cases em
      · cases em
    · cases em
/-! ### targets that take what is owned -/
def tgC (X : Cx) (js : List Nat) (f : Cell → Env → Option Env) : TG := fun v σ H Q => ∃ (B W : Hp) (ts : List (Option V)) (tc : List (Option Cell)) (ρ : Env) (c : Cell) (ρ' : Env), R X.K X.mg B W H (some v :: (ts ++ σ)) (some c :: (tc ++ ρ)) ∧ ts.length = tc.length ∧ f c ρ = some ρ' ∧
  ∀ W' σ', Gr B W W' → R X.K X.mg B W' H (ts ++ σ') (tc ++ ρ') → (∀ i, i ∉ js → σ'[i]? = σ[i]?) → σ'.length = σ.length → Q σ' H
def tgCs (X : Cx) (js : List Nat) (f : List Cell → Env → Option Env) : TGs := fun vs σ H Q => ∃ (B W : Hp) (ts : List (Option V)) (tc : List (Option Cell)) (ρ : Env) (cs : List Cell) (ρ' : Env), R X.K X.mg B W H (vs.map some ++ (ts ++ σ)) (cs.map some ++ (tc ++ ρ)) ∧ vs.length = cs.length ∧ ts.length = tc.length ∧ f cs ρ = some ρ' ∧
  ∀ W' σ', Gr B W W' → R X.K X.mg B W' H (ts ++ σ') (tc ++ ρ') → (∀ i, i ∉ js → σ'[i]? = σ[i]?) → σ'.length = σ.length → Q σ' H
variable {f : Cell → Env → Option Env} {fs : List Cell → Env → Option Env} {js ks : List Nat}
def cName (i : Nat) : Cell → Env → Option Env := fun c ρ => some (ρ.set i (some c))
theorem tc_name {i : Nat} {y : Str} (hN : X.N.Nodup) (hi : X.N[i]? = some y) (hx : Loc X.env.scope y) (hf : X.fn y = true ∨ X.env.scope.names.lookup y = some .local := by first | exact .inl rfl | exact .inr rfl | assumption) : PG X (.Name y pos) (tgC X [i] (cName i)) :=
  PGi (pg_name hN hi hx hf) fun v σ H Q ⟨B, W, ts, tc, ρ, d, ρ', r, hl, e, q⟩ => by
    cases e
    refine q W _ (Gr.refl B W) ?_ (fun j hj => List.getElem?_set_ne (fun z => hj (by rw [z]; exact List.mem_singleton.mpr rfl))) (List.length_set ..)
    have r1 := R.move r (tc.length + i)
    rw [set_app, ← hl, set_app] at r1
    exact r1
def cName0 (i : Nat) : Cell → Env → Option Env := fun c ρ => some (ρ.set i (some (0, c.2)))
theorem tc_name0 {i : Nat} {y : Str} (hN : X.N.Nodup) (hi : X.N[i]? = some y) (hx : Loc X.env.scope y) (hf : X.fn y = true ∨ X.env.scope.names.lookup y = some .local := by first | exact .inl rfl | exact .inr rfl | assumption) : PG X (.Name y pos) (tgC X [i] (cName0 i)) :=
  PGi (pg_name hN hi hx hf) fun v σ H Q ⟨B, W, ts, tc, ρ, d, ρ', r, hl, e, q⟩ => by
    cases e
    obtain ⟨W', g, r'⟩ := R.fit (k := 0) r (by unfold Mn.fit; simp)
    refine q W' _ g ?_ (fun j hj => List.getElem?_set_ne (fun z => hj (by rw [z]; exact List.mem_singleton.mpr rfl))) (List.length_set ..)
    have r1 := R.move r' (tc.length + i)
    rw [set_app, ← hl, set_app] at r1
    exact r1
def csNil : List Cell → Env → Option Env := fun ds ρ => match ds with | [] => some ρ | _ => none
def csCons (f : Cell → Env → Option Env) (fs : List Cell → Env → Option Env) : List Cell → Env → Option Env := fun ds ρ => match ds with
  | d :: r => (match f d ρ with | some ρ1 => fs r ρ1 | none => none)
  | [] => none
theorem tc_nil : PGs X [] (tgCs X [] csNil) := PGsi pgs_nil fun vs σ H Q ⟨B, W, ts, tc, ρ, ds, ρ', r, hv, hl, e, q⟩ => by
  unfold csNil at e
  split at e
  · cases e
    have : vs = [] := List.length_eq_zero_iff.mp hv
    subst this
    exact ⟨rfl, q W σ (Gr.refl B W) r (fun _ _ => rfl) rfl⟩
  · cases e
theorem tc_cons (h1 : PG X e (tgC X js f)) (h2 : PGs X es (tgCs X ks fs)) (hs : (assignEach (e :: es) X.env).map (·.2) = assign e X.env :: (assignEach es X.env).map (·.2) := by rfl) : PGs X (e :: es) (tgCs X (js ++ ks) (csCons f fs)) :=
  PGsi (pgs_cons h1 h2 hs) fun vs σ H Q ⟨B, W, ts, tc, ρ, ds, ρ', r, hv, hl, e, q⟩ => by
    unfold csCons at e
    split at e
    · rename_i d rr
      split at e
      · rename_i ρ1 e1
        cases vs with
        | nil => simp at hv
        | cons v vr =>
          have hv' : vr.length = rr.length := by simpa using hv
          refine ⟨v, vr, rfl, B, W, vr.map some ++ ts, rr.map some ++ tc, ρ, d, ρ1, ?_, by simp [hv', hl], e1, fun W1 σ1 g1 r1 k1 l1 => ?_⟩
          · simpa using r
          · exact ⟨B, W1, ts, tc, ρ1, rr, ρ', by simpa using r1, hv', hl, e, fun W2 σ2 g2 r2 k2 l2 => q W2 σ2 (g1.trans g2) r2 (fun i hi => (k2 i fun z => hi (List.mem_append_right _ z)).trans (k1 i fun z => hi (List.mem_append_left _ z))) (l2.trans l1)⟩
      · cases e
    · cases e
theorem R.unl {K : PySem.W.Frag} {mg : Str → Option Value} {B W H : Hp} {k : Nat} : ∀ {ds : List D} {xs : List V} {vs : List (Option V)} {cs : List (Option Cell)}, RL K mg B W H k ds xs vs cs → R K mg B W H (xs.map some ++ vs) ((ds.map fun d => some (k, d)) ++ cs)
  | [], xs, vs, cs, r => by
    obtain ⟨T, G, h2, h4, hT⟩ := r.ex
    rw [h4.1]
    exact RL.r r
  | d :: ds, xs, vs, cs, r => by
    obtain ⟨T, G, h2, ⟨v, xr, F, G', rfl, p1, p2, p3⟩, hT⟩ := r.ex
    have r1 : RL K mg B W H k ds xr vs cs := ⟨r.sw, r.sb, T, G', h2, p2, fun b => ⟨by have := (hT b).1; have := p3 b; omega, fun hb => (hT b).2 (by have := p3 b; omega)⟩⟩
    -- all at once
    have key : ∀ (ds : List D) (xs : List V) (G T : Fp), OwnL (Own K mg W H k) ds xs G → Cells K mg W H vs cs T → Cells K mg W H (xs.map some ++ vs) ((ds.map fun d => some (k, d)) ++ cs) (fun b => G b + T b) := by
      intro ds
      induction ds with
      | nil =>
        rintro xs G T ⟨rfl, h0⟩ h
        have : (fun b => G b + T b) = T := by funext b; rw [h0 b, Nat.zero_add]
        rw [this]; exact h
      | cons d ds ih =>
        rintro xs G T ⟨v, xr, F, G', rfl, p1, p2, p3⟩ h
        exact ⟨F, _, ⟨v, rfl, p1⟩, ih xr G' T p2 h, fun b => by show G b + T b = F b + (G' b + T b); have := p3 b; omega⟩
    exact ⟨r.sw, r.sb, _, key (d :: ds) (v :: xr) G T ⟨v, xr, F, G', rfl, p1, p2, p3⟩ h2, fun b => ⟨by have := (hT b).1; show G b + T b ≤ 1; omega, fun hb => (hT b).2 (by have : G b + T b ≠ 0 := hb; omega)⟩⟩
/-- a tuple's items, each by itself -/
theorem R.untup {K : PySem.W.Frag} {mg : Str → Option Value} {B W H : Hp} {k : Nat} {l : List D} {v : V} {vs : List (Option V)} {cs : List (Option Cell)} (r : R K mg B W H (some v :: vs) (some (k, .tup l) :: cs)) :
    ∃ a xs, v = .ref a ∧ SqT K H a xs ∧ xs.length = l.length ∧ R K mg B W H (xs.map some ++ vs) ((l.map fun d => some (k - 1, d)) ++ cs) := by
  obtain ⟨T, ⟨F, G, ⟨u, e, h1⟩, h2, h3⟩, hT⟩ := r.ex
  cases e
  cases k with
  | zero =>
    obtain ⟨a, xs, rfl, h4, h5⟩ := h1.1
    exact ⟨a, xs, rfl, Same.seqT r.sw h4, h5.length, R.args (R.drop r) h5⟩
  | succ k =>
    obtain ⟨a, xs, G1, rfl, h4, h5, h6⟩ := h1
    refine ⟨a, xs, rfl, SqT.of h4, h5.length, R.unl (k := k) ⟨r.sw, r.sb, G, G1, h2, h5, fun b => ⟨?_, fun hb => (hT b).2 ?_⟩⟩⟩
    · have := (hT b).1; have := h3 b; have := h6 b; omega
    · have := h3 b; have := h6 b; omega
def cTup (n : Nat) (fs : List Cell → Env → Option Env) : Cell → Env → Option Env := fun c ρ => match c.2 with
  | .tup l => if l.length = n then fs (l.map fun d => (c.1 - 1, d)) ρ else none
  | _ => none
theorem tc_tup {k n : Nat} (hc : X.calm = true) (h : PGs X es (tgCs X js fs)) (hn : (assignEach es X.env).length = n := by rfl) (hst : (assignEach es X.env).findIdx? (·.1) = none := by rfl) : PG X (.Tuple es k pos) (tgC X js (cTup n fs)) :=
  PGi (pg_tup hc h hn hst) fun v σ H Q ⟨B, W, ts, tc, ρ, d, ρ', r, hl, e, q⟩ => by
    obtain ⟨k0, x⟩ := d
    unfold cTup at e
    simp only at e
    split at e
    · rename_i l
      split at e
      · rename_i hlen
        obtain ⟨a, xs, rfl, h1, h2, h3⟩ := R.untup r
        exact ⟨a, xs, rfl, h1, by rw [h2]; exact hlen, B, W, ts, tc, ρ, _, ρ', by rw [List.map_map]; exact h3, by simp [h2], hl, e, q⟩
      · cases e
    · cases e
def sAsgT (m : Env → Option (Cell × Env)) (f : Cell → Env → Option Env) : Env → Option Out := fun ρ => match m ρ with
  | some (c, ρ1) => (match f c ρ1 with
    | some ρ2 => some (.nx ρ2)
    | none => none)
  | none => none
theorem s_asgT {tg : Expr} (hg : PG X tg (tgC X js f)) (he : PE X e (gS X m)) (hd : ∀ j ∈ js, j ∉ pr) (hs : swapsWithSole [tg] e pos.line X.env = pure false := by rfl) (hw : swappedStores [tg] e X.env = pure none := by rfl)
    (h1 : (assignEach [tg] X.env).map (·.2) = [assign tg X.env] := by rfl) : PS X (.Assign [tg] e pos) (sS X pr (sAsgT m f)) :=
  PSi (ps_asg he hg hs hw h1) fun Dn σ H ⟨B, W, ρ, o, r, em, q⟩ => by
    unfold sAsgT at em
    split at em
    · rename_i c ρ1 e1
      split at em
      · rename_i ρ2 e2
        cases em
        exact ⟨B, W, [], [], ρ, c, ρ1, r, rfl, e1, fun W1 H1 v g1 r1 => ⟨B, W1, [], [], ρ1, c, ρ2, r1, rfl, e2, fun W2 σ' g2 r' k' l' => q W2 H1 σ' (g1.trans g2) r' (Pr.refl.off k' hd)⟩⟩
      · cases em
    · cases em
/-! ### constants of the module -/
def mK (d : D) : Env → Option (Cell × Env) := fun ρ => some ((0, d), ρ)
theorem p_glv {x : Str} {u : Value} {v : V} {d : D} (hg : Gl X x) (hm : X.mg x = some u) (r : RelV v u) (hd : ∀ W, Rep X.K X.mg W d v) (hdb : (x == ("__debug__" : Str)) = false := by decide) : PE X (.Name x pos) (pS X (pC d)) :=
  PEi (pe_glob hg hm r hdb) fun σ H Q ⟨ρ, d', s, e, q⟩ => by cases e; exact q _ (hd H)
theorem g_glv {x : Str} {u : Value} {v : V} {d : D} (hg : Gl X x) (hm : X.mg x = some u) (r : RelV v u) (hd : ∀ W, Rep X.K X.mg W d v) (hdb : (x == ("__debug__" : Str)) = false := by decide) : PE X (.Name x pos) (gS X (mK d)) :=
  PEi (pe_glob hg hm r hdb) fun σ H Q ⟨B, W, ts, tc, ρ, c, ρ', r, hl, e, q⟩ => by cases e; exact q W H _ (Gr.refl B W) (r.push0 (hd W))
end
end Mn

namespace Mn
open PySem PySem.Spec PyProof.Rows L2
/-! ### zip of two lists, strict -/
section
variable {prog : Program} {w : World} {A : Around} {E : Value → Shared → Prop} {s : Shared}
theorem nextOrEnd_item {it l : Addr} {i : Nat} {items : Array Value} {x : Value} {Q : Option Value → Shared → Prop} (hit : s.heap.IsListIter it l i)
    (hl : s.heap.IsList l items) (hx : items[i]? = some x)
    (hQ : ∀ h', h'.IsListIter it l (i + 1) → Heap.SameBut it s.heap h' → Q (some x) { s with heap := h' }) :
    wpAny (model prog w) A (Builtin.SmallTypes.nextOrEnd (.ref it)) Q E s := by
  unfold Builtin.SmallTypes.nextOrEnd
  exact wpAny_bind (wpAny_attempt (wpAny_nextOf_list_item hit hl hx fun h' a b => wpAny_pure (hQ h' a b)))
theorem nextOrEnd_end {it l : Addr} {i : Nat} {items : Array Value} {Q : Option Value → Shared → Prop} (hh : A.handled = none) (hit : s.heap.IsListIter it l i)
    (hl : s.heap.IsList l items) (hx : items[i]? = none)
    (hQ : ∀ h', Heap.ExtBut it s.heap h' → Q none { s with heap := h' }) :
    wpAny (model prog w) A (Builtin.SmallTypes.nextOrEnd (.ref it)) Q E s := by
  unfold Builtin.SmallTypes.nextOrEnd
  refine wpAny_bind (wpAny_attempt (wpAny_nextOf_list_end hh hit hl hx fun h' e a ⟨o, ho, hc⟩ => ?_))
  refine wpAny_bind (wpAny_isInstance (T := "StopIteration") (b := true) ⟨o, ho, hc⟩ isSubtype_stop ?_)
  exact wpAny_pure (hQ h' a)
theorem stop_raise {α : Type} {Q : α → Shared → Prop} (hh : A.handled = none) (hE : ∀ h' e, (∀ b o, s.heap.get? b = some o → h'.get? b = some o) → (∃ o, h'.get? e = some o ∧ o.cls = .type "StopIteration") → E (.ref e) { s with heap := h' }) :
    wpAny (model prog w) A (Builtin.SmallTypes.stopIteration (α := α)) Q E s := by
  unfold Builtin.SmallTypes.stopIteration
  refine wpAny_bind ?_
  simp only [newExc, newTuple]
  refine wpAny_bind (wpAny_newObj_type ?_ (by size_fits))
  refine wpAny_bind (m := firstArgMember _ _) (wpAny_of_eq (a := Value.none) (by first | rfl | (simp only [firstArgMember]; rfl)) ?_)
  refine wpAny_newObj_type ?_ (by size_fits)
  simp only [raiseNew]
  refine wpAny_bind (wpAny_handled ?_)
  first | rw [show A.in1.handled = none from hh] | rw [hh]
  refine wpAny_bind (wpAny_pure (wpAny_throw ?_))
  exact hE _ _ (fun b o e => Heap.get?_push_of_some _ (Heap.get?_push_of_some _ e)) ⟨_, Heap.get?_push_size _ rfl, rfl⟩
abbrev IsZipS (h : Heap) (z TI TO : Addr) (f0 : Value) : Prop :=
  h.get? z = some { cls := .type "zip", dict := none, data := .fields #[f0, .bool false, .bool true, .ref TI, .ref TO], slots := #[] }
theorem zipS_next_item {z TI TO i1 i2 l1 l2 : Addr} {k1 k2 : Nat} {xs ys : Array Value} {x y a b : Value} {Q : Value → Shared → Prop} (D : ZipApart z TI TO i1 i2 l1 l2)
    (hz : IsZipS s.heap z TI TO .none) (hTI : IsPair s.heap TI (.ref i1) (.ref i2)) (hTO : IsPair s.heap TO a b)
    (h1 : s.heap.IsListIter i1 l1 k1) (h2 : s.heap.IsListIter i2 l2 k2) (hl1 : s.heap.IsList l1 xs) (hl2 : s.heap.IsList l2 ys) (hx : xs[k1]? = some x) (hy : ys[k2]? = some y)
    (hQ : ∀ h', IsZipS h' z TI TO (rawInt s.heap.objs.size) → IsPair h' TO x y → h'.IsListIter i1 l1 (k1 + 1) → h'.IsListIter i2 l2 (k2 + 1) → IsPair h' s.heap.objs.size x y → h'.objs.size = s.heap.objs.size + 1 →
      (∀ c o, c ≠ z → c ≠ TO → c ≠ i1 → c ≠ i2 → s.heap.get? c = some o → h'.get? c = some o) → Q (.ref s.heap.objs.size) { s with heap := h' }) :
    wpAny (model prog w) A (Builtin.«zip.__next__» ⟨[.ref z], []⟩) (fun fin s' => ∃ v, fin = .done (.ret v) ∧ Q v s') E s := by
  show wpAny _ _ (field (.ref z) 2 >>= _) _ _ _
  refine wpAny_bind (wpAny_field hz rfl (x := .bool true) rfl ?_)
  show wpAny _ _ (field (.ref z) 3 >>= _) _ _ _
  refine wpAny_bind (wpAny_field hz rfl (x := .ref TI) rfl ?_)
  refine wpAny_bind (wpAny_seqItems hTI rfl ?_)
  show wpAny _ _ (Builtin.SmallTypes.ownedTupleIsFree (.ref z) >>= _) _ _ _
  refine wpAny_bind ?_
  unfold Builtin.SmallTypes.ownedTupleIsFree
  refine wpAny_bind (wpAny_field hz rfl (x := .none) rfl (wpAny_pure ?_))
  simp only [if_true]
  refine wpAny_bind (wpAny_rule ?_)
  refine wpAny_bind (wpAny_field hz rfl (x := .ref TO) rfl ?_)
  refine wpAny_bind (wpAny_setField_rec hz (by simp) fun h₁ hz₁ hs₁ => ?_)
  replace hz₁ : IsZipS h₁ z TI TO .ellipsis := hz₁
  refine wpAny_bind ?_
  simp only [List.zipIdx_cons, List.zipIdx_nil, List.forIn_cons, List.forIn_nil]

  refine wpAny_bind (wpAny_bind (wpAny_onRaise ?_))
  show wpAny _ _ (Builtin.SmallTypes.nextOrEnd (.ref i1)) _ _ _
  refine (nextOrEnd_item (h1.extBut hs₁.extBut D.i1z) (hl1.extBut hs₁.extBut D.l1z) hx fun h₂ h1₂ hs₂ => ?_)
  have hTO₂ : IsPair h₂ TO a b := hs₂.extBut _ _ D.TOi1 (hs₁.extBut _ _ D.TOz hTO)
  refine wpAny_bind (wpAny_seqItems hTO₂ rfl ?_)
  refine wpAny_bind (wpAny_updateSeq_pair hTO₂ fun h₃ hTO₃ hs₃ => ?_)
  replace hTO₃ : IsPair h₃ TO x b := hTO₃
  refine wpAny_bind (wpAny_letGo (wpAny_pure ?_))

  refine wpAny_bind (wpAny_bind (wpAny_onRaise ?_))
  show wpAny _ _ (Builtin.SmallTypes.nextOrEnd (.ref i2)) _ _ _
  refine (nextOrEnd_item (((h2.extBut hs₁.extBut D.i2z).extBut hs₂.extBut D.i12.symm).extBut hs₃.extBut D.TOi2.symm)
    (((hl2.extBut hs₁.extBut D.l2z).extBut hs₂.extBut D.l2i1).extBut hs₃.extBut D.l2TO) hy fun h₄ h2₄ hs₄ => ?_)
  have hTO₄ : IsPair h₄ TO x b := hs₄.extBut _ _ D.TOi2 hTO₃
  refine wpAny_bind (wpAny_seqItems hTO₄ rfl ?_)
  refine wpAny_bind (wpAny_updateSeq_pair hTO₄ fun h₅ hTO₅ hs₅ => ?_)
  replace hTO₅ : IsPair h₅ TO x y := hTO₅
  refine wpAny_bind (wpAny_letGo (wpAny_pure (wpAny_pure ?_)))

  refine wpAny_bind (wpAny_seqItems hTO₅ rfl ?_)
  refine wpAny_bind (wpAny_newTuple ?_)
  have hsz : h₅.objs.size = s.heap.objs.size := by rw [hs₅.1, hs₄.1, hs₃.1, hs₂.1, hs₁.1]
  have hz₅ : IsZipS h₅ z TI TO .ellipsis := hs₅.extBut _ _ D.TOz.symm (hs₄.extBut _ _ D.i2z.symm (hs₃.extBut _ _ D.TOz.symm (hs₂.extBut _ _ D.i1z.symm hz₁)))
  have hk₅ : ∀ c o, c ≠ z → c ≠ TO → c ≠ i1 → c ≠ i2 → s.heap.get? c = some o → h₅.get? c = some o := fun c o c1 c2 c3 c4 e =>
    hs₅.extBut _ _ c2 (hs₄.extBut _ _ c4 (hs₃.extBut _ _ c2 (hs₂.extBut _ _ c3 (hs₁.extBut _ _ c1 e))))
  have h1₅ : h₅.IsListIter i1 l1 (k1 + 1) := ((h1₂.extBut hs₃.extBut D.TOi1.symm).extBut hs₄.extBut D.i12).extBut hs₅.extBut D.TOi1.symm
  have h2₅ : h₅.IsListIter i2 l2 (k2 + 1) := h2₄.extBut hs₅.extBut D.TOi2.symm
  have hzlt : z < h₅.objs.size := Heap.lt_size hz₅
  have hTOlt : TO < h₅.objs.size := Heap.lt_size hTO₅
  have hi1lt : i1 < h₅.objs.size := by obtain ⟨_, e, _⟩ := h1₅; exact Heap.lt_size e
  have hi2lt : i2 < h₅.objs.size := by obtain ⟨_, e, _⟩ := h2₅; exact Heap.lt_size e
  show wpAny _ _ (Builtin.SmallTypes.ownedTupleHandOut (.ref z) (.ref h₅.objs.size) >>= _) _ _ _
  refine wpAny_bind ?_
  unfold Builtin.SmallTypes.ownedTupleHandOut
  have hz₆ : IsZipS (h₅.push { cls := .type "tuple", data := .seq #[x, y] }) z TI TO .ellipsis := Heap.get?_push_of_some _ hz₅
  refine wpAny_bind (wpAny_setField_rec hz₆ (by simp) fun h₇ hz₇ hs₇ => ?_)
  replace hz₇ : IsZipS h₇ z TI TO (rawInt h₅.objs.size) := hz₇
  refine wpAny_setField_rec hz₇ (by simp) fun h₈ hz₈ hs₈ => ?_
  replace hz₈ : IsZipS h₈ z TI TO (rawInt h₅.objs.size) := hz₈
  have up : ∀ c o, c ≠ z → h₅.get? c = some o → h₈.get? c = some o := fun c o c1 e => hs₈.extBut _ _ c1 (hs₇.extBut _ _ c1 (Heap.get?_push_of_some _ e))
  have hT₈ : IsPair h₈ h₅.objs.size x y := hs₈.extBut _ _ (Nat.ne_of_gt hzlt) (hs₇.extBut _ _ (Nat.ne_of_gt hzlt) (Heap.get?_push_size _ rfl))
  have hz8 : h₈.objs.size = h₅.objs.size + 1 := by rw [hs₈.1, hs₇.1, Heap.size_push]
  rw [hsz] at hz₈ hT₈ hz8
  refine wpAny_pure ⟨_, rfl, ?_⟩
  show Q (.ref h₅.objs.size) _
  rw [hsz]
  exact hQ h₈ hz₈ (up _ _ D.TOz hTO₅) (h1₅.at fun o e => up _ o D.i1z e) (h2₅.at fun o e => up _ o D.i2z e) hT₈ hz8 fun c o c1 c2 c3 c4 e => up c o c1 (hk₅ c o c1 c2 c3 c4 e)

theorem zipS_next_end {z TI TO i1 i2 l1 l2 : Addr} {k1 k2 : Nat} {xs ys : Array Value} {a b : Value} {Q : Fin → Shared → Prop} (hh : A.handled = none) (D : ZipApart z TI TO i1 i2 l1 l2)
    (hz : IsZipS s.heap z TI TO .none) (hTI : IsPair s.heap TI (.ref i1) (.ref i2)) (hTO : IsPair s.heap TO a b)
    (h1 : s.heap.IsListIter i1 l1 k1) (h2 : s.heap.IsListIter i2 l2 k2) (hl1 : s.heap.IsList l1 xs) (hl2 : s.heap.IsList l2 ys) (hx : xs[k1]? = none) (hy : ys[k2]? = none)
    (hE : ∀ h' e, (∀ c o, c ≠ z → c ≠ TO → c ≠ i1 → c ≠ i2 → s.heap.get? c = some o → h'.get? c = some o) → (∃ o, h'.get? e = some o ∧ o.cls = .type "StopIteration") → E (.ref e) { s with heap := h' }) :
    wpAny (model prog w) A (Builtin.«zip.__next__» ⟨[.ref z], []⟩) Q E s := by
  show wpAny _ _ (field (.ref z) 2 >>= _) _ _ _
  refine wpAny_bind (wpAny_field hz rfl (x := .bool true) rfl ?_)
  show wpAny _ _ (field (.ref z) 3 >>= _) _ _ _
  refine wpAny_bind (wpAny_field hz rfl (x := .ref TI) rfl ?_)
  refine wpAny_bind (wpAny_seqItems hTI rfl ?_)
  show wpAny _ _ (Builtin.SmallTypes.ownedTupleIsFree (.ref z) >>= _) _ _ _
  refine wpAny_bind ?_
  unfold Builtin.SmallTypes.ownedTupleIsFree
  refine wpAny_bind (wpAny_field hz rfl (x := .none) rfl (wpAny_pure ?_))
  simp only [if_true]
  refine wpAny_bind (wpAny_rule ?_)
  refine wpAny_bind (wpAny_field hz rfl (x := .ref TO) rfl ?_)
  refine wpAny_bind (wpAny_setField_rec hz (by simp) fun h₁ hz₁ hs₁ => ?_)
  replace hz₁ : IsZipS h₁ z TI TO .ellipsis := hz₁
  refine wpAny_bind ?_
  simp only [List.zipIdx_cons, List.zipIdx_nil, List.forIn_cons, List.forIn_nil]
  refine wpAny_bind (wpAny_bind (wpAny_onRaise ?_))
  show wpAny _ _ (Builtin.SmallTypes.nextOrEnd (.ref i1)) _ _ _
  refine (nextOrEnd_end hh (h1.extBut hs₁.extBut D.i1z) (hl1.extBut hs₁.extBut D.l1z) hx fun h₂ hs₂ => ?_)
  have hz₂ : IsZipS h₂ z TI TO .ellipsis := hs₂ _ _ D.i1z.symm hz₁
  refine wpAny_bind (wpAny_setField_rec hz₂ (by simp) fun h₃ hz₃ hs₃ => ?_)
  have k3 : ∀ c o, c ≠ z → c ≠ i1 → s.heap.get? c = some o → h₃.get? c = some o := fun c o c1 c2 e => hs₃.extBut _ _ c1 (hs₂ _ _ c2 (hs₁.extBut _ _ c1 e))
  refine wpAny_bind ?_
  show wpAny _ _ (forIn [(Value.ref i2, 1)] _ _ >>= _) _ _ _
  simp only [List.forIn_cons, List.forIn_nil]
  refine wpAny_bind (wpAny_bind ?_)
  show wpAny _ _ (Builtin.SmallTypes.nextOrEnd (.ref i2) >>= _) _ _ _
  have h2₃ : Heap.IsListIter h₃ i2 l2 k2 := h2.at fun o e => k3 _ o D.i2z D.i12.symm e
  have l2₃ : Heap.IsList h₃ l2 ys := hl2.at fun o e => k3 _ o D.l2z D.l2i1 e
  refine wpAny_bind (nextOrEnd_end hh h2₃ l2₃ hy fun h₄ hs₄ => ?_)
  refine wpAny_pure (wpAny_pure (wpAny_bind (wpAny_rule ?_)))
  refine stop_raise hh fun h₅ e k5 ho => ?_
  exact hE h₅ e (fun c o c1 c2 c3 c4 q => k5 c o (hs₄ _ _ c4 (k3 c o c1 c3 q))) ho
theorem pyNext_zipS_item {z TI TO i1 i2 l1 l2 : Addr} {k1 k2 : Nat} {xs ys : Array Value} {x y a b : Value} {Q : Option Value → Shared → Prop} (D : ZipApart z TI TO i1 i2 l1 l2)
    (hz : IsZipS s.heap z TI TO .none) (hTI : IsPair s.heap TI (.ref i1) (.ref i2)) (hTO : IsPair s.heap TO a b)
    (h1 : s.heap.IsListIter i1 l1 k1) (h2 : s.heap.IsListIter i2 l2 k2) (hl1 : s.heap.IsList l1 xs) (hl2 : s.heap.IsList l2 ys) (hx : xs[k1]? = some x) (hy : ys[k2]? = some y)
    (hQ : ∀ h', IsZipS h' z TI TO (rawInt s.heap.objs.size) → IsPair h' TO x y → h'.IsListIter i1 l1 (k1 + 1) → h'.IsListIter i2 l2 (k2 + 1) → IsPair h' s.heap.objs.size x y → h'.objs.size = s.heap.objs.size + 1 →
      (∀ c o, c ≠ z → c ≠ TO → c ≠ i1 → c ≠ i2 → s.heap.get? c = some o → h'.get? c = some o) → Q (some (.ref s.heap.objs.size)) { s with heap := h' }) :
    wpAny (model prog w) A (pyNext (.ref z)) Q E s := by
  have hT : s.TypeIs (.ref z) "zip" := ⟨_, hz, rfl⟩
  unfold pyNext
  exact wpAny_bind (wpAny_attempt (wpAny_callSpecial?_slot (name := Str.ofString "__next__") hT PySem.F.slot_zip_next
    (wpAny_call_entry PySem.F.slot_zip_next hT PySem.F.entry_zip_next
      (zipS_next_item D hz hTI hTO h1 h2 hl1 hl2 hx hy fun h' a1 a2 a3 a4 a5 a6 a7 => wpAny_pure (hQ h' a1 a2 a3 a4 a5 a6 a7)) (PySem.F.args_zip_next_1 _))))
theorem pyNext_zipS_end {z TI TO i1 i2 l1 l2 : Addr} {k1 k2 : Nat} {xs ys : Array Value} {a b : Value} {Q : Option Value → Shared → Prop} (hh : A.handled = none) (D : ZipApart z TI TO i1 i2 l1 l2)
    (hz : IsZipS s.heap z TI TO .none) (hTI : IsPair s.heap TI (.ref i1) (.ref i2)) (hTO : IsPair s.heap TO a b)
    (h1 : s.heap.IsListIter i1 l1 k1) (h2 : s.heap.IsListIter i2 l2 k2) (hl1 : s.heap.IsList l1 xs) (hl2 : s.heap.IsList l2 ys) (hx : xs[k1]? = none) (hy : ys[k2]? = none)
    (hQ : ∀ h', (∀ c o, c ≠ z → c ≠ TO → c ≠ i1 → c ≠ i2 → s.heap.get? c = some o → h'.get? c = some o) → Q none { s with heap := h' }) : wpAny (model prog w) A (pyNext (.ref z)) Q E s := by
  have hT : s.TypeIs (.ref z) "zip" := ⟨_, hz, rfl⟩
  unfold pyNext
  refine wpAny_bind (wpAny_attempt (wpAny_callSpecial?_slot (name := Str.ofString "__next__") hT PySem.F.slot_zip_next
    (wpAny_call_entry PySem.F.slot_zip_next hT PySem.F.entry_zip_next (zipS_next_end hh D hz hTI hTO h1 h2 hl1 hl2 hx hy fun h' e hk he => ?_) (PySem.F.args_zip_next_1 _))))
  obtain ⟨o, ho, hc⟩ := he
  refine wpAny_bind (wpAny_isInstance (T := "StopIteration") (b := true) ⟨o, ho, hc⟩ isSubtype_stop ?_)
  exact wpAny_pure (hQ _ hk)
theorem letGo_zipS {elts : List Expr} {x1} {pos : Pos} {z TI TO T : Addr} {Q : Unit → Shared → Prop} (hz : IsZipS s.heap z TI TO (rawInt T))
    (hQ : ∀ h', IsZipS h' z TI TO .none → Heap.SameBut z s.heap h' → Q () { s with heap := h' }) :
    wpAny (model prog w) A (letOwnedTupleGo (.Tuple elts x1 pos) (.ref z) (.ref T)) Q E s := by
  unfold letOwnedTupleGo
  refine wpAny_bind (wpAny_load hz ?_)
  show wpAny _ _ (if (["enumerate", "zip", "dict_itemiterator", "dict_reverseitemiterator", "odict_iterator", "itertools.zip_longest", "itertools.pairwise"].contains "zip" &&
      (#[rawInt T, .bool false, .bool true, .ref TI, .ref TO] : Array Value)[0]? == some (rawInt T)) = true then _ else _) Q E s
  rw [if_pos (by simp)]
  refine wpAny_bind (wpAny_rule ?_)
  show wpAny _ _ (setField (.ref z) 0 .none) Q E s
  exact wpAny_setField_rec hz (by simp) fun h' hz' hs' => hQ h' hz' hs'
theorem pyIter_zipS {z TI TO : Addr} {f0 : Value} {Q : Value → Shared → Prop} (hz : IsZipS s.heap z TI TO f0) (h : Q (.ref z) s) : wpAny (model prog w) A (pyIter (.ref z)) Q E s := by
  have hT : s.TypeIs (.ref z) "zip" := ⟨_, hz, rfl⟩
  refine wpAny_pyIter_slot hT PySem.F.slot_zip_iter (wpAny_call_entry PySem.F.slot_zip_iter hT PySem.F.entry_zip_iter ?_ (PySem.F.args_zip_iter_1 _))
  show wpAny _ _ (ret (.ref z)) _ _ s
  exact wpAny_pure ⟨_, rfl, "zip", _, hT, PySem.F.slot_zip_next.lookup, h⟩
theorem typeCall_zipS (a b : Value) : checkTypeCall "zip" ⟨[a, b], [(Str.ofString "strict", .bool true)]⟩ = pure () := by kernel_rfl
theorem newCall_zipS (a b : Value) : checkBuiltinCall "zip.__new__" ⟨[.type "zip", a, b], [(Str.ofString "strict", .bool true)]⟩ = pure () := by kernel_rfl
theorem args_object_init_zipS (obj a b : Value) : argsOk "object.__init__" ⟨[obj, a, b], [(Str.ofString "strict", .bool true)]⟩ := by unfold argsOk; kernel_rfl
abbrev zipS5 (h : Heap) (l1 l2 : Addr) : Heap := (zipH4 h l1 l2).push { cls := .type "zip", data := .fields #[.none, .bool false, .bool true, .ref (zipH2 h l1 l2).objs.size, .ref (zipH3 h l1 l2).objs.size] }
set_option maxHeartbeats 1000000 in
theorem meets_zipS_new (l1 l2 : Addr) (xs ys : Array Value) :
    Meets (Builtin.«zip.__new__» ⟨[.type "zip", .ref l1, .ref l2], [(Str.ofString "strict", .bool true)]⟩) (fun _ R s => s.heap.IsList l1 xs ∧ s.heap.IsList l2 ys ∧
      R (.ok (.ret (.ref (zipH4 s.heap l1 l2).objs.size))) { s with heap := zipS5 s.heap l1 l2 }) :=
  .of_wp fun prog w A R s h => by
    obtain ⟨hp, g, d, tk, os⟩ := s; obtain ⟨hl1, hl2, h⟩ := h
    have hsub := sub_zip
    have hL1 : Heap.IsList (Shared.heap ⟨hp, g, d, tk, os⟩) l1 xs := hl1
    have hL2 : Heap.IsList (Shared.heap ⟨hp.push { cls := .type "list_iterator", data := .fields #[.ref l1, .int 0 0] }, g, d, tk, os⟩) l2 ys := Heap.IsList.push hl2 _
    have e2 : (Str.ofString "strict" != ("strict" : Str)) = false := by decide +kernel
    wp_walk using wpAny_pyIter_list hL1, wpAny_pyIter_list hL2
    exact ⟨_, rfl, h⟩
theorem call_zipS {l1 l2 : Addr} {xs ys : Array Value} {Q : Value → Shared → Prop} (hl1 : s.heap.IsList l1 xs) (hl2 : s.heap.IsList l2 ys)
    (h : ∀ h', IsZipS h' (s.heap.objs.size + 4) (s.heap.objs.size + 2) (s.heap.objs.size + 3) .none → IsPair h' (s.heap.objs.size + 2) (.ref s.heap.objs.size) (.ref (s.heap.objs.size + 1)) →
      IsPair h' (s.heap.objs.size + 3) .none .none → h'.IsListIter s.heap.objs.size l1 0 → h'.IsListIter (s.heap.objs.size + 1) l2 0 → h'.objs.size = s.heap.objs.size + 5 →
      (∀ c o, s.heap.get? c = some o → h'.get? c = some o) → Q (.ref (s.heap.objs.size + 4)) { s with heap := h' }) :
    wpAny (model prog w) A (call (.type "zip") [.ref l1, .ref l2] [(Str.ofString "strict", .bool true)]) Q E s := by
  refine callType_newKw PySem.F.called_zip (by decide) (typeCall_zipS _ _) (newCall_zipS _ _) (fun obj => args_object_init_zipS obj _ _) PySem.F.entry_zip_new
    (meets_zipS_new l1 l2 xs ys) ⟨hl1, hl2, ?_⟩
  have z1 : (zipH1 s.heap l1).objs.size = s.heap.objs.size + 1 := Heap.size_push ..
  have z2 : (zipH2 s.heap l1 l2).objs.size = s.heap.objs.size + 2 := by rw [Heap.size_push, z1]
  have z3 : (zipH3 s.heap l1 l2).objs.size = s.heap.objs.size + 3 := by rw [Heap.size_push, z2]
  have z4 : (zipH4 s.heap l1 l2).objs.size = s.heap.objs.size + 4 := by rw [Heap.size_push, z3]
  have z5 : (zipS5 s.heap l1 l2).objs.size = s.heap.objs.size + 5 := by rw [Heap.size_push, z4]
  have g5 : (zipS5 s.heap l1 l2).get? (zipH4 s.heap l1 l2).objs.size = some _ := Heap.get?_push_size _ rfl
  have g4 : (zipS5 s.heap l1 l2).get? (zipH3 s.heap l1 l2).objs.size = some _ := Heap.get?_push_of_some _ (Heap.get?_push_size _ rfl)
  have g3 : (zipS5 s.heap l1 l2).get? (zipH2 s.heap l1 l2).objs.size = some _ := Heap.get?_push_of_some _ (Heap.get?_push_of_some _ (Heap.get?_push_size _ rfl))
  have g2 : (zipS5 s.heap l1 l2).get? (zipH1 s.heap l1).objs.size = some _ := Heap.get?_push_of_some _ (Heap.get?_push_of_some _ (Heap.get?_push_of_some _ (Heap.get?_push_size _ rfl)))
  have g1 : (zipS5 s.heap l1 l2).get? s.heap.objs.size = some _ := Heap.get?_push_of_some _ (Heap.get?_push_of_some _ (Heap.get?_push_of_some _ (Heap.get?_push_of_some _ (Heap.get?_push_size _ rfl))))
  show _ ∧ _
  rw [z2, z3, z4] at g5
  rw [z1, z2] at g3
  rw [z3] at g4
  rw [z1] at g2
  rw [z4]
  exact ⟨⟨_, g5, rfl⟩, h _ g5 g3 g4 ⟨_, g1, rfl, rfl⟩ ⟨_, g2, rfl, rfl⟩ z5 fun c o x =>
    Heap.get?_push_of_some _ (Heap.get?_push_of_some _ (Heap.get?_push_of_some _ (Heap.get?_push_of_some _ (Heap.get?_push_of_some _ x))))⟩
theorem callWith_typeKw {pos : Pos} {T : String} {first : List Value} {args : List (Bool × Sem Value)} {keywords : List (Option Str × Sem Value)} {Q : Value → Shared → Prop}
    (hplain : args.any (·.1) = false) (hkw : keywords.any (·.1.isNone) = false)
    (h : wpAny (model prog w) A (evalArgs (.type T) true args keywords) (fun a s₁ => wpAny (model prog w) A (call (.type T) (first ++ a.pos) a.kw) Q E s₁) E s) :
    wpAny (model prog w) A (callWith pos (.type T) first args keywords) Q E s := by
  unfold callWith
  refine wpAny_bind (wpAny_holding (wpAny_mono h (fun a s₁ h₁ => wpAny_bind (wpAny_standAt ?_)) fun _ _ x => x))
  simp only [hplain, hkw, Bool.or_false]
  refine wpAny_bind (wpAny_pure ?_)
  exact wpAny_bind (wpAny_mono h₁ (fun r s₂ hr => wpAny_bind (wpAny_holding (wpAny_point (wpAny_pure hr)))) fun _ _ x => x)
end
/-- the lists at a and b as they stand at each turn, the items in new pairs, ended together -/
def ItzS (K : PySem.W.Frag) (a b : Addr) : It :=
  ⟨fun i H => ∃ (xs ys : List V) (x y : V), SqL K H a xs ∧ SqL K H b ys ∧ xs[i]? = some x ∧ ys[i]? = some y,
    fun i H v H' => ∃ T x y, v = .ref T ∧ H T = none ∧ H' = upd H T (.tup [x, y]) ∧ (∀ xs, SqL K H a xs → xs[i]? = some x) ∧ ∀ ys, SqL K H b ys → ys[i]? = some y,
    fun i H => ∃ xs ys : List V, SqL K H a xs ∧ SqL K H b ys ∧ xs.length ≤ i ∧ ys.length ≤ i⟩
theorem turn_zipS {P : Program} {w : World} {K : PySem.W.Frag} {elts : List Expr} {kk : Nat} {tpos : Pos} {a b z TI TO i1 i2 : Addr} (D : ZipApart z TI TO i1 i2 a b) :
    Turn P w K (.Tuple elts kk tpos) (ItzS K a b) [z, TI, TO, i1, i2] z (fun i h => IsZipS h z TI TO .none ∧ IsPair h TI (.ref i1) (.ref i2) ∧ (∃ x y, IsPair h TO x y) ∧ h.IsListIter i1 a i ∧ h.IsListIter i2 b i) where
  mem := by simp
  obj := fun i h st c hc => by
    obtain ⟨hz, hTI, ⟨x, y, hTO⟩, ⟨o1, e1, _, d1⟩, ⟨o2, e2, _, d2⟩⟩ := st
    have e' : c = z ∨ c = TI ∨ c = TO ∨ c = i1 ∨ c = i2 := by simpa using hc
    rcases e' with q | q | q | q | q
    · rw [q]; exact ⟨_, hz, fun v q => nomatch q⟩
    · rw [q]; exact ⟨_, hTI, fun v q => nomatch q⟩
    · rw [q]; exact ⟨_, hTO, fun v q => nomatch q⟩
    · rw [q]; exact ⟨o1, e1, fun v q => by rw [d1] at q; cases q⟩
    · rw [q]; exact ⟨o2, e2, fun v q => by rw [d2] at q; cases q⟩
  keep := fun i h h' st k => by
    obtain ⟨hz, hTI, ⟨x, y, hTO⟩, h1, h2⟩ := st
    exact ⟨k z (by simp) _ hz, k TI (by simp) _ hTI, ⟨x, y, k TO (by simp) _ hTO⟩, h1.at fun o q => k i1 (by simp) o q, h2.at fun o q => k i2 (by simp) o q⟩
  item := by
    intro X hP hw hK hc i pins s σ H E I hf st hg
    subst hP hw hK
    obtain ⟨hz, hTI, ⟨x0, y0, hTO⟩, h1, h2⟩ := st
    obtain ⟨xs, ys, x, y, hqx, hqy, hx, hy⟩ := hg
    obtain ⟨its, rv, p, _⟩ := I.list hqx
    obtain ⟨its2, rv2, p2, _⟩ := I.list hqy
    obtain ⟨u, hu, ru⟩ := rv.get hx
    obtain ⟨u2, hu2, ru2⟩ := rv2.get hy
    have hzl : z < s.heap.objs.size := Heap.lt_size hz
    refine pyNext_zipS_item D hz hTI hTO h1 h2 p.isList p2.isList (x := u) (y := u2) (by simpa using hu) (by simpa using hu2) fun h' z' TO' h1' h2' hT hsz hk => ?_
    refine ⟨_, rfl, letGo_zipS (s := { s with heap := h' }) z' fun h'' z'' sb => ?_⟩
    have hT2 : h''.get? s.heap.objs.size = some { cls := .type "tuple", data := .seq #[u, u2] } := (sb.2 _ (Nat.ne_of_gt hzl)).trans hT
    have new : ObjOk X.prog X.w (upd H s.heap.objs.size (.tup [x, y])) h'' s.heap.objs.size (.tup [x, y]) :=
      ⟨by show 2 ≤ sizeLine; decide, [u, u2], .cons ru (.cons ru2 .nil), ⟨_, hT2, rfl, _, rfl⟩⟩
    have I1 : Inv X pins σ (upd H s.heap.objs.size (.tup [x, y])) { s with heap := h'' } :=
      I.turnedNew (t' := s.toks) (ch := [z, TI, TO, i1, i2]) (fun c o hb q => (sb.2 c (fun q' => hb (by simp [q']))).trans (hk c o (fun q' => hb (by simp [q'])) (fun q' => hb (by simp [q'])) (fun q' => hb (by simp [q'])) (fun q' => hb (by simp [q'])) q)) hf (Nat.le_refl _) new
    refine ⟨.ref s.heap.objs.size, _, I1, rfl, ⟨_, x, y, rfl, I.hok.fresh (Nat.le_refl _), rfl, fun l hl => by rw [I.list_inj hl hqx]; exact hx, fun l hl => by rw [I.list_inj hl hqy]; exact hy⟩, ⟨z'', ?_, ⟨u, u2, ?_⟩, ?_, ?_⟩, fun c hcm => ?_⟩
    · exact (sb.2 _ D.TIz).trans (hk _ _ D.TIz D.TITO D.TIi1 D.TIi2 hTI)
    · exact (sb.2 _ D.TOz).trans TO'
    · exact h1'.at fun o q => (sb.2 _ D.i1z).trans q
    · exact h2'.at fun o q => (sb.2 _ D.i2z).trans q
    · have hlt : c < s.heap.objs.size := by
        have e' : c = z ∨ c = TI ∨ c = TO ∨ c = i1 ∨ c = i2 := by simpa using hcm
        rcases e' with q | q | q | q | q
        · rw [q]; exact hzl
        · rw [q]; exact Heap.lt_size hTI
        · rw [q]; exact Heap.lt_size hTO
        · rw [q]; obtain ⟨_, e1, _⟩ := h1; exact Heap.lt_size e1
        · rw [q]; obtain ⟨_, e2, _⟩ := h2; exact Heap.lt_size e2
      rw [upd_ne (Nat.ne_of_lt hlt)]
      exact (hf c hcm).1
  done := by
    intro X hP hw hK hc i pins s σ H E I hf st hg
    subst hP hw hK
    obtain ⟨hz, hTI, ⟨x0, y0, hTO⟩, h1, h2⟩ := st
    obtain ⟨xs, ys, hqx, hqy, hend, hend2⟩ := hg
    obtain ⟨its, rv, p, _⟩ := I.list hqx
    obtain ⟨its2, rv2, p2, _⟩ := I.list hqy
    have l1 := rv.length
    have l2 := rv2.length
    exact pyNext_zipS_end (I.ok.hd hc) D hz hTI hTO h1 h2 p.isList p2.isList (by simp; omega) (by simp; omega) fun h' hk => ⟨rfl, I.turnedL (t' := s.toks) (ch := [z, TI, TO, i1, i2]) (fun c o hb q =>
      hk c o (fun q' => hb (by simp [q'])) (fun q' => hb (by simp [q'])) (fun q' => hb (by simp [q'])) (fun q' => hb (by simp [q'])) q) hf⟩
  self := fun A i s Q E st h => pyIter_zipS st.1 h
def iZipS0 (K : PySem.W.Frag) (ta : TA) : TI := fun σ H R => ta σ H fun vs H1 => ∃ a b xs ys, vs = [.ref a, .ref b] ∧ SqL K H1 a xs ∧ SqL K H1 b ys ∧ R (ItzS K a b) H1
theorem pi_zipS {X : Cx} {e e2 : Expr} {ta : TA} {p pos tpos kpos cpos : Pos} {j : Nat} {elts : List Expr} {kk : Nat} (hg : Gl X "zip") (hm : X.mg "zip" = none) (ha : PA X [e, e2] ta)
    (hs : starEach (e :: [e2]) X.env = (false, eval e X.env) :: starEach [e2] X.env := by rfl) (hpl : (backTo pos (starEach (e :: [e2]) X.env)).any (·.1) = false := by rfl)
    (hall : (backToKw pos (keywordEach [⟨some (Str.ofString "strict"), .Constant (.bool true) j cpos, kpos⟩] X.env)).all (·.1.isSome) = true := by rfl)
    (hnone : (backToKw pos (keywordEach [⟨some (Str.ofString "strict"), .Constant (.bool true) j cpos, kpos⟩] X.env)).any (·.1.isNone) = false := by rfl)
    (hks : (backToKw pos (keywordEach [⟨some (Str.ofString "strict"), .Constant (.bool true) j cpos, kpos⟩] X.env)).filterMap (·.1) = [Str.ofString "strict"] := by rfl) :
    PI X (.Tuple elts kk tpos) (.Call (.Name "zip" p) [e, e2] [⟨some (Str.ofString "strict"), .Constant (.bool true) j cpos, kpos⟩] pos) (iZipS0 X.K ta) := by
  refine ⟨fun pins s σ H R I h => ?_⟩
  refine wpAny_Call_Name_kw (ld_blt I hg hm PyProof.Rows.boot_zip ?_)
  refine callWith_typeKw hpl hnone (evalArgs_kw2 hall (thn (ha.run pos pins s σ H _ I h) fun us s1 ⟨vs, H1, I1, r1, q1⟩ => ?_) hs)
  have hk : PK X [⟨some (Str.ofString "strict"), .Constant (.bool true) j cpos, kpos⟩] (tCons (tC (.bl true)) tNil) := pk_cons pe_bl pk_nil
  refine thn (hk.run pos pins s1 σ H1 (fun zs H2 => zs = [.bl true] ∧ H2 = H1) I1 ⟨rfl, rfl⟩) fun ws s2 ⟨zs, H2, I2, r2, e1, e2⟩ => ?_
  subst e1 e2
  obtain ⟨w0, rfl, rw0⟩ := vals1 r2
  cases rw0
  rw [hks]
  obtain ⟨a, b, xs, ys, ex, hqx, hqy, q⟩ := q1
  subst ex
  cases r1 with
  | cons r rr =>
    cases rr with
    | cons r' rr =>
      cases rr
      cases r
      cases r'
      obtain ⟨its, rv, p1, _⟩ := I2.list hqx
      obtain ⟨its2, rv2, p2, _⟩ := I2.list hqy
      have la : a < s2.heap.objs.size := p1.lt
      have lb : b < s2.heap.objs.size := p2.lt
      refine call_zipS p1.isList p2.isList fun h' hz hTI hTO h1 h2 hsz hk => pyIter_zipS hz ?_
      have I3 : Inv X pins σ H2 { s2 with heap := h' } := I2.kept (t' := s2.toks) hk
      refine ⟨s2.heap.objs.size + 4, [s2.heap.objs.size + 4, s2.heap.objs.size + 2, s2.heap.objs.size + 3, s2.heap.objs.size, s2.heap.objs.size + 1], _, _, H2, rfl, I3, turn_zipS (PySem.W.ktu_apart s2.heap.objs.size a b la lb), ⟨hz, hTI, ⟨_, _, hTO⟩, h1, h2⟩, fun c hcm => ?_, q⟩
      have e' : c = s2.heap.objs.size + 4 ∨ c = s2.heap.objs.size + 2 ∨ c = s2.heap.objs.size + 3 ∨ c = s2.heap.objs.size ∨ c = s2.heap.objs.size + 1 := by simpa using hcm
      have hle : s2.heap.objs.size ≤ c := by
        rcases e' with z | z | z | z | z
        · rw [z]; exact Nat.le_add_right _ _
        · rw [z]; exact Nat.le_add_right _ _
        · rw [z]; exact Nat.le_add_right _ _
        · rw [z]; exact Nat.le_refl _
        · rw [z]; exact Nat.le_add_right _ _
      exact I2.fpOk hle (I2.hok.fresh hle)
/-! the reading -/
theorem itOk_zipS {K : PySem.W.Frag} {mg : Str → Option Value} {W : Hp} {a b : Addr} {vs us : List V} {l m : List D} (h1 : SqL K W a vs) (h2 : RepL K mg W l vs) (h3 : SqL K W b us) (h4 : RepL K mg W m us) (he : l.length = m.length) : ItOk K mg (ItzS K a b) W (zipD l m) where
  go := fun i H s hi => by
    rw [zipD_len] at hi
    have hv : i < vs.length := by rw [h2.length]; omega
    have hu : i < us.length := by rw [h4.length]; omega
    exact ⟨vs, us, vs[i], us[i], s.seq h1, s.seq h3, by simp [hv], by simp [hu]⟩
  stop := fun H s => ⟨vs, us, s.seq h1, s.seq h3, by rw [zipD_len, h2.length, he, Nat.min_self]; exact Nat.le_refl _, by rw [zipD_len, h4.length, he, Nat.min_self]; exact Nat.le_refl _⟩
  yld := fun B W1 H xs cs i x H' d s r e y => by
    obtain ⟨T, u, u', rfl, nT, rfl, f, f'⟩ := y
    obtain ⟨z, z', ez, ez', rfl⟩ := zipD_get e
    exact R.pair (ds := [z, z']) (xs := [u, u']) r ⟨u, [u'], rfl, Rep.mono s _ _ (h2.uniq ez (f vs (r.sw.seq (s.seq h1)))), u', [], rfl, Rep.mono s _ _ (h4.uniq ez' (f' us (r.sw.seq (s.seq h3)))), rfl⟩ nT
def iZipSM (ms : Env → Option (List D × Env)) : Env → Option (List D × Env) := fun ρ => match ms ρ with
  | some ([.lst l, .lst m], ρ1) => if l.length = m.length then some (zipD l m, ρ1) else none
  | _ => none
theorem i_zipS {X : Cx} {a b : Expr} {ms : Env → Option (List D × Env)} {p pos tpos kpos cpos : Pos} {j : Nat} {elts : List Expr} {kk : Nat} (hg : Gl X "zip") (hm : X.mg "zip" = none) (ha : PA X [a, b] (gA X 0 ms))
    (hs : starEach (a :: [b]) X.env = (false, eval a X.env) :: starEach [b] X.env := by rfl) (hpl : (backTo pos (starEach (a :: [b]) X.env)).any (·.1) = false := by rfl)
    (hall : (backToKw pos (keywordEach [⟨some (Str.ofString "strict"), .Constant (.bool true) j cpos, kpos⟩] X.env)).all (·.1.isSome) = true := by rfl)
    (hnone : (backToKw pos (keywordEach [⟨some (Str.ofString "strict"), .Constant (.bool true) j cpos, kpos⟩] X.env)).any (·.1.isNone) = false := by rfl)
    (hks : (backToKw pos (keywordEach [⟨some (Str.ofString "strict"), .Constant (.bool true) j cpos, kpos⟩] X.env)).filterMap (·.1) = [Str.ofString "strict"] := by rfl) :
    PI X (.Tuple elts kk tpos) (.Call (.Name "zip" p) [a, b] [⟨some (Str.ofString "strict"), .Constant (.bool true) j cpos, kpos⟩] pos) (gI X (iZipSM ms)) :=
  PIi (pi_zipS hg hm ha hs hpl hall hnone hks) fun σ H Rj ⟨B, W, ts, tc, ρ, ds, ρ', r, hl, em, q⟩ => by
    unfold iZipSM at em
    split at em
    · rename_i l m ρ1 ex
      split at em
      · rename_i he
        cases em
        refine ⟨B, W, ts, tc, ρ, _, ρ', r, hl, ex, fun W1 H1 vs g1 r1 => ?_⟩
        obtain ⟨u, v, rfl, ⟨a, xs, rfl, h1, h2⟩, ⟨b, ys, rfl, h3, h4⟩⟩ := repL2 (RL.rep0 r1)
        exact ⟨a, b, xs, ys, rfl, (RL.r r1).sw.seq h1.sq, (RL.r r1).sw.seq h3.sq, q W1 H1 _ g1 (RL.r r1) (itOk_zipS h1.sq h2 h3.sq h4 he)⟩
      · cases em
    · cases em
end Mn

namespace Mn
open PySem PySem.Spec PyProof.Rows L2
/-! ### calls with keywords alone -/
def permL {α : Type} (p : List Nat) (l : List α) : List α := p.filterMap (l[·]?)
structure FnKw (P : Program) (w : World) (K : PySem.W.Frag) (mg : Str → Option Value) (base : Heap) (k : Nat) (x : Str) (n : Nat) (ks : List Str) (p : List Nat) (sp : Sp1) : Prop where
  ex : ∃ (f : Addr) (fd : FuncData) (ps : List Str), mg x = some (.ref f) ∧ PySem.W.keepIn K (.ref f) = true ∧ (∀ ws : List Value, ws.length = ks.length → bindArgs fd ⟨[], ks.zip ws⟩ = pure (ps.zip (permL p ws))) ∧ ps.length = n ∧ FnG P w K mg base k f fd ps sp
theorem Vals.perm {vs : List V} {us : List Value} (h : Vals vs us) : ∀ p : List Nat, Vals (permL p vs) (permL p us)
  | [] => .nil
  | i :: p => by
    have hp := Vals.perm h p
    unfold permL at hp ⊢
    rw [List.filterMap_cons, List.filterMap_cons]
    cases q : vs[i]? with
    | none =>
      have : us[i]? = none := by
        rw [List.getElem?_eq_none_iff] at q ⊢
        rw [← h.length]; exact q
      rw [this]
      exact hp
    | some v =>
      obtain ⟨u, hu, r⟩ := h.get q
      rw [hu]
      exact .cons r hp
theorem RepL.perm {K : PySem.W.Frag} {mg : Str → Option Value} {W : Hp} {ds : List D} {vs : List V} (h : RepL K mg W ds vs) : ∀ p : List Nat, RepL K mg W (permL p ds) (permL p vs)
  | [] => rfl
  | i :: p => by
    have hp := RepL.perm h p
    unfold permL at hp ⊢
    rw [List.filterMap_cons, List.filterMap_cons]
    cases q : ds[i]? with
    | none =>
      have : vs[i]? = none := by
        rw [List.getElem?_eq_none_iff] at q ⊢
        rw [h.length]; exact q
      rw [this]
      exact hp
    | some d =>
      obtain ⟨v, hv, r⟩ := h.get q
      rw [hv]
      exact ⟨v, _, rfl, r, hp⟩
section
variable {X : Cx} {a b c e : Expr} {es : List Expr} {f g : Env → Option D} {m n : Env → Option (Cell × Env)} {ms : Env → Option (List D × Env)} {pos kpos : Pos} {σ : L2.St} {H : Hp} {ρ : Env} {k : Nat} {nm : Option Str} {kws : List Keyword}
theorem gk_nil : PK X [] (gA X k mNil) := ⟨fun pos pins s σ H Q I ⟨B, W, ts, tc, ρ, ds, ρ', r, hl, e, q⟩ => by
  cases e
  exact pk_nil.run pos pins s σ H Q I (q W H [] (Gr.refl B W) (RL.nil r))⟩
theorem gk_cons (ha : PE X a (gS X m)) (hr : PK X kws (gA X k ms)) : PK X (⟨nm, a, kpos⟩ :: kws) (gA X k (mCons k m ms)) :=
  ⟨fun pos pins s σ H Q I ⟨B, W, ts, tc, ρ, ds, ρ', r, hl, e, q⟩ => by
    refine (pk_cons ha hr).run pos pins s σ H Q I ?_
    unfold mCons at e
    split at e
    · rename_i c ρ1 em
      split at e
      · rename_i hf
        split at e
        · rename_i ds' ρ2 ems
          cases e
          refine ⟨B, W, ts, tc, ρ, c, ρ1, r, hl, em, fun W1 H1 v g1 r1 => ?_⟩
          obtain ⟨W2, g2, r2⟩ := R.fit (k := k) r1 hf
          refine ⟨B, W2, some v :: ts, some (k, c.2) :: tc, ρ1, ds', ρ', r2, by simp [hl], ems, fun W3 H3 vs g3 r3 => ?_⟩
          exact q W3 H3 (v :: vs) ((g1.trans g2).trans g3) (RL.cons r3)
        · cases e
      · cases e
    · cases e⟩
def tCallKw (sp : Sp1) (p : List Nat) (t : TA) : TE := fun σ H Q => t σ H fun zs H2 => sp (permL p zs) H2 Q
theorem pe_callKw {x : Str} {sp : Sp1} {p : List Nat} {ks : List Str} {np : Pos} {nn : Nat} {tk : TA} (F : FnKw X.prog X.w X.K X.mg X.base k x nn ks p sp) (hr : Room k X.A) (hgd : X.A.guards = some []) (hg : Gl X x)
    (hkw : PK X kws tk) (hlen : ∀ σ H Q, tk σ H Q → tk σ H fun zs H2 => zs.length = ks.length ∧ Q zs H2) (hall : (backToKw pos (keywordEach kws X.env)).all (·.1.isSome) = true := by rfl) (hks : (backToKw pos (keywordEach kws X.env)).filterMap (·.1) = ks := by rfl)
    (hdb : (x == ("__debug__" : Str)) = false := by decide)
    (hpl : ((backTo pos (starEach [] X.env)).any (·.1) || (backToKw pos (keywordEach kws X.env)).any (·.1.isNone)) = false := by rfl) :
    PE X (.Call (.Name x np) [] kws pos) (tCallKw sp p tk) := by
  obtain ⟨f, fd, ps, hm, hk, hb, _, F⟩ := F.ex
  refine ⟨fun pins s σ H Q I h => ?_⟩
  refine wpAny_Call_Name_kw (ld_glob I hg hm ?_ hdb)
  refine PySem.W.callWith_KW0 (h₀ := X.base) I.ok.mod.kin hk hall (thn (hkw.run pos pins s σ H _ I (hlen _ _ _ h)) fun ws s2 ⟨zs, H2, I2, rz, hl, q2⟩ => ⟨I2.kIn, ?_⟩) hpl
  rw [hks]
  have hlw : ws.length = ks.length := by rw [← rz.length]; exact hl
  have hsp := F.len _ _ _ q2
  refine wpAny_call (codeAny_mono (F.run X.A X.stack s2 H2 ⟨[] ++ [], ks.zip ws⟩ (permL p ws) (permL p zs) Q hr hgd I2.env0 (.of_eq (hb ws hlw)) (Vals.perm rz p) q2) fun r s' hq => ?_)
  cases r with
  | error e => exact False.elim hq
  | ok fl =>
    cases fl with
    | ret u => exact I2.after hq
    | next => exact False.elim hq
    | brk => exact False.elim hq
    | cont => exact False.elim hq
def mCallKw (n nk : Nat) (F : Fp0) (p : List Nat) (ms : Env → Option (List D × Env)) : Env → Option (Cell × Env) := fun ρ => match ms ρ with
  | some (ds, ρ1) => if (permL p ds).length = n then (match F (permL p ds) with
    | some c => some (c, ρ1)
    | none => none) else none
  | none => none
theorem g_callKw {x : Str} {F : Fp0} {p : List Nat} {ks : List Str} {np : Pos} {nn : Nat} (hF : FnKw X.prog X.w X.K X.mg X.base k x nn ks p (sp0 X.K X.mg nn F)) (hr : Room k X.A) (hgd : X.A.guards = some []) (hg : Gl X x)
    (hkw : PK X kws (gA X 0 ms)) (hlen : ∀ ρ ds ρ', ms ρ = some (ds, ρ') → ds.length = ks.length) (hall : (backToKw pos (keywordEach kws X.env)).all (·.1.isSome) = true := by rfl) (hks : (backToKw pos (keywordEach kws X.env)).filterMap (·.1) = ks := by rfl)
    (hdb : (x == ("__debug__" : Str)) = false := by decide)
    (hpl : ((backTo pos (starEach [] X.env)).any (·.1) || (backToKw pos (keywordEach kws X.env)).any (·.1.isNone)) = false := by rfl) :
    PE X (.Call (.Name x np) [] kws pos) (gS X (mCallKw nn ks.length F p ms)) :=
  PEi (pe_callKw hF hr hgd hg hkw (fun σ H Q ⟨B, W, ts, tc, ρ, ds, ρ', r, hl, e, q⟩ => ⟨B, W, ts, tc, ρ, ds, ρ', r, hl, e, fun W' H' vs g r' => ⟨by rw [(RL.rep0 r').length]; exact hlen _ _ _ e, q W' H' vs g r'⟩⟩) hall hks hdb hpl) fun σ H Q ⟨B, W, ts, tc, ρ, cl, ρ', r, hl, em, q⟩ => by
    unfold mCallKw at em
    split at em
    · rename_i ds ρ1 ex
      split at em
      · rename_i hn
        split at em
        · rename_i c ef
          cases em
          refine ⟨B, W, ts, tc, ρ, ds, ρ', r, hl, ex, fun W1 H1 vs g1 r1 => ?_⟩
          have r0 := RL.r r1
          refine ⟨H1, W1, permL p ds, _, ⟨r0.sw, Same.refl _, fun _ => 0, fun _ => rfl, fun b => ⟨Nat.zero_le _, fun hb => (hb rfl).elim⟩⟩, (RL.rep0 r1).perm p, hn, ef, fun W2 H2 v g2 r2 => ?_⟩
          obtain ⟨g3, r3⟩ := R.called r0 g2 r2
          exact q W2 H2 v (g1.trans g3) r3
        · cases em
      · cases em
    · cases em
/-! ### repr -/
def rReprD (K : PySem.W.Frag) : List V → Hp → VK → Prop := fun xs H Q => ∃ x d, xs = [x] ∧ Dp K H x d ∧ d.showable = true ∧ d.hasDict = false ∧ d.depth < 64 ∧ d.shown.length ≤ sizeLine ∧ Q (.str d.shown) H
theorem call_reprD (hg : X.A.guards = some []) (hu : X.A.units + 65 < cLine) : CallR X (.builtin "repr") (rReprD X.K) := by
  intro pins s σ H xs us Q I r h
  obtain ⟨x, d, rfl, hd, hs, hn, hdp, hz, q⟩ := h
  obtain ⟨u, rfl, ru⟩ := vals1 r
  have go : ∀ (t : Tok) (h' : Heap) (tk : Nat), (∀ b o, s.heap.get? b = some o → h'.get? b = some o) → EP X pins σ Q (.str d.shown t) { s with heap := h', toks := tk } := fun t h' tk k => ⟨.str d.shown, H, I.kept k, ⟨t, rfl⟩, q⟩
  obtain ⟨as, rr⟩ := Dp.reads I d x u hd ru
  cases rr with
  | none => exact PySem.P.repr_of_none (go _ s.heap _ fun _ _ e => e)
  | bool b => exact PySem.P.repr_of_bool (go _ s.heap _ fun _ _ e => e)
  | int i t => exact PySem.P.repr_of_int (of_decide_eq_true hs) (go _ s.heap _ fun _ _ e => e)
  | str y t => exact PySem.P.repr_of_str (go _ s.heap _ fun _ _ e => e) hz
  | list h1 h2 h3 h4 => exact repr_of_reads' (.list h1 h2 h3 h4) hs (PyData.noDict_hsm hn) hg (by omega) (fun _ _ e => e) (fun h' u tk k => go u h' tk k) hz
  | tuple h1 h2 h3 h4 => exact repr_of_reads' (.tuple h1 h2 h3 h4) hs (PyData.noDict_hsm hn) hg (by omega) (fun _ _ e => e) (fun h' u tk k => go u h' tk k) hz
  | dict h1 h2 h3 h4 h5 => simp [PyData.hasDict] at hn
def okRepr (p : PyData) : Bool := p.showable && !p.hasDict && decide (p.depth < 64) && decide (p.shown.length ≤ sizeLine)
def dRepr : List D → Option D
  | [x] => match toP x with
    | some p => if okRepr p then some (.str p.shown) else none
    | none => none
  | _ => none
theorem w_repr : OpN X dRepr (rReprD X.K) := fun H xs z us Q e hu q => by
  unfold dRepr at e
  split at e
  · split at e
    · rename_i p ep
      split at e
      · rename_i hs
        unfold okRepr at hs
        simp only [Bool.and_eq_true, Bool.not_eq_true', decide_eq_true_eq] at hs
        cases e
        obtain ⟨u, rfl, h1⟩ := repL1 hu
        exact ⟨u, p, rfl, Rep.dp _ _ _ h1 ep, hs.1.1.1, hs.1.1.2, hs.1.2, hs.2, q _ rfl⟩
      · cases e
    · cases e
  · cases e
/-! ### sorted -/
def toP0 (d : D) : PyData := (toP d).getD .none
def leD : D → D → Bool := PySem.W.dataLe false toP0
def isTupC : PyData → Bool
  | .tuple (_ :: _) => true
  | _ => false
def notTN : PyData → Bool
  | .tuple _ => false
  | .none => false
  | _ => true
def okSort (ps : List PyData) : Bool := (ps.all fun p => ps.all fun q => PySem.W.alike p q) && (ps.all isTupC || ps.all notTN) && (ps.all fun p => decide (p.depth < 60))
theorem okSort_of {ps : List PyData} (h : okSort ps = true) : PySem.W.AllAlike ps ∧ PySem.W.Sortable ps ∧ ∀ p ∈ ps, p.depth < 60 := by
  unfold okSort at h
  rw [Bool.and_eq_true, Bool.and_eq_true, Bool.or_eq_true] at h
  obtain ⟨⟨h1, h2⟩, h3⟩ := h
  refine ⟨fun d hd d' hd' => ?_, ?_, fun p hp => ?_⟩
  · exact List.all_eq_true.mp (List.all_eq_true.mp h1 d hd) d' hd'
  · rcases h2 with h2 | h2
    · refine .inl fun d hd => ?_
      have := List.all_eq_true.mp h2 d hd
      unfold isTupC at this
      split at this
      · exact ⟨_, _, rfl⟩
      · cases this
    · refine .inr fun d hd => ?_
      have := List.all_eq_true.mp h2 d hd
      unfold notTN at this
      split at this
      · cases this
      · cases this
      · rename_i q1 q2
        exact ⟨q2, q1⟩
  · exact of_decide_eq_true (List.all_eq_true.mp h3 p hp)
def dSorted : List D → Option Cell
  | [.lst l] => match toPL l with
    | some ps => if okSort ps then some (1, .lst (l.mergeSort leD)) else none
    | none => none
  | _ => none
def rSortedG (K : PySem.W.Frag) (mg : Str → Option Value) : List V → Hp → VK → Prop := fun xs H Q => ∃ (a : Addr) (vs : List V) (W : Hp) (l : List D) (ps : List PyData), xs = [.ref a] ∧ SqL K H a vs ∧ Same W H ∧ RepL K mg W l vs ∧ toPL l = some ps ∧ okSort ps = true ∧
  ∀ (ys : List V) (p : Addr), RepL K mg W (l.mergeSort leD) ys → H p = none → Q (.ref p) (upd H p (.lst ys))
theorem toPL_map : ∀ {l : List D} {ps : List PyData}, toPL l = some ps → ps = l.map toP0 ∧ ∀ d ∈ l, toP d = some (toP0 d)
  | [], _, h => by cases h; exact ⟨rfl, by simp⟩
  | d :: ds, ps, h => by
    simp only [toPL] at h
    split at h
    · rename_i p ep
      split at h
      · rename_i qs eq
        cases h
        obtain ⟨h1, h2⟩ := toPL_map eq
        have e : toP0 d = p := by unfold toP0; rw [ep]; rfl
        refine ⟨by rw [List.map_cons, e, h1], fun x hx => ?_⟩
        rcases List.mem_cons.mp hx with rfl | hx
        · rw [e]; exact ep
        · exact h2 x hx
      · cases h
    · cases h
theorem each_vals {W : Hp} {K : PySem.W.Frag} {mg : Str → Option Value} : ∀ {l : List D} {vs : List V} {us : List Value}, RepL K mg W l vs → Vals vs us → PySem.W.EachIs (fun u d => ∃ v, RelV v u ∧ Rep K mg W d v) us l
  | [], _, _, h, r => by cases (show _ = [] from h); cases r; exact .nil
  | d :: ds, _, _, h, r => by
    obtain ⟨v, vr, rfl, h1, h2⟩ := h
    cases r with
    | cons r1 r2 => exact .cons ⟨v, r1, h1⟩ (each_vals h2 r2)
theorem each_back {W : Hp} {K : PySem.W.Frag} {mg : Str → Option Value} : ∀ {l : List D} {us : List Value}, PySem.W.EachIs (fun u d => ∃ v, RelV v u ∧ Rep K mg W d v) us l → ∃ vs, RepL K mg W l vs ∧ Vals vs us
  | _, _, .nil => ⟨[], rfl, .nil⟩
  | _, _, .cons ⟨v, r1, h1⟩ t => by
    obtain ⟨vs, h2, r2⟩ := each_back t
    exact ⟨v :: vs, ⟨v, vs, rfl, h1, h2⟩, .cons r1 r2⟩
theorem call_sortedG (hu : X.A.units + 65 < cLine) : CallR X (.builtin "sorted") (rSortedG X.K X.mg) := by
  intro pins s σ H xs us Q I r h
  obtain ⟨a, vs, W, l, ps, rfl, hs, sw, hrep, hl, hok, q⟩ := h
  obtain ⟨u, rfl, ru⟩ := vals1 r
  cases ru
  obtain ⟨its, rv, pl, hz⟩ := I.list hs
  obtain ⟨e1, e2⟩ := toPL_map hl
  obtain ⟨o1, o2, o3⟩ := okSort_of hok
  have each := each_vals hrep rv
  have er : PySem.W.EachIs (fun v b => ∃ as, Reads s.heap v (toP0 b) as) its l := by
    have : ∀ {l : List D} {vs : List V} {us : List Value}, (∀ d ∈ l, toP d = some (toP0 d)) → RepL X.K X.mg W l vs → Vals vs us → PySem.W.EachIs (fun v b => ∃ as, Reads s.heap v (toP0 b) as) us l := by
      intro l
      induction l with
      | nil => intro vs us _ h r; cases (show _ = [] from h); cases r; exact .nil
      | cons d ds ih =>
        rintro _ us hd ⟨v, vr, rfl, h1, h2⟩ r
        cases r with
        | cons r1 r2 => exact .cons (Dp.reads I _ _ _ (Rep.dp d v _ (Rep.mono sw _ _ h1) (hd d List.mem_cons_self)) r1) (ih (fun x hx => hd x (List.mem_cons_of_mem _ hx)) h2 r2)
    exact this e2 hrep rv
  have hlen : l.length ≤ sizeLine := by rw [← hrep.length]; exact hz
  refine PySem.W.sorted_data (enc := toP0) (bs := l) (R := fun u d => ∃ v, RelV v u ∧ Rep X.K X.mg W d v) pl.isList each er (by rw [← e1]; exact o1) (by rw [← e1]; exact o2) hlen (fun b hb => ?_) fun out ho eo => ?_
  · have := o3 (toP0 b) (by rw [e1]; exact List.mem_map.mpr ⟨b, hb, rfl⟩)
    omega
  · obtain ⟨ys, h1, h2⟩ := each_back eo
    obtain ⟨ep, he'⟩ := PyProof.Rows.sortedAll_at s.heap its out.toArray
    have hly : ys.length ≤ sizeLine := by rw [h2.length, ho]; exact hlen
    exact ⟨.ref _, upd H (s.heap.objs.size + 1) (.lst ys), I.laid (t' := s.toks) (fun _ _ => PyProof.Rows.sortedAll_old) (Nat.le_succ _) ⟨hly, out, ep, h2, he'⟩, rfl, q ys _ h1 (I.hok.fresh (Nat.le_succ _))⟩
theorem w_sorted : OpF1 X dSorted (rSortedG X.K X.mg) := fun B W H vs cs xs c us Q e r hu q => by
  unfold dSorted at e
  split at e
  · split at e
    · rename_i ps ep
      split at e
      · rename_i hs
        cases e
        obtain ⟨u, rfl, a, ys, rfl, h1, h2⟩ := repL1 hu
        exact ⟨a, ys, W, _, ps, rfl, (Same.seqX r.sw h1).sq, r.sw, h2, ep, hs, fun zs p h3 np => q W _ _ (Gr.refl B W) (r.newL h3 np)⟩
      · cases e
    · cases e
  · cases e
/-! ### in of a list or a tuple -/
def rInG (K : PySem.W.Frag) : R2 := fun x y H Q => ∃ d ds, Dp K H x d ∧ (Dp K H y (.list ds) ∨ Dp K H y (.tuple ds)) ∧ SeqAt.shaped d = true ∧ SeqAt.shaped (.list ds) = true ∧ Q (.bl (ds.any fun z => PyData.eqv z d)) H
def rNotInG (K : PySem.W.Frag) : R2 := fun x y H Q => ∃ d ds, Dp K H x d ∧ (Dp K H y (.list ds) ∨ Dp K H y (.tuple ds)) ∧ SeqAt.shaped d = true ∧ SeqAt.shaped (.list ds) = true ∧ Q (.bl (!ds.any fun z => PyData.eqv z d)) H
theorem op_inG (hu : X.A.units + 65 < cLine) : OpR X (compareOp .In) (rInG X.K) := by
  intro pins s σ H x y v u Q I rx ry h
  obtain ⟨d, ds, hd, he, sd, se, q⟩ := h
  obtain ⟨as, r1⟩ := Dp.reads I d x v hd rx
  rcases he with he | he
  · obtain ⟨bs, r2⟩ := Dp.reads I (.list ds) y u he ry
    exact SeqAt.in_list_reads r2 r1 (SeqAt.canLay_of_shaped se) (SeqAt.canLay_of_shaped sd) (room_in_shaped sd hu) ⟨.bl _, H, I, rfl, q⟩
  · obtain ⟨bs, r2⟩ := Dp.reads I (.tuple ds) y u he ry
    exact SeqAt.in_tuple_reads r2 r1 (SeqAt.canLay_of_shaped se) (SeqAt.canLay_of_shaped sd) (room_in_shaped sd hu) ⟨.bl _, H, I, rfl, q⟩
theorem op_notInG (hu : X.A.units + 65 < cLine) : OpR X (compareOp .NotIn) (rNotInG X.K) := by
  intro pins s σ H x y v u Q I rx ry h
  obtain ⟨d, ds, hd, he, sd, se, q⟩ := h
  obtain ⟨as, r1⟩ := Dp.reads I d x v hd rx
  rcases he with he | he
  · obtain ⟨bs, r2⟩ := Dp.reads I (.list ds) y u he ry
    exact SeqAt.notIn_list_reads r2 r1 (SeqAt.canLay_of_shaped se) (SeqAt.canLay_of_shaped sd) (room_in_shaped sd hu) ⟨.bl _, H, I, rfl, q⟩
  · obtain ⟨bs, r2⟩ := Dp.reads I (.tuple ds) y u he ry
    exact SeqAt.notIn_tuple_reads r2 r1 (SeqAt.canLay_of_shaped se) (SeqAt.canLay_of_shaped sd) (room_in_shaped sd hu) ⟨.bl _, H, I, rfl, q⟩
def seqP : D → Option (List PyData)
  | .lst l => toPL l
  | .tup l => toPL l
  | _ => none
def dInG : D → D → Option D := fun x y => match toP x, seqP y with
  | some p, some q => if SeqAt.shaped p && SeqAt.shaped (.list q) then some (.bl (q.any fun z => PyData.eqv z p)) else none
  | _, _ => none
def dNotInG : D → D → Option D := fun x y => match toP x, seqP y with
  | some p, some q => if SeqAt.shaped p && SeqAt.shaped (.list q) then some (.bl (!q.any fun z => PyData.eqv z p)) else none
  | _, _ => none
theorem seqP_dp {K : PySem.W.Frag} {mg : Str → Option Value} {y : D} {v : V} {q : List PyData} (e : seqP y = some q) (h : Rep K mg H y v) : Dp K H v (.list q) ∨ Dp K H v (.tuple q) := by
  cases y <;> first | (cases e; done) | skip
  · exact .inl (Rep.dp _ _ _ h (by simp only [toP]; rw [show toPL _ = some q from e]))
  · exact .inr (Rep.dp _ _ _ h (by simp only [toP]; rw [show toPL _ = some q from e]))
theorem w_inG : Op2 X dInG (rInG X.K) := fun H x y z u v Q e hu hv q => by
  unfold dInG at e
  split at e
  · rename_i px py ex ey
    split at e
    · rename_i hs
      rw [Bool.and_eq_true] at hs
      cases e
      exact ⟨px, py, Rep.dp x u px hu ex, seqP_dp ey hv, hs.1, hs.2, q _ rfl⟩
    · cases e
  · cases e
theorem w_notInG : Op2 X dNotInG (rNotInG X.K) := fun H x y z u v Q e hu hv q => by
  unfold dNotInG at e
  split at e
  · rename_i px py ex ey
    split at e
    · rename_i hs
      rw [Bool.and_eq_true] at hs
      cases e
      exact ⟨px, py, Rep.dp x u px hu ex, seqP_dp ey hv, hs.1, hs.2, q _ rfl⟩
    · cases e
  · cases e
theorem op_isG : OpR X (compareOp .Is) (fun x y H Q => rIsB x y H Q ∨ (y = .non ∧ Q (.bl (decide (x = .non))) H)) := OpR.or op_isBl op_isN
theorem op_notG : OpR X (compareOp .IsNot) (fun x y H Q => rNotB x y H Q ∨ (y = .non ∧ Q (.bl (!decide (x = .non))) H)) := OpR.or op_notBl op_notN
theorem w_isG : Op2 X dIsG (fun x y H Q => rIsB x y H Q ∨ (y = .non ∧ Q (.bl (decide (x = .non))) H)) := fun H x y z u v Q e hu hv q => by
  unfold dIsG at e
  split at e
  · cases e
    exact .inl ⟨_, _, hu, hv, q _ rfl⟩
  · exact .inr (w_isN (X := X) H x y z u v Q e hu hv q)
theorem w_notG : Op2 X dNotG (fun x y H Q => rNotB x y H Q ∨ (y = .non ∧ Q (.bl (!decide (x = .non))) H)) := fun H x y z u v Q e hu hv q => by
  unfold dNotG at e
  split at e
  · cases e
    exact .inl ⟨_, _, hu, hv, q _ rfl⟩
  · exact .inr (w_notN (X := X) H x y z u v Q e hu hv q)
end
end Mn

namespace Mn
open PySem PySem.Spec PyProof.Rows L2
theorem law_callG {P : Program} {w : World} {K : PySem.W.Frag} {mg mb : Str → Option Value} {k : Nat} {fa a : Addr} {x : Str} {Fl : Fp0} {j : Nat} {s₁ : Shared} {vs : List Value} {ns : List Int}
    (KX : K.In s₁.heap) (hns : s₁.heap.Ns mainGlobals mg) (hb : s₁.heap.Ns builtinsNs mb) (hbb : ∀ x : Str, x ≠ "__name__" → mb x = bootBuiltins x) (hlim : s₁.heap.NoLimit) (hg : s₁.gens = #[])
    (ha : s₁.heap.get? a = some { cls := .type "list", data := .seq vs.toArray }) (hi : IntsAre vs ns) (hl : ns.length ≤ sizeLine) (hr : Room k callerA) (hgd : callerA.guards = some [])
    (hmg : mg x = some (.ref fa)) (F : ∀ base : Heap, K.In base → base.Ns mainGlobals mg → FnAt P w K mg base k x 1 (sp0 K mg 1 Fl))
    (hF : Fl [.lst (ns.map D.int)] = some (j, .bl true)) :
    codeAny (model P w) callerA (.call (.ref fa) ⟨[.ref a], []⟩) (fun r s' => r = .ok (.ret (.bool true)) ∧ OldK s₁.heap s'.heap ∧ s'.os = s₁.os ∧ AllBare s'.gens) s₁ := by
  have rv := vals_ints hi
  have lenV := hi.length
  have repI : ∀ (W : Hp) (ns : List Int), RepL K mg W (ns.map D.int) (ns.map V.int) := by
    intro W ns
    induction ns with
    | nil => exact rfl
    | cons n ns ih => exact ⟨.int n, _, rfl, rfl, ih⟩
  have hsp : ∀ H : Hp, SqX K H a (ns.map V.int) → sp0 K mg 1 Fl [.ref a] H (fun v _ => v = .bl true) := fun H hS =>
    ⟨H, H, [.lst (ns.map D.int)], _, ⟨Same.refl H, Same.refl H, fun _ => 0, fun _ => rfl, fun b => ⟨Nat.zero_le _, fun z => absurd rfl z⟩⟩, ⟨.ref a, [], rfl, ⟨a, _, rfl, hS, repI H ns⟩, rfl⟩, rfl, hF, fun W' H' v g r => by
      obtain ⟨v', ev, hv⟩ := r.rep (i := 0) (c := (j, .bl true)) rfl
      have e2 : some (some v) = some (some v') := ev
      cases e2
      exact hv⟩
  -- from an abstract heap in which nothing but the script may be tracked
  have core : ∀ H : Hp, Only H → SqX K H a (ns.map V.int) → HOk P w H s₁.heap → (∀ b, H b ≠ none → b = a) → (H a ≠ none → K.lookup a = none) →
      codeAny (model P w) callerA (.call (.ref fa) ⟨[.ref a], []⟩) (fun r s' => r = .ok (.ret (.bool true)) ∧ OldK s₁.heap s'.heap ∧ s'.os = s₁.os ∧ AllBare s'.gens) s₁ := by
    intro H hO hS hok hA hK
    have base_of : ∀ {b : Addr} {o : Obj}, s₁.heap.get? b = some o → H b = none → (hidT s₁.heap H).get? b = some o := fun e n => hidT_get e n
    have noA : ∀ {b : Addr} {o : Obj} {es : Array DictEntry} {ep : Nat}, s₁.heap.get? b = some o → o.data = .dict es ep → H b = none := fun {b o es ep} e d => by
      cases q : H b with
      | none => rfl
      | some u =>
        have e' : b = a := hA b (by rw [q]; simp)
        subst e'
        rw [ha] at e; cases e
        have d' : Data.seq vs.toArray _ = Data.dict es ep := d
        cases d'
    have nsK : ∀ {b : Addr} {m : Str → Option Value}, s₁.heap.Ns b m → (hidT s₁.heap H).Ns b m := fun {b m} ⟨o, es, ep, e, d, r⟩ => ⟨o, es, ep, base_of e (noA e d), d, r⟩
    have hKb : K.In (hidT s₁.heap H) := fun b o e => base_of (KX b o e) (by
      cases q : H b with
      | none => rfl
      | some u =>
        have e' : b = a := hA b (by rw [q]; simp)
        subst e'
        rw [hK (by rw [q]; simp)] at e; cases e)
    have hM : Mod K mg (hidT s₁.heap H) := ⟨hKb, nsK hns, ⟨mb, nsK hb, hbb⟩, let ⟨mc, h1, h2⟩ := hlim; ⟨mc, nsK h1, h2⟩⟩
    have e0 : Env0 P w K mg (hidT s₁.heap H) callerA [] s₁ H := ⟨rfl, hM, fun b o e => of_hidT e, Nat.le_of_eq (hidT_size _ _), trivial, fun b hb => absurd (show b ∈ ([] : List Addr) from hb) (by simp), hok, .of_eq hg⟩
    obtain ⟨f, fd, ps, hm, hk, hbd, hps, G⟩ := (F _ hKb (nsK hns)).ex
    rw [hmg] at hm
    cases hm
    have hbind := hbd s₁ [.ref a] KX (by rw [hps]; rfl)
    rw [List.append_nil] at hbind
    refine codeAny_mono (G.run callerA [] s₁ H ⟨[.ref a], []⟩ [.ref a] [.ref a] (fun v _ => v = .bl true) hr hgd e0 hbind (.cons rfl .nil) (hsp H hS)) fun r s' h => ?_
    cases r with
    | error e => exact False.elim h
    | ok fl =>
      cases fl with
      | next => exact False.elim h
      | brk => exact False.elim h
      | cont => exact False.elim h
      | ret u =>
        obtain ⟨v, H', os, bare, un, hok', r', q⟩ := h
        have q' : v = .bl true := q
        subst q'
        obtain rfl : u = Value.bool true := r'
        refine ⟨rfl, OldK.of_keep fun b o e => ?_, os, bare⟩
        cases q : H b with
        | none => exact un.keep b o e q (by intro z; exact absurd (show b ∈ ([] : List Addr) from z) (by simp)) (by simp)
        | some u =>
          rcases hO b with z | ⟨ob, xs, z⟩
          · rw [q] at z; cases z
          · have z2 := un.frzs b ob _ z
            obtain ⟨e1, _⟩ := hok b _ z
            obtain ⟨e2, _⟩ := hok' b _ z2
            rw [e] at e1; cases e1
            exact e2
  cases hk : K.lookup a with
  | some o =>
    have e := KX a o hk
    rw [ha] at e
    cases e
    refine core (fun _ => none) (fun _ => .inl rfl) (.inr ⟨vs.toArray, _, hk, by rw [List.size_toArray, lenV]; exact hl, by simpa using rv⟩) (fun b u z => by have z' : (none : Option HO) = some u := z; cases z') (fun b z => absurd rfl z) fun z => absurd rfl z
  | none =>
    refine core (fun b => if b = a then some (.frz { cls := .type "list", data := .seq vs.toArray } (.lst (ns.map V.int))) else none) (fun b => ?_) (.inl (.inr ⟨{ cls := .type "list", data := .seq vs.toArray }, if_pos rfl⟩)) (fun b u z => ?_) (fun b z => ?_) fun _ => hk
    · by_cases hb : b = a
      · exact .inr ⟨_, _, if_pos hb⟩
      · exact .inl (if_neg hb)
    · by_cases hb : b = a
      · have z' := (if_pos hb).symm.trans z
        cases z'
        subst hb
        exact ⟨ha, by rw [List.length_map]; exact hl, vs, _, rv, ha⟩
      · have z' := (if_neg hb).symm.trans z
        cases z'
    · by_cases hb : b = a
      · exact hb
      · exact absurd (if_neg hb) z
/-- the goal that k_head leaves, from the law's def -/
theorem walk_ofM {l : PySem.W.OpenLaw} {n k : Nat} {q : Program} {loose : List Str} {XP : (Str → Option Value) → Heap → Prop} {YP : World → Heap → Prop} {d : DefRec} {K : Params → PySem.W.Frag} {Fl : Fp0}
    (hn : l.most = some n) (hn2 : n ≤ sizeLine) (hdf : d.params.defaults = []) (hr : Room k callerA) (hgd : callerA.guards = some [])
    (hY : ∀ (w : World) (h : Heap), YP w h → (K w.params).In h)
    (F : ∀ (w : World) (mg : Str → Option Value) (base : Heap), (K w.params).In base → base.Ns mainGlobals mg → FnAt l.prog w (K w.params) mg base k d.name 1 (sp0 (K w.params) mg 1 Fl))
    (hlaw : ∀ ns : List Int, ns.length ≤ n → ∃ j, Fl [.lst (ns.map D.int)] = some (j, .bl true)) :
    PySem.W.WalkO q loose XP YP l.row.toRowW d [] (fun f vs => PySem.call f vs) := by
  refine Att.attach_call hn hdf fun w s₀ s₁ mg mb fa o pm cd doc a vs ns G Y ho hd hcd hmg hobj hints hlen hg => ?_
  have KX := hY w _ Y
  obtain ⟨j, hF⟩ := hlaw ns hlen
  exact law_callG KX G.T.g G.T.b G.T.builtins G.T.nolimit hg hobj hints (Nat.le_trans hlen hn2) hr hgd hmg (F w mg) hF
theorem guards_caller : callerA.guards = some [] := by rfl
theorem room_caller {k : Nat} (h : k ≤ 200) : Room k callerA := by
  have e1 : callerA.depth ≤ 301 := by decide
  have e2 : callerA.units ≤ 10 := by decide
  have e3 : recursionLimit = 1000 := rfl
  have e4 : cLine = 9900 := rfl
  exact ⟨rfl, by omega, by omega⟩
end Mn

namespace Mn
open PySem PySem.Spec PyProof.Rows L2
section
variable {X : Cx} {a b c e : Expr} {es : List Expr} {f g : Env → Option D} {m n : Env → Option (Cell × Env)} {ms : Env → Option (List D × Env)} {pos : Pos} {σ : L2.St} {H : Hp} {ρ : Env} {k : Nat} {pr : List Nat}
/-- the value, shared from now on -/
def mFz (m : Env → Option (Cell × Env)) : Env → Option (Cell × Env) := fun ρ => match m ρ with
  | some (c, ρ1) => some ((0, c.2), ρ1)
  | none => none
theorem fz_imp {Q : VK} (h : gS X (mFz m) σ H Q) : gS X m σ H Q := by
  obtain ⟨B, W, ts, tc, ρ, cl, ρ', r, hl, e, q⟩ := h
  unfold mFz at e
  split at e
  · rename_i c ρ1 em
    cases e
    refine ⟨B, W, ts, tc, ρ, c, _, r, hl, em, fun W1 H1 v g1 r1 => ?_⟩
    obtain ⟨W2, g2, r2, hu⟩ := R.pop r1
    exact q W2 H1 v (g1.trans g2) (r2.push0 hu)
  · cases e
theorem g_fz (h : PE X e (gS X m)) : PE X e (gS X (mFz m)) := PEi h fun σ H Q q => fz_imp q
/-! ### items of what is owned, read -/
def oS (X : Cx) (f : Env → Option Cell) : TE := fun σ H Q => ∃ (B W : Hp) (ts : List (Option V)) (tc : List (Option Cell)) (ρ : Env) (c : Cell), R X.K X.mg B W H (ts ++ σ) (tc ++ ρ) ∧ ts.length = tc.length ∧ f ρ = some c ∧ ∀ v F, Own X.K X.mg W H c.1 c.2 v F → Q v H
def oVar (i : Nat) : Env → Option Cell := fun ρ => match ρ[i]? with
  | some (some c) => some c
  | _ => none
theorem R.own {K : PySem.W.Frag} {mg : Str → Option Value} {B W H : Hp} {vs : List (Option V)} {cs : List (Option Cell)} {c : Cell} (r : R K mg B W H vs cs) {i : Nat} (e : cs[i]? = some (some c)) : ∃ v F, vs[i]? = some (some v) ∧ Own K mg W H c.1 c.2 v F := by
  obtain ⟨T, h, hT⟩ := r.ex
  obtain ⟨v, F, G, ev, ⟨u, eu, ho⟩, h3, put⟩ := h.focus e
  exact ⟨u, F, by rw [ev, eu], ho⟩
theorem o_var {i : Nat} (h : PE X e (tVar i)) : PE X e (oS X (oVar i)) := PEi h fun σ H Q ⟨B, W, ts, tc, ρ, c, r, hl, em, q⟩ => by
  unfold oVar at em
  split at em
  · rename_i c' ec
    cases em
    obtain ⟨v, F, ev, ho⟩ := r.own (i := tc.length + i) (c := c) (by rw [get_app]; exact ec)
    rw [← hl, get_app] at ev
    exact ⟨v, ev, q v F ho⟩
  · cases em
def itC : Cell → Int → Option Cell
  | (k, .lst l), i => match atI l i with | some d => some (k - 1, d) | none => none
  | (k, .tup l), i => match atI l i with | some d => some (k - 1, d) | none => none
  | _, _ => none
def oIx (f : Env → Option Cell) (g : Env → Option D) : Env → Option Cell := fun ρ => match f ρ, g ρ with
  | some c, some (.int i) => itC c i
  | _, _ => none
theorem OwnL.get {K : PySem.W.Frag} {mg : Str → Option Value} {W H : Hp} {k : Nat} {l : List D} {vs : List V} {G : Fp} {i : Int} {d : D} (h : OwnL (Own K mg W H k) l vs G) (e : atI l i = some d) : ∃ v F, atI vs i = some v ∧ Own K mg W H k d v F := by
  unfold L2.atI at e ⊢
  rw [h.length]
  cases q : ixN l.length i with
  | none => rw [q] at e; cases e
  | some j =>
    rw [q] at e
    obtain ⟨v, F, G0, ev, ho, _⟩ := h.focus e
    exact ⟨v, F, ev, ho⟩
theorem o_ix (ha : PE X a (oS X (fc))) (hb : PE X b (pS X g)) (hs : PlainIx b) : PE X (.Subscript a b pos) (oS X (oIx fc g)) :=
  PEi (pe_ix ix_seq ha hb hs) fun σ H Q ⟨B, W, ts, tc, ρ, cl, r, hl, em, q⟩ => by
    unfold oIx at em
    split at em
    · rename_i c i ef eg
      refine ⟨B, W, ts, tc, ρ, c, r, hl, ef, fun v F ho => ⟨ρ, _, ⟨B, W, ts, tc, r, hl⟩, eg, fun u hu => ?_⟩⟩
      obtain ⟨k, d⟩ := c
      cases d <;> first | (cases em; done) | skip
      · rename_i l
        simp only [itC] at em
        split at em
        · rename_i d ed
          cases em
          cases k with
          | zero =>
            obtain ⟨⟨p, vs, rfl, h1, h2⟩, _⟩ := ho
            obtain ⟨w, ew, hw⟩ := h2.atI ed
            exact .inl ⟨p, vs, i, w, rfl, hu, r.sw.seq h1.sq, ew, q w _ ⟨hw, fun _ => rfl⟩⟩
          | succ k =>
            obtain ⟨p, vs, G, rfl, h1, h2, _⟩ := ho
            obtain ⟨w, F', ew, hw⟩ := h2.get ed
            exact .inl ⟨p, vs, i, w, rfl, hu, SqL.of h1, ew, q w _ hw⟩
        · cases em
      · rename_i l
        simp only [itC] at em
        split at em
        · rename_i d ed
          cases em
          cases k with
          | zero =>
            obtain ⟨⟨p, vs, rfl, h1, h2⟩, _⟩ := ho
            obtain ⟨w, ew, hw⟩ := h2.atI ed
            exact .inr (.inl ⟨p, vs, i, w, rfl, hu, Same.seqT r.sw h1, ew, q w _ ⟨hw, fun _ => rfl⟩⟩)
          | succ k =>
            obtain ⟨p, vs, G, rfl, h1, h2, _⟩ := ho
            obtain ⟨w, F', ew, hw⟩ := h2.get ed
            exact .inr (.inl ⟨p, vs, i, w, rfl, hu, SqT.of h1, ew, q w _ hw⟩)
        · cases em
    · cases em
/-- .. as a value: what is shared, or a scalar -/
def mO (f : Env → Option Cell) : Env → Option (Cell × Env) := fun ρ => match f ρ with
  | some (k, d) => if k == 0 || d.sc then some ((0, d), ρ) else none
  | none => none
theorem g_o {fc : Env → Option Cell} (h : PE X e (oS X fc)) : PE X e (gS X (mO fc)) := PEi h fun σ H Q ⟨B, W, ts, tc, ρ, cl, ρ', r, hl, em, q⟩ => by
  unfold mO at em
  split at em
  · rename_i k d ed
    split at em
    · rename_i hk
      cases em
      refine ⟨B, W, ts, tc, ρ, _, r, hl, ed, fun v F ho => ?_⟩
      rw [Bool.or_eq_true] at hk
      rcases hk with hk | hk
      · have : k = 0 := by simpa using hk
        subst this
        exact q W H v (Gr.refl B W) (r.push0 ho.1)
      · exact q W H v (Gr.refl B W) (r.push0 (Own.scal (k' := 0) hk ho).1)
    · cases em
  · cases em
/-- a constant of the module, of any kind -/
def oK (d : D) : Env → Option Cell := fun _ => some (0, d)
theorem o_glv {x : Str} {u : Value} {v : V} {d : D} (hg : Gl X x) (hm : X.mg x = some u) (r : RelV v u) (hd : ∀ W, Rep X.K X.mg W d v) (hdb : (x == ("__debug__" : Str)) = false := by decide) : PE X (.Name x pos) (oS X (oK d)) :=
  PEi (pe_glob hg hm r hdb) fun σ H Q ⟨B, W, ts, tc, ρ, c, r, hl, e, q⟩ => by cases e; exact q v (fun _ => 0) ⟨hd W, fun _ => rfl⟩
/-- what is owned put together: both lists are given up -/
def mCatO (k : Nat) (m n : Env → Option (Cell × Env)) : Env → Option (Cell × Env) := fun ρ => match m ρ with
  | some ((k1, .lst l), ρ1) => (match n ρ1 with
    | some ((k2, .lst l'), ρ2) => if k + 1 ≤ k1 ∧ k + 1 ≤ k2 ∧ l.length + l'.length ≤ sizeLine then some ((k + 1, .lst (l ++ l')), ρ2) else none
    | _ => none)
  | _ => none
theorem OwnL.append {P : D → V → Fp → Prop} : ∀ {l l' : List D} {vs us : List V} {G G' : Fp}, OwnL P l vs G → OwnL P l' us G' → OwnL P (l ++ l') (vs ++ us) (fun b => G b + G' b)
  | [], _, _, _, G, G', h, h' => by
    obtain ⟨rfl, h0⟩ := h
    have : (fun b => G b + G' b) = G' := by funext b; rw [h0 b, Nat.zero_add]
    rw [this]; exact h'
  | _ :: _, _, _, _, G, G', h, h' => by
    obtain ⟨v, r, F, G1, rfl, h1, h2, h3⟩ := h
    exact ⟨v, r ++ _, F, _, rfl, h1, OwnL.append h2 h', fun b => by show G b + G' b = F b + (G1 b + G' b); rw [h3 b]; omega⟩
theorem g_catO (ha : PE X a (gS X m)) (hb : PE X b (gS X n)) : PE X (.BinOp a .Add b pos) (gS X (mCatO k m n)) :=
  PEi (pe_op op_cat ha hb) fun σ H Q ⟨B, W, ts, tc, ρ, cl, ρ', r, hl, em, q⟩ => by
    unfold mCatO at em
    split at em
    · rename_i k1 l ρ1 e1
      split at em
      · rename_i k2 l' ρ2 e2
        split at em
        · rename_i hz
          cases em
          obtain ⟨z1, z2, z3⟩ := hz
          refine ⟨B, W, ts, tc, ρ, _, ρ1, r, hl, e1, fun W1 H1 u g1 r1 => ?_⟩
          obtain ⟨W2, g2, r2⟩ := R.fit (k := k + 1) r1 (by unfold Mn.fit; simp [z1])
          refine ⟨B, W2, some u :: ts, some (k + 1, .lst l) :: tc, ρ1, _, _, r2, by simp [hl], e2, fun W3 H3 v g3 r3 => ?_⟩
          obtain ⟨W4, g4, r4⟩ := R.fit (k := k + 1) r3 (by unfold Mn.fit; simp [z2])
          obtain ⟨T, ⟨F, G, ⟨v', ev, ⟨p, xs, G1, rfl, h1, h2, h3⟩⟩, ⟨F2, G2, ⟨u', eu, ⟨p', ys, G3, rfl, h4, h5, h6⟩⟩, h7, h8⟩, h9⟩, hT⟩ := r4.ex
          cases ev; cases eu
          refine ⟨p', p, ys, xs, rfl, rfl, h4, h1, by rw [h5.length, h2.length]; exact z3, fun pn np => q W4 _ _ (((g1.trans g2).trans g3).trans g4) ?_⟩
          exact RL.lst ⟨r4.sw, r4.sb, G2, fun b => G3 b + G1 b, h7, OwnL.append h5 h2, fun b => ⟨by have := (hT b).1; have := h9 b; have := h8 b; have := h6 b; have := h3 b; show G2 b + (G3 b + G1 b) ≤ 1; omega, fun hb => (hT b).2 (by have := h9 b; have := h8 b; have := h6 b; have := h3 b; have : G2 b + (G3 b + G1 b) ≠ 0 := hb; omega)⟩⟩ np
        · cases em
      · cases em
    · cases em
/-- f(e, ..) that changes e's object, e just made: it is given up behind the call -/
def mCallT (n : Nat) (F : Fp1) (m : Env → Option (Cell × Env)) (ms : Env → Option (List D × Env)) : Env → Option (Cell × Env) := fun ρ => match m ρ with
  | some (c0, ρ0) => (match ms ρ0 with
    | some (ds, ρ1) => if ds.length + 1 = n then (match F c0 ds with
        | some (c, _) => some (c, ρ1)
        | none => none) else none
    | none => none)
  | none => none
theorem g_callT {F : Fp1} {x : Str} {nn : Nat} {p : Pos} {es : List Expr} (hF : FnAt X.prog X.w X.K X.mg X.base k x nn (sp1 X.K X.mg nn F)) (hr : Room k X.A) (hgd : X.A.guards = some []) (hg : Gl X x)
    (h0 : PE X e (gS X m)) (ha : PA X es (gA X 0 ms)) (hdb : (x == ("__debug__" : Str)) = false := by decide) (he : starEach (e :: es) X.env = (false, eval e X.env) :: starEach es X.env := by rfl) (hpl : (backTo pos (starEach es X.env)).any (·.1) = false := by rfl) :
    PE X (.Call (.Name x p) (e :: es) [] pos) (gS X (mCallT nn F m ms)) := PEi (pe_callG hF hr hgd hg (pa_cons h0 ha he) hdb he hpl) fun σ H Q ⟨B, W, ts, tc, ρ, cl, ρ', r, hl, em, q⟩ => by
  unfold mCallT at em
  split at em
  · rename_i c0 ρ0 e0
    split at em
    · rename_i ds ρ1 ex
      split at em
      · rename_i hn
        split at em
        · rename_i c c1 ef
          cases em
          refine ⟨B, W, ts, tc, ρ, c0, ρ0, r, hl, e0, fun W0 H0 v0 g0 r0 => ⟨B, W0, some v0 :: ts, some c0 :: tc, ρ0, ds, _, r0, by simp [hl], ex, fun W1 H1 vs g1 r1 => ?_⟩⟩
          have r2 := RL.r r1
          obtain ⟨v0', B1, ev, rc, back⟩ := R.calledI r2 (i := 0) (c := c0) rfl
          have ev2 : some (some v0) = some (some v0') := ev
          cases ev2
          refine ⟨B1, W1, v0, vs, c0, ds, _, c1, rfl, rc, RL.rep0 r1, hn, ef, fun W2 H2 v g2 r3 => ?_⟩
          obtain ⟨g3, r4⟩ := back W2 H2 v _ c1 g2 r3
          have r5 : R X.K X.mg B W2 H2 (some v :: (some v0 :: (ts ++ σ))) (some cl :: (some c1 :: (tc ++ ρ'))) := r4
          obtain ⟨T, ⟨F1, G1, p1, ⟨F2, G2, p2, p3, p4⟩, p5⟩, hT⟩ := r5.ex
          exact q W2 H2 v ((g0.trans g1).trans g3) ⟨r5.sw, r5.sb, _, ⟨F1, G2, p1, p3, fun b => rfl⟩, fun b => ⟨by have := (hT b).1; have := p5 b; have := p4 b; show F1 b + G2 b ≤ 1; omega, fun hb => (hT b).2 (by have := p5 b; have := p4 b; have : F1 b + G2 b ≠ 0 := hb; omega)⟩⟩
        · cases em
      · cases em
    · cases em
  · cases em
end
section
variable {X : Cx} {pr js : List Nat} {tgt iter e a b : Expr} {sts : List Stmt} {it : Env → Option (List D × Env)} {tg : D → Env → Option Env} {pos : Pos}
/-- y = [..] on one line, shared -/
theorem s_setComp0 {kc i : Nat} {y : Str} {py spos : Pos} {elt tgt iter : Expr} {scope : Scope} {own : List (Str × Nat)} {x : Env → Option (Cell × Env)} (hc : X.calm = true) (hN : X.N.Nodup) (hy : X.N[i]? = some y) (hyl : X.env.scope.names.lookup y = some .local) (hp : i ∉ pr)
    (hsw : swapsWith (.ListComp elt [⟨tgt, iter, [], 0⟩] scope pos) (some (.Name y py)) spos.line X.env = pure true) (hi : PI X tgt iter (gI X it)) (ok : BlkOk X.N X.env.scope scope own)
    (hg : ∀ (s : Shared) (H : Hp) (C : Addr) (cl : List (Str × Addr)) (fp : List Addr), PG (X.blk s H scope (compEnvC scope cl C X.env) fp) tgt (tgS X js tg))
    (he : ∀ (s : Shared) (H : Hp) (C : Addr) (cl : List (Str × Addr)) (fp : List Addr), PE (X.blk s H scope (compEnvC scope cl C X.env) fp) elt (gS X x)) (hjs : ∀ j ∈ js, j ∈ own.map (·.2)) (hs : ∀ x, foldedSetIterable iter X.env x = pure x := by intro _; rfl) :
    PS X (.Assign [.Name y py] (.ListComp elt [⟨tgt, iter, [], 0⟩] scope pos) spos) (sS X pr (sAsg i (mFz (mComp kc it tg tYesM x (own.map (·.2)))))) :=
  PSi (ps_setLc hc hN hy hyl hsw hi ok hg (fun _ _ _ _ _ => pts_nil) he hs) fun Dn σ H h => comp_imp (fun _ _ _ h => h) (fun _ _ _ _ h => h) (fun _ _ _ h => yes_imp h) (fun _ _ _ h => h) hjs (fz_imp (asg_imp hp h))
theorem s_setCompIf0 {kc i : Nat} {y : Str} {py spos : Pos} {elt tgt iter cond : Expr} {scope : Scope} {own : List (Str × Nat)} {x : Env → Option (Cell × Env)} {t : Env → Option (Bool × Env)} (hc : X.calm = true) (hN : X.N.Nodup) (hy : X.N[i]? = some y) (hyl : X.env.scope.names.lookup y = some .local) (hp : i ∉ pr)
    (hsw : swapsWith (.ListComp elt [⟨tgt, iter, [cond], 0⟩] scope pos) (some (.Name y py)) spos.line X.env = pure true) (hi : PI X tgt iter (gI X it)) (ok : BlkOk X.N X.env.scope scope own)
    (hg : ∀ (s : Shared) (H : Hp) (C : Addr) (cl : List (Str × Addr)) (fp : List Addr), PG (X.blk s H scope (compEnvC scope cl C X.env) fp) tgt (tgS X js tg))
    (ht : ∀ (s : Shared) (H : Hp) (C : Addr) (cl : List (Str × Addr)) (fp : List Addr), PT (X.blk s H scope (compEnvC scope cl C X.env) fp) cond (gT X t))
    (he : ∀ (s : Shared) (H : Hp) (C : Addr) (cl : List (Str × Addr)) (fp : List Addr), PE (X.blk s H scope (compEnvC scope cl C X.env) fp) elt (gS X x)) (hjs : ∀ j ∈ js, j ∈ own.map (·.2)) (hs : ∀ x, foldedSetIterable iter X.env x = pure x := by intro _; rfl) :
    PS X (.Assign [.Name y py] (.ListComp elt [⟨tgt, iter, [cond], 0⟩] scope pos) spos) (sS X pr (sAsg i (mFz (mComp kc it tg t x (own.map (·.2)))))) :=
  PSi (ps_setLc hc hN hy hyl hsw hi ok hg (fun s H C cl fp => pts_one (ht s H C cl fp)) he hs) fun Dn σ H h => comp_imp (fun _ _ _ h => h) (fun _ _ _ _ h => h) (fun _ _ _ h => h) (fun _ _ _ h => h) hjs (fz_imp (asg_imp hp h))
end
/-! ### defs over the frames that stand -/
section
variable {P : Program} {w : World} {K : PySem.W.Frag} {mg : Str → Option Value} {base : Heap}
theorem fnG_fun {x qual : Str} {st : Stmt} {f : Addr} {fd : FuncData} {N ps : List Str} {k : Nat} {sp : Sp1} (F : Fun K x qual st f fd) (S : FnScope N ps (defScope st)) (len : ∀ vs H Q, sp vs H Q → vs.length = ps.length)
    (hbody : ∀ (cdv : Value) (A : Around) (outer : List PySem.Env) (s : Shared) (H : Hp) (vs : List V) (Q : VK), Room k (A.deeper (envOfC qual (defScope st) s.heap.objs.size f cdv)) → (A.deeper (envOfC qual (defScope st) s.heap.objs.size f cdv)).guards = some [] → sp vs H Q →
      ∃ t, PSs (cxOf CX0 P w K mg base N qual (defScope st) f cdv A outer s H E0).nox (defBody st) t ∧ t { nx := fun _ H' => Q .non H', rt := Q } (L2.start N vs) H) : FnG P w K mg base (k + 1) f fd ps sp := by
  obtain ⟨oc, od, kV, doc, pm, an, cdv, ct, osl, rfl, lk, hcd⟩ := F.ex
  exact fnG_of lk hcd S len fun A outer s H vs Q hr hg hsp => hbody cdv A outer s H vs Q hr hg hsp
/-- what is asked of a def's body -/
def Body (P : Program) (w : World) (K : PySem.W.Frag) (mg : Str → Option Value) (base : Heap) (N : List Str) (qual : Str) (st : Stmt) (f : Addr) (k : Nat) (pr : List Nat) (m : Env → Option Out) : Prop :=
  ∀ (cdv : Value) (A : Around) (outer : List PySem.Env) (s : Shared) (H : Hp), Room k (A.deeper (envOfC qual (defScope st) s.heap.objs.size f cdv)) → (A.deeper (envOfC qual (defScope st) s.heap.objs.size f cdv)).guards = some [] →
      PSs (cxOf CX0 P w K mg base N qual (defScope st) f cdv A outer s H E0).nox (defBody st) (sS (cxOf CX0 P w K mg base N qual (defScope st) f cdv A outer s H E0).nox pr m)
theorem fnG_of0 {x qual : Str} {st : Stmt} {f : Addr} {fd : FuncData} {N ps : List Str} {k n : Nat} {m : Env → Option Out} (F : Fun K x qual st f fd) (S : FnScope N ps (defScope st)) (hn : ps.length = n)
    (hbody : Body P w K mg base N qual st f k [] m) : FnG P w K mg base (k + 1) f fd ps (sp0 K mg n (run0 N.length m)) :=
  fnG_fun F S (fun vs H Q ⟨B, W, ds, c, r, h, hl, _⟩ => by rw [h.length, hl, hn]) fun cdv A outer s H vs Q hr hg ⟨B, W, ds, c, r, h, hl, ef, q⟩ => by
    refine ⟨_, hbody cdv A outer s H hr hg, ?_⟩
    unfold run0 at ef
    split at ef
    · rename_i c' ρ' em
      cases ef
      exact ⟨B, W, _, _, env0_r r h, em, fun W' H' σ' v g r' _ => q W' H' v g (R.one r')⟩
    · rename_i ρ' em
      cases ef
      exact ⟨B, W, _, _, env0_r r h, em, fun W' H' σ' g r' _ => q W' H' .non g (R.one (r'.push0 rfl))⟩
    · cases ef
theorem fnG_of1 {x qual : Str} {st : Stmt} {f : Addr} {fd : FuncData} {N ps : List Str} {k n : Nat} {m : Env → Option Out} (F : Fun K x qual st f fd) (S : FnScope N ps (defScope st)) (hn : ps.length = n)
    (hbody : Body P w K mg base N qual st f k [0] m) : FnG P w K mg base (k + 1) f fd ps (sp1 K mg n (run1 N.length m)) :=
  fnG_fun F S (fun vs H Q ⟨B, W, v0, vr, c0, ds, c, c1, ev, r, h, hl, _⟩ => by rw [ev, List.length_cons, h.length, hl, hn]) fun cdv A outer s H vs Q hr hg ⟨B, W, v0, vr, c0, ds, c, c1, ev, r, h, hl, ef, q⟩ => by
    subst ev
    refine ⟨_, hbody cdv A outer s H hr hg, ?_⟩
    have first : ∀ {σ' : L2.St}, Pr [0] (L2.start N (v0 :: vr)) σ' → ∃ r, σ' = some v0 :: r := fun {σ'} hp => by
      have e := hp 0 (by simp)
      have e2 : (L2.start N (v0 :: vr))[0]? = some (some v0) := rfl
      rw [e2] at e
      cases σ' with
      | nil => cases e
      | cons a r => cases (show some a = some (some v0) from e); exact ⟨r, rfl⟩
    unfold run1 at ef
    split at ef
    · rename_i c' ρ' em
      split at ef
      · rename_i c0' e0
        cases ef
        refine ⟨B, W, _, _, env1_r r h, em, fun W' H' σ' v g r' hp => ?_⟩
        obtain ⟨rr, rfl⟩ := first hp
        cases ρ' with
        | nil => cases e0
        | cons a ρr =>
          cases (show some a = _ from e0)
          exact q W' H' v g (R.two r')
      · cases ef
    · rename_i ρ' em
      split at ef
      · rename_i c0' e0
        cases ef
        refine ⟨B, W, _, _, env1_r r h, em, fun W' H' σ' g r' hp => ?_⟩
        obtain ⟨rr, rfl⟩ := first hp
        cases ρ' with
        | nil => cases e0
        | cons a ρr =>
          cases (show some a = _ from e0)
          exact q W' H' .non g (R.two (r'.push0 rfl))
      · cases ef
    · cases ef
theorem FnG.at {x qual : Str} {st : Stmt} {f : Addr} {fd : FuncData} {ps : List Str} {k n : Nat} {sp : Sp1} (G : FnG P w K mg base k f fd ps sp) (F : Fun K x qual st f fd) (hm : mg x = some (.ref f)) (hn : ps.length = n) (hb : Binds K fd ps []) : FnAt P w K mg base k x n sp :=
  ⟨f, fd, ps, hm, F.kp, hb, hn, G⟩
theorem FnG.kw {x qual : Str} {st : Stmt} {f : Addr} {fd : FuncData} {ps ks : List Str} {p : List Nat} {k n : Nat} {sp : Sp1} (G : FnG P w K mg base k f fd ps sp) (F : Fun K x qual st f fd) (hm : mg x = some (.ref f)) (hn : ps.length = n)
    (h : ∀ (kV doc pm : Value) (an : Option Addr) (cdv ct : Value) (ws : List Value), ws.length = ks.length → bindArgs (PySem.W.fnOf x qual (defArgs st) (defBody st) (defScope st) .none kV doc pm an cdv ct) ⟨[], ks.zip ws⟩ = pure (ps.zip (permL p ws))) : FnKw P w K mg base k x n ks p sp := by
  have kp := F.kp
  obtain ⟨oc, od, kV, doc, pm, an, cdv, ct, osl, rfl, lk, hcd⟩ := F.ex
  exact ⟨f, _, ps, hm, kp, fun ws hl => h kV doc pm an cdv ct ws hl, hn, G⟩
theorem FnG.up {f : Addr} {fd : FuncData} {ps : List Str} {j k : Nat} {sp : Sp1} (G : FnG P w K mg base j f fd ps sp) (h : j ≤ k) : FnG P w K mg base k f fd ps sp := G.mono h
end
end Mn

namespace Mn
open PySem PySem.Spec PyProof.Rows L2
theorem hu64 {A : Around} {k : Nat} (r : Room k A) : A.units + 64 < cLine := r.units
theorem hu65 {A : Around} {k : Nat} (r : Room k A) : A.units + 65 < cLine := by have := r.un; omega
theorem len_nil : ∀ (ρ : Mn.Env) (ds : List D) (ρ' : Mn.Env), mNil ρ = some (ds, ρ') → ds.length = 0 := fun ρ ds ρ' h => by cases h; rfl
theorem len_cons {k n : Nat} {m : Mn.Env → Option (Cell × Mn.Env)} {ms : Mn.Env → Option (List D × Mn.Env)} (h : ∀ ρ ds ρ', ms ρ = some (ds, ρ') → ds.length = n) : ∀ ρ ds ρ', mCons k m ms ρ = some (ds, ρ') → ds.length = n + 1 := fun ρ ds ρ' e => by
  unfold mCons at e
  split at e
  · split at e
    · split at e
      · rename_i er
        cases e
        rw [List.length_cons, h _ _ _ er]
      · cases e
    · cases e
  · cases e
def ofN (o : List D → Option D) : List D → Option Cell := fun ds => match o ds with | some d => if d.sc then some (0, d) else none | none => none
theorem w_of {X : Cx} {o : List D → Option D} {r : List V → Hp → VK → Prop} (w : OpN X o r) : OpF1 X (ofN o) r := w_ofN w
section
variable {X : Cx} {tg a b e : Expr} {f g : Mn.Env → Option D} {p pos p2 : Pos}
/-- reversed(range(..)) -/
noncomputable def iRevR1 (f : Mn.Env → Option D) : Mn.Env → Option (List D × Mn.Env) := fun ρ => match f ρ with
  | some (.int j) => if okRng j then some (rng (j - 1) (-1) j.toNat, ρ) else none
  | _ => none
theorem itOk_rngC' {K : PySem.W.Frag} {mg : Str → Option Value} {W : Hp} {lo lo' c : Int} {n : Nat} (h : 0 < n → lo = lo') : ItOk K mg (Itc lo c n) W (rng lo' c n) where
  go := fun i H s hi => by show i < n; simpa [rng] using hi
  stop := fun H s => by show n ≤ (rng lo' c n).length; simp [rng]
  yld := fun B W1 H xs cs i x H' d s r e y => by
    obtain ⟨rfl, rfl⟩ := y
    obtain ⟨hi, rfl⟩ := rng_get e
    rw [h (by omega)]
    exact ⟨W1, Gr.refl B W1, r.push0 rfl⟩
theorem i_revR1 (hg : Gl X "reversed") (hm : X.mg "reversed" = none) (hg2 : Gl X "range") (hm2 : X.mg "range" = none) (ha : PE X a (pS X f)) (na : starEach [a] X.env = (false, eval a X.env) :: starEach [] X.env := by rfl)
    (hs : starEach [.Call (.Name "range" p2) [a] [] pos] X.env = (false, eval (.Call (.Name "range" p2) [a] [] pos) X.env) :: starEach [] X.env := by rfl) {pos' : Pos} : PI X tg (.Call (.Name "reversed" p) [.Call (.Name "range" p2) [a] [] pos] [] pos') (gI X (iRevR1 f)) :=
  PIi (pi_revR hg hm (prg_1 hg2 hm2 ha na) hs) fun σ H Rj ⟨B, W, ts, tc, ρ, ds, ρ', r, hl, em, q⟩ => by
    unfold iRevR1 at em
    split at em
    · rename_i j ej
      split at em
      · rename_i hz
        cases em
        refine ⟨ρ, _, ⟨B, W, ts, tc, r, hl⟩, ej, fun v hv => ⟨j, hv, by omega, by omega, (okRng_of hz).1, (okRng_of hz).2, q W H _ (Gr.refl B W) r ?_⟩⟩
        rw [show (j - 0).toNat = j.toNat by rw [Int.sub_zero]]
        exact itOk_rngC' fun h => by omega
      · cases em
    · cases em
end
end Mn

namespace Mn
open PySem PySem.Spec PyProof.Rows L2
section
variable {X : Cx} {a b e : Expr} {m n : Mn.Env → Option (Cell × Mn.Env)} {pos : Pos}
theorem g_sub (ha : PE X a (gS X m)) (hb : PE X b (gS X n)) : PE X (.BinOp a .Sub b pos) (gS X (mBin dSub m n)) := g_op op_sub w_int20 ha hb
theorem g_mod (ha : PE X a (gS X m)) (hb : PE X b (gS X n)) : PE X (.BinOp a .Mod b pos) (gS X (mBin dMod m n)) := g_op op_mod (w_int2 fun i j h => of_decide_eq_true h) ha hb
theorem g_div (ha : PE X a (gS X m)) (hb : PE X b (gS X n)) : PE X (.BinOp a .FloorDiv b pos) (gS X (mBin dDiv m n)) := g_op op_fdivNW (w_int2 fun i j h => by
  unfold okDiv at h
  rw [Bool.and_eq_true] at h
  exact ⟨of_decide_eq_true h.1, of_decide_eq_true h.2⟩) ha hb
theorem g_pow (ha : PE X a (gS X m)) (hb : PE X b (gS X n)) : PE X (.BinOp a .Pow b pos) (gS X (mBin dPow m n)) := g_op op_powW (w_int2 fun i j h => h) ha hb
theorem g_shl (ha : PE X a (gS X m)) (hb : PE X b (gS X n)) : PE X (.BinOp a .LShift b pos) (gS X (mBin dShl m n)) := g_op op_shlW (w_int2 fun i j h => okShl_of h) ha hb
theorem g_shr (ha : PE X a (gS X m)) (hb : PE X b (gS X n)) : PE X (.BinOp a .RShift b pos) (gS X (mBin dShr m n)) := g_op op_shr (w_int2 fun i j h => of_decide_eq_true h) ha hb
end
/-! ### arguments that are looked at and stay their owner's -/
inductive Arg where
  | br (i : Nat) | gv (d : D)
def ArgsOk (K : PySem.W.Frag) (mg : Str → Option Value) (W : Hp) (σ : L2.St) : List Arg → List V → Prop
  | [], vs => vs = []
  | .br i :: r, vs => ∃ v vr, vs = v :: vr ∧ σ[i]? = some (some v) ∧ ArgsOk K mg W σ r vr
  | .gv d :: r, vs => ∃ v vr, vs = v :: vr ∧ Rep K mg W d v ∧ ArgsOk K mg W σ r vr
theorem ArgsOk.mono {K : PySem.W.Frag} {mg : Str → Option Value} {W W' : Hp} {σ : L2.St} (e : Same W W') : ∀ {as : List Arg} {vs : List V}, ArgsOk K mg W σ as vs → ArgsOk K mg W' σ as vs
  | [], _, h => h
  | .br _ :: _, _, ⟨v, vr, h1, h2, h3⟩ => ⟨v, vr, h1, h2, ArgsOk.mono e h3⟩
  | .gv _ :: _, _, ⟨v, vr, h1, h2, h3⟩ => ⟨v, vr, h1, Rep.mono e _ _ h2, ArgsOk.mono e h3⟩
def gB (X : Cx) (m : Mn.Env → Option (List Arg × Mn.Env)) : TA := fun σ H Q => ∃ (B W : Hp) (ts : List (Option V)) (tc : List (Option Cell)) (ρ : Mn.Env) (as : List Arg) (ρ' : Mn.Env), R X.K X.mg B W H (ts ++ σ) (tc ++ ρ) ∧ ts.length = tc.length ∧ m ρ = some (as, ρ') ∧
  ∀ W' H' vs, Gr B W W' → R X.K X.mg B W' H' (ts ++ σ) (tc ++ ρ') → ArgsOk X.K X.mg W' σ as vs → Q vs H'
def bNil : Mn.Env → Option (List Arg × Mn.Env) := fun ρ => some ([], ρ)
def bBr (i : Nat) (ms : Mn.Env → Option (List Arg × Mn.Env)) : Mn.Env → Option (List Arg × Mn.Env) := fun ρ => match ρ[i]? with
  | some (some _) => (match ms ρ with | some (as, ρ1) => some (.br i :: as, ρ1) | none => none)
  | _ => none
def bGv (m : Mn.Env → Option (Cell × Mn.Env)) (ms : Mn.Env → Option (List Arg × Mn.Env)) : Mn.Env → Option (List Arg × Mn.Env) := fun ρ => match m ρ with
  | some (c, ρ1) => (match ms ρ1 with | some (as, ρ2) => some (.gv c.2 :: as, ρ2) | none => none)
  | none => none
def argsD (ρ : Mn.Env) : List Arg → Option (List D)
  | [] => some []
  | .br i :: r => match ρ[i]? with
    | some (some c) => (match argsD ρ r with | some ds => some (c.2 :: ds) | none => none)
    | _ => none
  | .gv d :: r => match argsD ρ r with | some ds => some (d :: ds) | none => none
section
variable {X : Cx} {a b c e : Expr} {es : List Expr} {m n : Mn.Env → Option (Cell × Mn.Env)} {ms : Mn.Env → Option (List Arg × Mn.Env)} {pos p : Pos} {k : Nat}
theorem b_nil : PA X [] (gB X bNil) := PAi pa_nil fun σ H Q ⟨B, W, ts, tc, ρ, as, ρ', r, hl, e, q⟩ => by
  cases e
  exact q W H [] (Gr.refl B W) r rfl
theorem b_br {i : Nat} (h : PE X a (tVar i)) (hr : PA X es (gB X ms)) (hs : starEach (a :: es) X.env = (false, eval a X.env) :: starEach es X.env := by rfl) : PA X (a :: es) (gB X (bBr i ms)) :=
  PAi (pa_cons h hr hs) fun σ H Q ⟨B, W, ts, tc, ρ, as, ρ', r, hl, e, q⟩ => by
    unfold bBr at e
    split at e
    · rename_i c ec
      split at e
      · rename_i as' ρ1 er
        cases e
        obtain ⟨v, ev, hv⟩ := r.rep (i := tc.length + i) (c := c) (by rw [get_app]; exact ec)
        rw [← hl, get_app] at ev
        exact ⟨v, ev, B, W, ts, tc, ρ, as', ρ', r, hl, er, fun W1 H1 vs g1 r1 hv => q W1 H1 (v :: vs) g1 r1 ⟨v, vs, rfl, ev, hv⟩⟩
      · cases e
    · cases e
theorem b_gv (h : PE X a (gS X m)) (hr : PA X es (gB X ms)) (hs : starEach (a :: es) X.env = (false, eval a X.env) :: starEach es X.env := by rfl) : PA X (a :: es) (gB X (bGv m ms)) :=
  PAi (pa_cons h hr hs) fun σ H Q ⟨B, W, ts, tc, ρ, as, ρ', r, hl, e, q⟩ => by
    unfold bGv at e
    split at e
    · rename_i c ρ1 ec
      split at e
      · rename_i as' ρ2 er
        cases e
        refine ⟨B, W, ts, tc, ρ, c, ρ1, r, hl, ec, fun W1 H1 v g1 r1 => ?_⟩
        obtain ⟨W2, g2, r2, hu⟩ := R.pop r1
        exact ⟨B, W2, ts, tc, ρ1, as', ρ', r2, hl, er, fun W3 H3 vs g3 r3 hv => q W3 H3 (v :: vs) ((g1.trans g2).trans g3) r3 ⟨v, vs, rfl, Rep.mono g3.sm _ _ hu, hv⟩⟩
      · cases e
    · cases e
theorem argsD_rep {K : PySem.W.Frag} {mg : Str → Option Value} {B W H : Hp} {ts : List (Option V)} {tc : List (Option Cell)} {σ : L2.St} {ρ : Mn.Env} (r : R K mg B W H (ts ++ σ) (tc ++ ρ)) (hl : ts.length = tc.length) : ∀ {as : List Arg} {vs : List V} {ds : List D}, ArgsOk K mg W σ as vs → argsD ρ as = some ds → RepL K mg H ds vs
  | [], _, _, h, e => by cases e; exact h
  | .br i :: as, _, _, ⟨v, vr, h1, h2, h3⟩, e => by
    simp only [argsD] at e
    split at e
    · rename_i c ec
      split at e
      · rename_i ds ed
        cases e
        obtain ⟨v', ev, hv⟩ := r.rep (i := tc.length + i) (c := c) (by rw [get_app]; exact ec)
        rw [← hl, get_app, h2] at ev
        cases ev
        exact ⟨v, vr, h1, hv, argsD_rep r hl h3 ed⟩
      · cases e
    · cases e
  | .gv d :: as, _, _, ⟨v, vr, h1, h2, h3⟩, e => by
    simp only [argsD] at e
    split at e
    · rename_i ds ed
      cases e
      exact ⟨v, vr, h1, Rep.mono r.sw _ _ h2, argsD_rep r hl h3 ed⟩
    · cases e
/-- f(..) that only looks: what it hands back is a scalar -/
def mCallB (n : Nat) (F : Fp0) (ms : Mn.Env → Option (List Arg × Mn.Env)) : Mn.Env → Option (Cell × Mn.Env) := fun ρ => match ms ρ with
  | some (as, ρ1) => (match argsD ρ1 as with
    | some ds => if ds.length = n then (match F ds with
      | some c => if c.2.sc then some ((0, c.2), ρ1) else none
      | none => none) else none
    | none => none)
  | none => none
theorem g_callB' {F : Fp0} {x : Str} {nn : Nat} (hF : FnAt X.prog X.w X.K X.mg X.base k x nn (sp0 X.K X.mg nn F)) (hr : Room k X.A) (hgd : X.A.guards = some []) (hg : Gl X x)
    (ha : PA X (e :: es) (gB X ms)) (hdb : (x == ("__debug__" : Str)) = false := by decide) (he : starEach (e :: es) X.env = (false, eval e X.env) :: starEach es X.env := by rfl) (hpl : (backTo pos (starEach es X.env)).any (·.1) = false := by rfl) :
    PE X (.Call (.Name x p) (e :: es) [] pos) (gS X (mCallB nn F ms)) := PEi (pe_callG hF hr hgd hg ha hdb he hpl) fun σ H Q ⟨B, W, ts, tc, ρ, cl, ρ', r, hl, em, q⟩ => by
  unfold mCallB at em
  split at em
  · rename_i as ρ1 ex
    split at em
    · rename_i ds ed
      split at em
      · rename_i hn
        split at em
        · rename_i c ef
          split at em
          · rename_i hs
            cases em
            refine ⟨B, W, ts, tc, ρ, as, _, r, hl, ex, fun W1 H1 vs g1 r1 ok => ?_⟩
            refine ⟨H1, H1, ds, c, ⟨Same.refl _, Same.refl _, fun _ => 0, fun _ => rfl, fun b => ⟨Nat.zero_le _, fun hb => (hb rfl).elim⟩⟩, argsD_rep r1 hl ok ed, hn, ef, fun W2 H2 v g2 r2 => ?_⟩
            have sm : Same H1 H2 := r2.sb
            obtain ⟨T, hc, hT⟩ := r1.ex
            have r3 : R X.K X.mg B W1 H2 (ts ++ σ) (tc ++ ρ') := ⟨r1.sw.trans sm, r1.sb.trans sm, T, hc.mono (Same.refl W1) (fun a ha => by
              cases z : H1 a with
              | none => exact absurd z (hc.there a ha)
              | some o => exact sm a o z), hT⟩
            obtain ⟨v', ev, hv⟩ := r2.rep (i := 0) (c := c) rfl
            have e2 : some (some v) = some (some v') := ev
            cases e2
            exact q W1 H2 v g1 (r3.pushS hs hv)
          · cases em
        · cases em
      · cases em
    · cases em
  · cases em
/-- the left side a name, looked at; the right side does things -/
def mBinL (o : D → D → Option D) (i : Nat) (n : Mn.Env → Option (Cell × Mn.Env)) : Mn.Env → Option (Cell × Mn.Env) := fun ρ => match ρ[i]?, n ρ with
  | some (some _), some (c', ρ1) => (match ρ1[i]? with
    | some (some c) => (match o c.2 c'.2 with
      | some d => if d.sc then some ((0, d), ρ1) else none
      | none => none)
    | _ => none)
  | _, _ => none
theorem mBinL_imp {o : D → D → Option D} {r : R2} {i : Nat} (w : Op2 X o r) {σ : L2.St} {H : Hp} {Q : VK} (h : gS X (mBinL o i n) σ H Q) : tOp r (tVar i) (gS X n) σ H Q := by
  obtain ⟨B, W, ts, tc, ρ, cl, ρ', r, hl, e, q⟩ := h
  unfold mBinL at e
  split at e
  · rename_i c0 c' ρ1 ec en
    split at e
    · rename_i c e1
      split at e
      · rename_i d ed
        split at e
        · rename_i hs
          cases e
          obtain ⟨v, ev, _⟩ := r.rep (i := tc.length + i) (c := c0) (by rw [get_app]; exact ec)
          rw [← hl, get_app] at ev
          refine ⟨v, ev, B, W, ts, tc, ρ, c', ρ', r, hl, en, fun W1 H1 u g1 r1 => ?_⟩
          obtain ⟨W2, g2, r2, hu⟩ := R.pop r1
          obtain ⟨v', ev', hv⟩ := r2.rep (i := tc.length + i) (c := c) (by rw [get_app]; exact e1)
          rw [← hl, get_app, ev] at ev'
          cases ev'
          exact w H1 c.2 c'.2 d v u Q ed hv (Rep.mono r2.sw _ _ hu) fun z hz => q W2 H1 z (g1.trans g2) (r2.pushS hs hz)
        · cases e
      · cases e
    · cases e
  · cases e
theorem g_cmpL {op : CmpOp} {o : D → D → Option D} {r : R2} {i : Nat} (ho : OpR X (compareOp op) r) (w : Op2 X o r) (ha : PE X a (tVar i)) (hb : PE X b (gS X n)) (hm : behindInMarks op b = false) : PE X (.Compare a [op] [b] pos) (gS X (mBinL o i n)) :=
  PEi (pe_cmpR ho ha hb hm) fun σ H Q h => mBinL_imp w h
theorem gt_cmpL {op : CmpOp} {o : D → D → Option D} {r : R2} {i : Nat} (ho : OpR X (compareOp op) r) (w : Op2 X o r) (ha : PE X a (tVar i)) (hb : PE X b (gS X n)) (hm : behindInMarks op b = false) : PT X (.Compare a [op] [b] pos) (gT X (mtV (mBinL o i n))) :=
  PTi (pt_cmpR ho ha hb hm) fun σ H Q ⟨B, W, ts, tc, ρ, cl, ρ', r, hl, em, q⟩ => by
    obtain ⟨k, e⟩ := mtV_some em
    refine mBinL_imp w ⟨B, W, ts, tc, ρ, _, ρ', r, hl, e, fun W1 H1 v g1 r1 => ?_⟩
    obtain ⟨W2, g2, r2, hu⟩ := R.pop r1
    exact ⟨cl, hu, q W2 H1 (g1.trans g2) r2⟩
end
end Mn
namespace Mn
open PySem PySem.Spec PyProof.Rows L2
/-- a promise of nothing -/
theorem FnG.zero {P : Program} {w : World} {K : PySem.W.Frag} {mg : Str → Option Value} {base : Heap} {k n : Nat} {f : Addr} {fd : FuncData} {ps : List Str} : FnG P w K mg base k f fd ps (sp0 K mg n fun _ => none) where
  len := fun vs H Q h => by
    obtain ⟨B, W, ds, c, r, h, hl, e, q⟩ := h
    cases e
  run := fun A outer s H args us vs Q hr hg e0 hb r h => by
    obtain ⟨B, W, ds, c, r, h, hl, e, q⟩ := h
    cases e
theorem cst_int {K : PySem.W.Frag} {h : Heap} {mg : Str → Option Value} {x : Str} {i : Int} {t : Tok} (X : K.In h) (G : h.Ns mainGlobals mg) (a : PySem.W.nsIn K mainGlobals x = some (some (.int i t))) : ∃ t, mg x = some (.int i t) := ⟨t, PySem.W.mg_of X G a⟩
theorem cst_str {K : PySem.W.Frag} {h : Heap} {mg : Str → Option Value} {x : Str} {i : Str} {t : Tok} (X : K.In h) (G : h.Ns mainGlobals mg) (a : PySem.W.nsIn K mainGlobals x = some (some (.str i t))) : ∃ t, mg x = some (.str i t) := ⟨t, PySem.W.mg_of X G a⟩
end Mn

namespace Mn
open PySem PySem.Spec PyProof.Rows L2
section
variable {f g h : Mn.Env → Option D} {fs : Mn.Env → Option (List D)} {p t u : Mn.Env → Option Bool} {m n o : Mn.Env → Option (Cell × Mn.Env)} {ms : Mn.Env → Option (List D × Mn.Env)} {tm tn : Mn.Env → Option (Bool × Mn.Env)} {x y : Mn.Env → Option Out} {ρ : Mn.Env} {i j k l : Nat} {o2 : D → D → Option D} {o1 : D → Option D} {oc : D → D → Option Cell} {ol : List D → Option Cell}
@[simp] theorem e_pVar : pVar i ρ = (match ρ[i]? with | some (some c) => some c.2 | _ => none) := rfl
@[simp] theorem e_pC {d : D} : pC d ρ = some d := rfl
@[simp] theorem e_pBin : pBin o2 f g ρ = (f ρ).bind fun x => (g ρ).bind fun y => o2 x y := rfl
@[simp] theorem e_pUn : pUn o1 f ρ = (f ρ).bind o1 := rfl
@[simp] theorem e_pAnd : pAnd f g ρ = (match f ρ with | some (.bl true) => g ρ | some (.bl false) => some (.bl false) | _ => none) := rfl
@[simp] theorem e_pOr : pOr f g ρ = (match f ρ with | some (.bl false) => g ρ | some (.bl true) => some (.bl true) | _ => none) := rfl
@[simp] theorem e_pIf : pIf p f g ρ = (match p ρ with | some true => f ρ | some false => g ρ | none => none) := rfl
@[simp] theorem e_pB : pB f ρ = (match f ρ with | some (.bl b) => some b | _ => none) := rfl
@[simp] theorem e_pTr : pTr f ρ = (f ρ).bind dTruth := rfl
@[simp] theorem e_ptAnd : ptAnd t u ρ = (match t ρ with | some true => u ρ | some false => some false | none => none) := rfl
@[simp] theorem e_ptOr : ptOr t u ρ = (match t ρ with | some false => u ρ | some true => some true | none => none) := rfl
@[simp] theorem e_ptNot : ptNot t ρ = (match t ρ with | some b => some (!b) | none => none) := rfl
@[simp] theorem e_pChain {o3 : D → D → Option D} : pChain o2 o3 f g h ρ = (match f ρ, g ρ with
  | some x, some y => (match o2 x y with
    | some (.bl true) => (h ρ).bind fun z => o3 y z
    | some (.bl false) => some (.bl false)
    | _ => none)
  | _, _ => none) := rfl
@[simp] theorem e_pCall {oo : List D → Option D} : pCall oo fs ρ = (fs ρ).bind oo := rfl
@[simp] theorem e_pNil : pNil ρ = some [] := rfl
@[simp] theorem e_pCons : pCons f fs ρ = (f ρ).bind fun x => (fs ρ).bind fun xs => some (x :: xs) := rfl
@[simp] theorem e_mP : mP f ρ = (match f ρ with | some d => if d.sc then some ((0, d), ρ) else none | none => none) := rfl
@[simp] theorem e_oVar : oVar i ρ = (match ρ[i]? with | some (some c) => some c | _ => none) := rfl
@[simp] theorem e_oK {d : D} : oK d ρ = some (0, d) := rfl
@[simp] theorem e_oIx {fc : Mn.Env → Option Cell} : oIx fc g ρ = (match fc ρ, g ρ with | some c, some (.int i) => itC c i | _, _ => none) := rfl
@[simp] theorem e_mO {fc : Mn.Env → Option Cell} : mO fc ρ = (match fc ρ with | some (k, d) => if k == 0 || d.sc then some ((0, d), ρ) else none | none => none) := rfl
@[simp] theorem e_mSh : mSh i ρ = (match ρ[i]? with | some (some c) => some ((0, c.2), ρ.set i (some (0, c.2))) | _ => none) := rfl
@[simp] theorem e_mMv : mMv i ρ = (match ρ[i]? with | some (some c) => some (c, ρ.set i none) | _ => none) := rfl
@[simp] theorem e_mNil : mNil ρ = some ([], ρ) := rfl
@[simp] theorem e_mCons : mCons k m ms ρ = (match m ρ with
  | some (c, ρ1) => if fit k c then (match ms ρ1 with | some (ds, ρ2) => some (c.2 :: ds, ρ2) | none => none) else none
  | none => none) := rfl
@[simp] theorem e_mLst : mLst k ms ρ = (match ms ρ with | some (ds, ρ') => if ds.length ≤ sizeLine then some ((k + 1, .lst ds), ρ') else none | none => none) := by unfold mLst; rfl
@[simp] theorem e_mTup : mTup k ms ρ = (match ms ρ with | some (ds, ρ') => if ds.length ≤ sizeLine then some ((k + 1, .tup ds), ρ') else none | none => none) := by unfold mTup; rfl
@[simp] theorem e_mBin : mBin o2 m n ρ = (match m ρ with
  | some (c, ρ1) => (match n ρ1 with
    | some (c', ρ2) => (match o2 c.2 c'.2 with | some d => if d.sc then some ((0, d), ρ2) else none | none => none)
    | none => none)
  | none => none) := rfl
@[simp] theorem e_mUn : mUn o1 m ρ = (match m ρ with | some (c, ρ1) => (match o1 c.2 with | some d => if d.sc then some ((0, d), ρ1) else none | none => none) | none => none) := rfl
@[simp] theorem e_mIx : mIx m n ρ = (match m ρ with
  | some (c, ρ1) => (match n ρ1 with
    | some (c', ρ2) => (match dIxL c.2 c'.2 with | some d => some ((0, d), ρ2) | none => none)
    | none => none)
  | none => none) := rfl
@[simp] theorem e_mIf : mIf tm m n ρ = (match tm ρ with | some (true, ρ1) => m ρ1 | some (false, ρ1) => n ρ1 | none => none) := rfl
@[simp] theorem e_mAnd : mAnd m n ρ = (match m ρ with | some ((_, .bl true), ρ1) => n ρ1 | some ((_, .bl false), ρ1) => some ((0, .bl false), ρ1) | _ => none) := rfl
@[simp] theorem e_mOr : mOr m n ρ = (match m ρ with | some ((_, .bl false), ρ1) => n ρ1 | some ((_, .bl true), ρ1) => some ((0, .bl true), ρ1) | _ => none) := rfl
@[simp] theorem e_mtP : mtP p ρ = (match p ρ with | some b => some (b, ρ) | none => none) := rfl
@[simp] theorem e_mtV : mtV m ρ = (match m ρ with | some ((_, .bl b), ρ1) => some (b, ρ1) | _ => none) := rfl
@[simp] theorem e_mtTr : mtTr m ρ = (match m ρ with | some (c, ρ1) => (match dTruth c.2 with | some b => some (b, ρ1) | none => none) | none => none) := rfl
@[simp] theorem e_mtAnd : mtAnd tm tn ρ = (match tm ρ with | some (true, ρ1) => tn ρ1 | some (false, ρ1) => some (false, ρ1) | none => none) := rfl
@[simp] theorem e_mtOr : mtOr tm tn ρ = (match tm ρ with | some (false, ρ1) => tn ρ1 | some (true, ρ1) => some (true, ρ1) | none => none) := rfl
@[simp] theorem e_mtNot : mtNot tm ρ = (match tm ρ with | some (b, ρ1) => some (!b, ρ1) | none => none) := rfl
@[simp] theorem e_tYesM : tYesM ρ = some (true, ρ) := rfl
@[simp] theorem e_mCall {F : Fp0} : mCall k F ms ρ = (match ms ρ with | some (ds, ρ1) => if ds.length = k then (match F ds with | some c => some (c, ρ1) | none => none) else none | none => none) := rfl
@[simp] theorem e_mCallI {F : Fp1} : mCallI k F i ms ρ = (match ρ[i]? with
  | some (some _) => (match ms ρ with
    | some (ds, ρ1) => if ds.length + 1 = k then (match ρ1[i]? with
      | some (some c0) => (match F c0 ds with | some (c, c1) => some (c, ρ1.set i (some c1)) | none => none)
      | _ => none) else none
    | none => none)
  | _ => none) := rfl
@[simp] theorem e_mCallT {F : Fp1} : mCallT k F m ms ρ = (match m ρ with
  | some (c0, ρ0) => (match ms ρ0 with
    | some (ds, ρ1) => if ds.length + 1 = k then (match F c0 ds with | some (c, _) => some (c, ρ1) | none => none) else none
    | none => none)
  | none => none) := rfl
@[simp] theorem e_mCallKw {F : Fp0} {q : List Nat} : mCallKw k j F q ms ρ = (match ms ρ with
  | some (ds, ρ1) => if (permL q ds).length = k then (match F (permL q ds) with | some c => some (c, ρ1) | none => none) else none
  | none => none) := rfl
@[simp] theorem e_bNil : bNil ρ = some ([], ρ) := rfl
@[simp] theorem e_bBr {bs : Mn.Env → Option (List Arg × Mn.Env)} : bBr i bs ρ = (match ρ[i]? with | some (some _) => (match bs ρ with | some (as, ρ1) => some (.br i :: as, ρ1) | none => none) | _ => none) := rfl
@[simp] theorem e_bGv {bs : Mn.Env → Option (List Arg × Mn.Env)} : bGv m bs ρ = (match m ρ with | some (c, ρ1) => (match bs ρ1 with | some (as, ρ2) => some (.gv c.2 :: as, ρ2) | none => none) | none => none) := rfl
@[simp] theorem e_mCallB {F : Fp0} {bs : Mn.Env → Option (List Arg × Mn.Env)} : mCallB k F bs ρ = (match bs ρ with
  | some (as, ρ1) => (match argsD ρ1 as with
    | some ds => if ds.length = k then (match F ds with | some c => if c.2.sc then some ((0, c.2), ρ1) else none | none => none) else none
    | none => none)
  | none => none) := rfl
@[simp] theorem e_mBinL : mBinL o2 i n ρ = (match ρ[i]?, n ρ with
  | some (some _), some (c', ρ1) => (match ρ1[i]? with
    | some (some c) => (match o2 c.2 c'.2 with | some d => if d.sc then some ((0, d), ρ1) else none | none => none)
    | _ => none)
  | _, _ => none) := rfl
@[simp] theorem e_mBinF : mBinF oc m n ρ = (match m ρ with
  | some (c, ρ1) => (match n ρ1 with
    | some (c', ρ2) => (match oc c.2 c'.2 with | some d => some (d, ρ2) | none => none)
    | none => none)
  | none => none) := rfl
@[simp] theorem e_mCallF : mCallF ol ms ρ = (match ms ρ with | some (ds, ρ1) => (match ol ds with | some d => some (d, ρ1) | none => none) | none => none) := rfl
@[simp] theorem e_mFz : mFz m ρ = (match m ρ with | some (c, ρ1) => some ((0, c.2), ρ1) | none => none) := rfl
@[simp] theorem e_mSl {lo hi : GPart} : mSl m lo hi ρ = (match m ρ with
  | some (c, ρ1) => (match gVal lo ρ1 with
    | some (i, ρ2) => (match gVal hi ρ2 with
      | some (j, ρ3) => (match dCut c.2 i j with | some d => some (d, ρ3) | none => none)
      | none => none)
    | none => none)
  | none => none) := rfl
@[simp] theorem e_gVal0 : gVal none ρ = some (none, ρ) := rfl
@[simp] theorem e_gVal1 : gVal (some m) ρ = (match m ρ with | some ((_, .int i), ρ1) => some (some i, ρ1) | _ => none) := rfl
@[simp] theorem e_sNx : sNx ρ = some (.nx ρ) := rfl
@[simp] theorem e_sSeq : sSeq x y ρ = (match x ρ with | some (.nx ρ1) => y ρ1 | o => o) := rfl
@[simp] theorem e_sIf : sIf tm x y ρ = (match tm ρ with | some (true, ρ1) => x ρ1 | some (false, ρ1) => y ρ1 | none => none) := rfl
@[simp] theorem e_sRet : sRet m ρ = (match m ρ with | some (c, ρ1) => some (.rt c ρ1) | none => none) := rfl
@[simp] theorem e_sRetN : sRetN ρ = some (.rt (0, .non) ρ) := rfl
@[simp] theorem e_sExp : sExp m ρ = (match m ρ with | some (_, ρ1) => some (.nx ρ1) | none => none) := rfl
@[simp] theorem e_sAsg : sAsg i m ρ = (match m ρ with | some (c, ρ1) => some (.nx (ρ1.set i (some c))) | none => none) := rfl
@[simp] theorem e_sPar2 : sPar2 i j m n ρ = (match m ρ with
  | some (c, ρ1) => (match n ρ1 with | some (c', ρ2) => some (.nx ((ρ2.set i (some c)).set j (some c'))) | none => none)
  | none => none) := rfl
@[simp] theorem e_sPar3 : sPar3 i j l m n o ρ = (match m ρ with
  | some (c, ρ1) => (match n ρ1 with
    | some (c', ρ2) => (match o ρ2 with | some (c'', ρ3) => some (.nx (((ρ3.set i (some c)).set j (some c')).set l (some c''))) | none => none)
    | none => none)
  | none => none) := rfl
@[simp] theorem e_sAsgT {ff : Cell → Mn.Env → Option Mn.Env} : sAsgT m ff ρ = (match m ρ with | some (c, ρ1) => (match ff c ρ1 with | some ρ2 => some (.nx ρ2) | none => none) | none => none) := rfl
@[simp] theorem e_sSet {fp : Mn.Env → Option (List Nat)} : sSet i fp g m ρ = (match m ρ with
  | some (c, ρ1) => (match plAt i fp ρ1, g ρ1 with
    | some (js, c0, .lst l), some (.int k) => (match ixN l.length k with
      | some j => if fit (c0.1 - 1 - js.length) c then some (.nx (ρ1.set i (some (c0.1, D.put c0.2 js (.lst (l.set j c.2)))))) else none
      | none => none)
    | _, _ => none)
  | none => none) := by unfold sSet; rfl
@[simp] theorem e_plNil : plNil ρ = some [] := rfl
@[simp] theorem e_sFor {it : Mn.Env → Option (List D × Mn.Env)} {tg : D → Mn.Env → Option Mn.Env} : sFor it tg x ρ = (match it ρ with | some (ds, ρ1) => mLoop tg x ds ρ1 | none => none) := rfl
@[simp] theorem e_iSeq : iSeq m ρ = (match m ρ with | some ((_, .lst l), ρ1) => some (l, ρ1) | some ((_, .tup l), ρ1) => some (l, ρ1) | _ => none) := rfl
@[simp] theorem e_iEnumM : iEnumM ms ρ = (match ms ρ with | some ([.lst l], ρ1) => some (enumD 0 l, ρ1) | _ => none) := rfl
@[simp] theorem e_iZipM : iZipM ms ρ = (match ms ρ with | some ([.lst l, .lst m], ρ1) => some (zipD l m, ρ1) | _ => none) := rfl
@[simp] theorem e_iZipSM : iZipSM ms ρ = (match ms ρ with | some ([.lst l, .lst m], ρ1) => if l.length = m.length then some (zipD l m, ρ1) else none | _ => none) := rfl
@[simp] theorem e_iRevM : iRevM ms ρ = (match ms ρ with | some ([.lst l], ρ1) => some (l.reverse, ρ1) | _ => none) := rfl
@[simp] theorem e_iRevR1 : iRevR1 f ρ = (match f ρ with | some (.int j) => if okRng j then some (rng (j - 1) (-1) j.toNat, ρ) else none | _ => none) := by unfold iRevR1; rfl
@[simp] theorem e_tName {d : D} : tName i d ρ = some (ρ.set i (some (0, d))) := rfl
@[simp] theorem e_tsNil : tsNil [] ρ = some ρ := rfl
@[simp] theorem e_tsCons {ff : D → Mn.Env → Option Mn.Env} {fss : List D → Mn.Env → Option Mn.Env} {d : D} {r : List D} : tsCons ff fss (d :: r) ρ = (match ff d ρ with | some ρ1 => fss r ρ1 | none => none) := rfl
@[simp] theorem e_tTupT {fss : List D → Mn.Env → Option Mn.Env} {r : List D} : tTupT k fss (.tup r) ρ = (if r.length = k then fss r ρ else none) := rfl
@[simp] theorem e_cName {c : Cell} : cName i c ρ = some (ρ.set i (some c)) := rfl
@[simp] theorem e_cName0 {c : Cell} : cName0 i c ρ = some (ρ.set i (some (0, c.2))) := rfl
@[simp] theorem e_csNil : csNil [] ρ = some ρ := rfl
@[simp] theorem e_csCons {ff : Cell → Mn.Env → Option Mn.Env} {fss : List Cell → Mn.Env → Option Mn.Env} {d : Cell} {r : List Cell} : csCons ff fss (d :: r) ρ = (match ff d ρ with | some ρ1 => fss r ρ1 | none => none) := rfl
@[simp] theorem e_cTup {fss : List Cell → Mn.Env → Option Mn.Env} {q : Nat} {r : List D} : cTup k fss (q, .tup r) ρ = (if r.length = k then fss (r.map fun d => (q - 1, d)) ρ else none) := rfl
@[simp] theorem e_wipe0 : wipeE ρ [] = ρ := rfl
@[simp] theorem e_wipe1 {vs : List Nat} : wipeE ρ (i :: vs) = (wipeE ρ vs).set i none := rfl
end
@[simp] theorem e_run0 {N : Nat} {m : Mn.Env → Option Out} {ds : List D} : run0 N m ds = (match m (env0 N ds) with | some (.rt c _) => some c | some (.nx _) => some (0, .non) | _ => none) := rfl
@[simp] theorem e_run1 {N : Nat} {m : Mn.Env → Option Out} {c : Cell} {ds : List D} : run1 N m c ds = (match m (env1 N c ds) with
  | some (.rt c1 ρ) => (match ρ[0]? with | some (some c0) => some (c1, c0) | _ => none)
  | some (.nx ρ) => (match ρ[0]? with | some (some c0) => some ((0, .non), c0) | _ => none)
  | _ => none) := rfl
@[simp] theorem e_env0 {N : Nat} {ds : List D} : env0 N ds = (ds.map fun d => some (0, d)) ++ List.replicate (N - ds.length) none := rfl
@[simp] theorem e_env1 {N : Nat} {c : Cell} {ds : List D} : env1 N c ds = some c :: ((ds.map fun d => some (0, d)) ++ List.replicate (N - (ds.length + 1)) none) := rfl
@[simp] theorem e_fit {k : Nat} {c : Cell} : fit k c = (decide (k ≤ c.1) || c.2.sc) := rfl
@[simp] theorem e_sc1 {i : Int} : (D.int i).sc = true := rfl
@[simp] theorem e_sc2 {i : Bool} : (D.bl i).sc = true := rfl
@[simp] theorem e_sc3 {i : Str} : (D.str i).sc = true := rfl
@[simp] theorem e_sc4 : D.non.sc = true := rfl
@[simp] theorem e_sc5 {l : List D} : (D.lst l).sc = false := rfl
@[simp] theorem e_sc6 {l : List D} : (D.tup l).sc = false := rfl
@[simp] theorem e_truB {b : Bool} : dTruth (.bl b) = some b := rfl
@[simp] theorem e_isi {T : String} {d : D} : dIsi T d = (match tyNm d with | some n => some (.bl (isTy n T)) | none => none) := rfl
@[simp] theorem e_ty1 {i : Int} : tyNm (.int i) = some "int" := rfl
@[simp] theorem e_ty2 {i : Bool} : tyNm (.bl i) = some "bool" := rfl
@[simp] theorem e_ty3 {i : Str} : tyNm (.str i) = some "str" := rfl
@[simp] theorem e_ty4 : tyNm .non = some "NoneType" := rfl
@[simp] theorem e_ty5 {l : List D} : tyNm (.lst l) = some "list" := rfl
@[simp] theorem e_ty6 {l : List D} : tyNm (.tup l) = some "tuple" := rfl
@[simp] theorem e_int2 {C : Int → Int → Bool} {g : Int → Int → Int} {i j : Int} : dInt2 C g (.int i) (.int j) = if C i j then some (.int (g i j)) else none := by unfold dInt2; rfl
@[simp] theorem e_cmp2 {g : Int → Int → Bool} {i j : Int} : dCmp2 g (.int i) (.int j) = some (.bl (g i j)) := rfl
@[simp] theorem e_int1 {g : Int → Int} {i : Int} : dInt1 g (.int i) = some (.int (g i)) := rfl
@[simp] theorem e_not {b : Bool} : dNot (.bl b) = some (.bl (!b)) := rfl
@[simp] theorem e_ofN {o : List D → Option D} {ds : List D} : ofN o ds = (match o ds with | some d => if d.sc then some (0, d) else none | none => none) := rfl
@[simp] theorem e_len1 {l : List D} : dLen [.lst l] = some (.int l.length) := rfl
@[simp] theorem e_len2 {l : List D} : dLen [.tup l] = some (.int l.length) := rfl
@[simp] theorem e_dint1 {i : Int} : dInt [.int i] = some (.int i) := rfl
@[simp] theorem e_dint2 {b : Bool} : dInt [.bl b] = some (.int (if b then 1 else 0)) := rfl
@[simp] theorem e_bits {i : Int} : dBits (.int i) = some (.int (Builtin.Int.intBits i : Nat)) := rfl
@[simp] theorem e_max2 {i j : Int} : dMaxL [.int i, .int j] = some (.int (if j > i then j else i)) := rfl
@[simp] theorem e_min2 {i j : Int} : dMinL [.int i, .int j] = some (.int (if j < i then j else i)) := rfl
@[simp] theorem e_isN1 : dIsG .non .non = some (.bl true) := rfl
@[simp] theorem e_isN2 {i : Int} : dIsG (.int i) .non = some (.bl false) := rfl
@[simp] theorem e_isN3 {l : List D} : dIsG (.lst l) .non = some (.bl false) := rfl
@[simp] theorem e_isN4 {a b : Bool} : dIsG (.bl a) (.bl b) = some (.bl (decide (a = b))) := rfl
@[simp] theorem e_isN5 {l : List D} : dIsG (.tup l) .non = some (.bl false) := rfl
@[simp] theorem e_notN1 : dNotG .non .non = some (.bl false) := rfl
@[simp] theorem e_notN2 {i : Int} : dNotG (.int i) .non = some (.bl true) := rfl
@[simp] theorem e_notN3 {l : List D} : dNotG (.lst l) .non = some (.bl true) := rfl
@[simp] theorem e_notN4 {a b : Bool} : dNotG (.bl a) (.bl b) = some (.bl (!decide (a = b))) := rfl
@[simp] theorem e_notN5 {l : List D} : dNotG (.tup l) .non = some (.bl true) := rfl
@[simp] theorem e_ixL {l : List D} {i : Int} : dIx (.lst l) (.int i) = atI l i := rfl
@[simp] theorem e_ixT {l : List D} {i : Int} : dIx (.tup l) (.int i) = atI l i := rfl
@[simp] theorem e_listOf1 {l : List D} : dListOf [.lst l] = some (1, .lst l) := rfl
@[simp] theorem e_listOf2 {l : List D} : dListOf [.tup l] = some (1, .lst l) := rfl
@[simp] theorem e_addI {i j : Int} : dAddG (.int i) (.int j) = some (0, .int (i + j)) := rfl
@[simp] theorem e_addL {l m : List D} : dAddG (.lst l) (.lst m) = if l.length + m.length ≤ sizeLine then some (1, .lst (l ++ m)) else none := by unfold dAddG; rfl
@[simp] theorem e_mulI {i j : Int} : dMulG (.int i) (.int j) = if okMul i j then some (0, .int (i * j)) else none := by unfold dMulG; rfl
@[simp] theorem e_mulL {l : List D} {k : Int} : dMulG (.lst l) (.int k) = if okIx k && decide (l.length * k.toNat ≤ sizeLine) then some (1, .lst (List.replicate k.toNat l).flatten) else none := by unfold dMulG; rfl
@[simp] theorem e_cutL {l : List D} {lo hi : Option Int} : dCut (.lst l) lo hi = some (1, .lst (cutD l lo hi)) := rfl
@[simp] theorem e_cutT {l : List D} {lo hi : Option Int} : dCut (.tup l) lo hi = some (0, .tup (cutD l lo hi)) := rfl
@[simp] theorem e_itC1 {k : Nat} {l : List D} {i : Int} : itC (k, .lst l) i = (match atI l i with | some d => some (k - 1, d) | none => none) := rfl
@[simp] theorem e_itC2 {k : Nat} {l : List D} {i : Int} : itC (k, .tup l) i = (match atI l i with | some d => some (k - 1, d) | none => none) := rfl
@[simp] theorem e_ixLL {l : List D} {i : Int} : dIxL (.lst l) (.int i) = atI l i := rfl
@[simp] theorem e_ixLT {l : List D} {i : Int} : dIxL (.tup l) (.int i) = atI l i := rfl
theorem e_rg1 {ms : Mn.Env → Option (List D × Mn.Env)} {ρ ρ1 : Mn.Env} {j : Int} (h : ms ρ = some ([.int j], ρ1)) : iRange ms ρ = if okRng j then some (rng 0 1 j.toNat, ρ1) else none := by unfold iRange; rw [h]
theorem e_rg2 {ms : Mn.Env → Option (List D × Mn.Env)} {ρ ρ1 : Mn.Env} {i j : Int} (h : ms ρ = some ([.int i, .int j], ρ1)) : iRange ms ρ = if okRng i && okRng j then some (rng i 1 (j - i).toNat, ρ1) else none := by unfold iRange; rw [h]
/-! ### one statement after the other -/
theorem seq_nx {A B : Mn.Env → Option Out} {ρ ρ1 : Mn.Env} (e : A ρ = some (.nx ρ1)) : sSeq A B ρ = B ρ1 := by unfold sSeq; rw [e]
theorem seq_rt {A B : Mn.Env → Option Out} {ρ ρ1 : Mn.Env} {c : Cell} (e : A ρ = some (.rt c ρ1)) : sSeq A B ρ = some (.rt c ρ1) := by unfold sSeq; rw [e]
theorem for_nx {it : Mn.Env → Option (List D × Mn.Env)} {tg : D → Mn.Env → Option Mn.Env} {B : Mn.Env → Option Out} {ρ ρ1 : Mn.Env} {ds : List D} {o : Option Out} (e : it ρ = some (ds, ρ1)) (h : mLoop tg B ds ρ1 = o) : sFor it tg B ρ = o := by unfold sFor; rw [e]; exact h
theorem run0_rt {N : Nat} {m : Mn.Env → Option Out} {ds : List D} {c : Cell} {ρ ρ' : Mn.Env} (h : env0 N ds = ρ) (e : m ρ = some (.rt c ρ')) : run0 N m ds = some c := by unfold run0; rw [h, e]
theorem run0_nx {N : Nat} {m : Mn.Env → Option Out} {ds : List D} {ρ ρ' : Mn.Env} (h : env0 N ds = ρ) (e : m ρ = some (.nx ρ')) : run0 N m ds = some (0, .non) := by unfold run0; rw [h, e]
theorem run1_rt {N : Nat} {m : Mn.Env → Option Out} {ds : List D} {c0 c c1 : Cell} {ρ ρ' : Mn.Env} (h : env1 N c0 ds = ρ) (e : m ρ = some (.rt c ρ')) (e2 : ρ'[0]? = some (some c1)) : run1 N m c0 ds = some (c, c1) := by unfold run1; rw [h, e]; simp only; rw [e2]
/-! ### loops -/
theorem mLoop_inv {tg : D → Mn.Env → Option Mn.Env} {body : Mn.Env → Option Out} (Inv : Nat → Mn.Env → Prop) : ∀ (ds : List D) (k : Nat) (ρ : Mn.Env), Inv k ρ →
    (∀ (i : Nat) (d : D) (ρ : Mn.Env), ds[i]? = some d → Inv (k + i) ρ → ∃ ρ1 ρ2, tg d ρ = some ρ1 ∧ body ρ1 = some (.nx ρ2) ∧ Inv (k + i + 1) ρ2) → ∃ ρ', mLoop tg body ds ρ = some (.nx ρ') ∧ Inv (k + ds.length) ρ'
  | [], k, ρ, h, _ => ⟨ρ, rfl, h⟩
  | d :: ds, k, ρ, h, st => by
    obtain ⟨ρ1, ρ2, e1, e2, h2⟩ := st 0 d ρ rfl h
    obtain ⟨ρ', e3, h3⟩ := mLoop_inv Inv ds (k + 1) ρ2 h2 fun i d' ρ hd hi => by
      have := st (i + 1) d' ρ (by simpa using hd) (by rw [show k + (i + 1) = k + 1 + i by omega]; exact hi)
      rw [show k + (i + 1) + 1 = k + 1 + i + 1 by omega] at this
      exact this
    refine ⟨ρ', ?_, by rw [List.length_cons, show k + (ds.length + 1) = k + 1 + ds.length by omega]; exact h3⟩
    simp only [mLoop, e1, e2]
    exact e3
theorem mCompL_inv {kc : Nat} {tg : D → Mn.Env → Option Mn.Env} {t : Mn.Env → Option (Bool × Mn.Env)} {x : Mn.Env → Option (Cell × Mn.Env)} {own : List Nat} (Inv : Nat → Mn.Env → List D → Prop) : ∀ (ds : List D) (k : Nat) (ρ : Mn.Env) (acc : List D), Inv k ρ acc →
    (∀ (i : Nat) (d : D) (ρ : Mn.Env) (acc : List D), ds[i]? = some d → Inv (k + i) ρ acc → ∃ ρ1 b ρ2, tg d ρ = some ρ1 ∧ t ρ1 = some (b, ρ2) ∧ (b = false → Inv (k + i + 1) (wipeE ρ2 own) acc) ∧ (b = true → ∃ c ρ3, x ρ2 = some (c, ρ3) ∧ fit kc c = true ∧ Inv (k + i + 1) (wipeE ρ3 own) (acc ++ [c.2]))) →
    ∃ rs ρ', mCompL kc tg t x own ds ρ = some (rs, ρ') ∧ Inv (k + ds.length) ρ' (acc ++ rs)
  | [], k, ρ, acc, h, _ => ⟨[], ρ, rfl, by rw [List.append_nil]; exact h⟩
  | d :: ds, k, ρ, acc, h, st => by
    have next : ∀ {ρ2 : Mn.Env} {acc2 : List D}, Inv (k + 0 + 1) ρ2 acc2 → ∃ rs ρ', mCompL kc tg t x own ds ρ2 = some (rs, ρ') ∧ Inv (k + (ds.length + 1)) ρ' (acc2 ++ rs) := fun {ρ2 acc2} h2 => by
      obtain ⟨rs, ρ', e3, h3⟩ := mCompL_inv Inv ds (k + 1) ρ2 acc2 h2 fun i d' ρ acc hd hi => by
        have := st (i + 1) d' ρ acc (by simpa using hd) (by rw [show k + (i + 1) = k + 1 + i by omega]; exact hi)
        rw [show k + (i + 1) + 1 = k + 1 + i + 1 by omega] at this
        exact this
      exact ⟨rs, ρ', e3, by rw [show k + (ds.length + 1) = k + 1 + ds.length by omega]; exact h3⟩
    obtain ⟨ρ1, b, ρ2, e1, e2, hf, ht⟩ := st 0 d ρ acc rfl h
    rw [List.length_cons]
    cases b with
    | false =>
      obtain ⟨rs, ρ', e3, h3⟩ := next (hf rfl)
      exact ⟨rs, ρ', by simp only [mCompL, e1, e2]; exact e3, h3⟩
    | true =>
      obtain ⟨c, ρ3, e4, e5, h4⟩ := ht rfl
      obtain ⟨rs, ρ', e3, h3⟩ := next h4
      refine ⟨c.2 :: rs, ρ', by simp only [mCompL, e1, e2, e4, e5, e3, if_true], ?_⟩
      rw [List.append_assoc] at h3
      exact h3
/-- a comprehension that leaves the frame as it is -/
theorem mComp_pure {kc : Nat} {it : Mn.Env → Option (List D × Mn.Env)} {tg : D → Mn.Env → Option Mn.Env} {t : Mn.Env → Option (Bool × Mn.Env)} {x : Mn.Env → Option (Cell × Mn.Env)} {own : List Nat} {ρ ρ1 ρ0 : Mn.Env} {ds : List D} (q : D → Bool) (v : D → D)
    (hit : it ρ = some (ds, ρ1)) (hz : ds.length < sizeLine) (hw : wipeE ρ1 own = ρ0)
    (h : ∀ d ∈ ds, ∃ ρ2, tg d ρ0 = some ρ2 ∧ t ρ2 = some (q d, ρ2) ∧ wipeE ρ2 own = ρ0 ∧ (q d = true → ∃ k, x ρ2 = some ((k, v d), ρ2) ∧ fit kc (k, v d) = true)) : mComp kc it tg t x own ρ = some ((kc + 1, .lst ((ds.filter q).map v)), ρ0) := by
  have key : ∀ ds : List D, (∀ d ∈ ds, ∃ ρ2, tg d ρ0 = some ρ2 ∧ t ρ2 = some (q d, ρ2) ∧ wipeE ρ2 own = ρ0 ∧ (q d = true → ∃ k, x ρ2 = some ((k, v d), ρ2) ∧ fit kc (k, v d) = true)) → mCompL kc tg t x own ds ρ0 = some ((ds.filter q).map v, ρ0) := by
    intro ds
    induction ds with
    | nil => intro _; rfl
    | cons d ds ih =>
      intro h
      obtain ⟨ρ2, e1, e2, e3, e4⟩ := h d List.mem_cons_self
      have ih' := ih fun d' hd => h d' (List.mem_cons_of_mem _ hd)
      cases hq : q d with
      | false =>
        rw [hq] at e2
        simp only [mCompL, e1, e2, e3]
        rw [ih', List.filter_cons_of_neg (by simp [hq])]
      | true =>
        obtain ⟨k, e5, e6⟩ := e4 hq
        rw [hq] at e2
        simp only [mCompL, e1, e2, e5, e6, e3, ih', if_true]
        rw [List.filter_cons_of_pos hq, List.map_cons]
  unfold mComp
  rw [hit]
  simp only [hz, if_true, hw, key ds h]
/-! ### ranges, numbers -/
theorem rng0 (n : Nat) : rng 0 1 n = (List.range n).map fun i : Nat => D.int i := by
  unfold rng
  refine List.map_congr_left fun i _ => ?_
  rw [Int.mul_one, Int.zero_add]
theorem okRng_nat {n : Nat} (h : n < 2 ^ 62) : okRng (n : Int) = true := okRng_mk (by omega)
theorem log2_lt {n k : Nat} (h : n < 2 ^ k) (hk : 0 < k) : n.log2 < k := by
  by_cases h0 : n = 0
  · subst h0; simpa using hk
  · exact (Nat.log2_lt h0).mpr h
theorem okMul_of {i j : Int} {a b : Nat} (h1 : i.natAbs < 2 ^ a) (h2 : j.natAbs < 2 ^ b) (ha : 0 < a) (hb : 0 < b) (hab : a + b ≤ 1000000) : okMul i j = true := by
  unfold okMul
  have := log2_lt h1 ha
  have := log2_lt h2 hb
  exact decide_eq_true (by omega)
theorem atI_nat' {l : List D} {i : Nat} : atI l (i : Int) = l[i]? := by
  by_cases h : i < l.length
  · obtain ⟨x, e⟩ : ∃ x, l[i]? = some x := ⟨l[i], by simp [h]⟩
    rw [e]; exact atI_nat e
  · have e : l[i]? = none := by simp; omega
    rw [e]
    unfold atI
    cases q : ixN l.length (i : Int) with
    | none => rfl
    | some j =>
      have := ixN_seq q
      exfalso
      omega
@[simp] theorem intsOf_map (l : List Int) : intsOf (l.map D.int) = some l := by
  induction l with
  | nil => rfl
  | cons a r ih => simp [intsOf, ih]
@[simp] theorem e_sum (l : List Int) : dSum [.lst (l.map D.int)] = some (.int l.sum) := by
  simp only [dSum, intsOf_map]
theorem okPow_of' {i j : Int} (h : okPow i j = true) : dPow (.int i) (.int j) = some (.int (i ^ j.toNat)) := by
  show (if okPow i j = true then _ else _) = _
  rw [if_pos h]
@[simp] theorem le_size {n : Nat} : (n ≤ sizeLine) = (n ≤ 16777216) := by rw [sizeLine_eq]
@[simp] theorem lt_size {n : Nat} : (n < sizeLine) = (n < 16777216) := by rw [sizeLine_eq]
/-- a comprehension over encoded items -/
theorem comp_map {α : Type} {kc : Nat} {it : Mn.Env → Option (List D × Mn.Env)} {tg : D → Mn.Env → Option Mn.Env} {t : Mn.Env → Option (Bool × Mn.Env)} {x : Mn.Env → Option (Cell × Mn.Env)} {own : List Nat} {ρ ρ1 ρ0 : Mn.Env} (l : List α) (enc : α → D) (q : α → Bool) (v : α → D)
    (hit : it ρ = some (l.map enc, ρ1)) (hz : l.length < 16777216) (hw : wipeE ρ1 own = ρ0)
    (h : ∀ a ∈ l, ∃ ρ2, tg (enc a) ρ0 = some ρ2 ∧ t ρ2 = some (q a, ρ2) ∧ wipeE ρ2 own = ρ0 ∧ (q a = true → ∃ k, x ρ2 = some ((k, v a), ρ2) ∧ fit kc (k, v a) = true)) : mComp kc it tg t x own ρ = some ((kc + 1, .lst ((l.filter q).map v)), ρ0) := by
  have key : ∀ l : List α, (∀ a ∈ l, ∃ ρ2, tg (enc a) ρ0 = some ρ2 ∧ t ρ2 = some (q a, ρ2) ∧ wipeE ρ2 own = ρ0 ∧ (q a = true → ∃ k, x ρ2 = some ((k, v a), ρ2) ∧ fit kc (k, v a) = true)) → mCompL kc tg t x own (l.map enc) ρ0 = some ((l.filter q).map v, ρ0) := by
    intro l
    induction l with
    | nil => intro _; rfl
    | cons d ds ih =>
      intro h
      obtain ⟨ρ2, e1, e2, e3, e4⟩ := h d List.mem_cons_self
      have ih' := ih fun d' hd => h d' (List.mem_cons_of_mem _ hd)
      rw [List.map_cons]
      cases hq : q d with
      | false =>
        rw [hq] at e2
        simp only [mCompL, e1, e2, e3]
        rw [ih', List.filter_cons_of_neg (by simp [hq])]
      | true =>
        obtain ⟨k, e5, e6⟩ := e4 hq
        rw [hq] at e2
        simp only [mCompL, e1, e2, e5, e6, e3, ih', if_true]
        rw [List.filter_cons_of_pos hq, List.map_cons]
  unfold mComp
  rw [hit]
  simp only [List.length_map, lt_size, hz, if_true, hw, key l h]
theorem comp_map1 {α : Type} {kc : Nat} {it : Mn.Env → Option (List D × Mn.Env)} {tg : D → Mn.Env → Option Mn.Env} {x : Mn.Env → Option (Cell × Mn.Env)} {own : List Nat} {ρ ρ1 ρ0 : Mn.Env} (l : List α) (enc : α → D) (v : α → D)
    (hit : it ρ = some (l.map enc, ρ1)) (hz : l.length < 16777216) (hw : wipeE ρ1 own = ρ0)
    (h : ∀ a ∈ l, ∃ ρ2, tg (enc a) ρ0 = some ρ2 ∧ wipeE ρ2 own = ρ0 ∧ (∃ k, x ρ2 = some ((k, v a), ρ2) ∧ fit kc (k, v a) = true)) : mComp kc it tg tYesM x own ρ = some ((kc + 1, .lst (l.map v)), ρ0) := by
  have := comp_map (t := tYesM) (kc := kc) (tg := tg) (x := x) (own := own) l enc (fun _ => true) v hit hz hw fun a ha => by
    obtain ⟨ρ2, e1, e2, e3⟩ := h a ha
    exact ⟨ρ2, e1, rfl, e2, fun _ => e3⟩
  rw [this, List.filter_eq_self.mpr fun _ _ => rfl]
/-- .. of which none is taken -/
theorem comp_none {α : Type} {kc : Nat} {it : Mn.Env → Option (List D × Mn.Env)} {tg : D → Mn.Env → Option Mn.Env} {t : Mn.Env → Option (Bool × Mn.Env)} {x : Mn.Env → Option (Cell × Mn.Env)} {own : List Nat} {ρ ρ1 ρ0 : Mn.Env} (l : List α) (enc : α → D)
    (hit : it ρ = some (l.map enc, ρ1)) (hz : l.length < 16777216) (hw : wipeE ρ1 own = ρ0)
    (h : ∀ a ∈ l, ∃ ρ2, tg (enc a) ρ0 = some ρ2 ∧ t ρ2 = some (false, ρ2) ∧ wipeE ρ2 own = ρ0) : mComp kc it tg t x own ρ = some ((kc + 1, .lst []), ρ0) := by
  have := comp_map (kc := kc) (x := x) (t := t) l enc (fun _ => false) enc hit hz hw fun a ha => by
    obtain ⟨ρ2, e1, e2, e3⟩ := h a ha
    exact ⟨ρ2, e1, e2, e3, fun h => nomatch h⟩
  rw [this]
  have e : l.filter (fun _ => false) = [] := by
    rw [List.filter_eq_nil_iff]
    simp
  rw [e]
  rfl
theorem enumD_map {α : Type} (enc : α → D) : ∀ (l : List α) (k : Nat), enumD k (l.map enc) = (l.zipIdx k).map fun p => .tup [.int (p.2 : Nat), enc p.1]
  | [], _ => rfl
  | a :: l, k => by rw [List.map_cons, enumD, enumD_map enc l, List.zipIdx_cons, List.map_cons]
theorem zipD_map {α β : Type} (e : α → D) (f : β → D) : ∀ (l : List α) (m : List β), zipD (l.map e) (m.map f) = (l.zip m).map fun p => .tup [e p.1, f p.2]
  | [], _ => by simp [zipD]
  | _ :: _, [] => by simp [zipD]
  | a :: l, b :: m => by rw [List.map_cons, List.map_cons, zipD, zipD_map e f l m, List.zip_cons_cons, List.map_cons]
/-! ### numbers, lists of numbers, lists of these -/
theorem toPL_mapI : ∀ l : List Int, toPL (l.map D.int) = some (l.map PyData.int)
  | [] => rfl
  | a :: l => by simp [toPL, toP, toPL_mapI l]
theorem toPL_mapL {α : Type} (e : α → D) (f : α → PyData) : ∀ l : List α, (∀ a ∈ l, toP (e a) = some (f a)) → toPL (l.map e) = some (l.map f)
  | [], _ => rfl
  | a :: l, h => by simp [toPL, h a List.mem_cons_self, toPL_mapL e f l fun b hb => h b (List.mem_cons_of_mem _ hb)]
theorem toP_IL (l : List Int) : toP (.lst (l.map D.int)) = some (.list (l.map PyData.int)) := by simp [toP, toPL_mapI]
theorem toP_IM (l : List (List Int)) : toP (.lst (l.map fun r => .lst (r.map D.int))) = some (.list (l.map fun r => .list (r.map PyData.int))) := by
  simp [toP, toPL_mapL (fun r : List Int => D.lst (r.map D.int)) (fun r => PyData.list (r.map PyData.int)) l fun r _ => toP_IL r]
theorem eqv_IL : ∀ a b : List Int, PyData.eqvAll (a.map PyData.int) (b.map PyData.int) = decide (a = b)
  | [], [] => by simp [PyData.eqvAll]
  | [], _ :: _ => by simp [PyData.eqvAll]
  | _ :: _, [] => by simp [PyData.eqvAll]
  | x :: a, y :: b => by
    rw [List.map_cons, List.map_cons]
    simp only [PyData.eqvAll, PyData.eqv, eqv_IL a b, List.cons.injEq]
    by_cases h : x = y <;> simp [h]
theorem eqv_IM : ∀ a b : List (List Int), PyData.eqvAll (a.map fun r => .list (r.map PyData.int)) (b.map fun r => .list (r.map PyData.int)) = decide (a = b)
  | [], [] => by simp [PyData.eqvAll]
  | [], _ :: _ => by simp [PyData.eqvAll]
  | _ :: _, [] => by simp [PyData.eqvAll]
  | x :: a, y :: b => by
    rw [List.map_cons, List.map_cons]
    simp only [PyData.eqvAll, PyData.eqv, eqv_IM a b, eqv_IL x y, List.cons.injEq]
    by_cases h : x = y <;> simp [h]
theorem shaped_I (i : Int) : SeqAt.shaped (.int i) = true := by simp [SeqAt.shaped, PyData.canLay0, PyData.depth]
theorem canLay_IL : ∀ l : List Int, PyData.canLayAll0 (l.map PyData.int) = true
  | [] => by simp [PyData.canLayAll0]
  | a :: l => by simp [PyData.canLayAll0, PyData.canLay0, canLay_IL l]
theorem depth_IL : ∀ l : List Int, PyData.depthAll (l.map PyData.int) = 0
  | [] => by simp [PyData.depthAll]
  | a :: l => by simp [PyData.depthAll, PyData.depth, depth_IL l]
theorem shaped_IL (l : List Int) : SeqAt.shaped (.list (l.map PyData.int)) = true := by simp [SeqAt.shaped, PyData.canLay0, PyData.depth, canLay_IL, depth_IL]
theorem canLay_IM : ∀ l : List (List Int), PyData.canLayAll0 (l.map fun r => .list (r.map PyData.int)) = true
  | [] => by simp [PyData.canLayAll0]
  | a :: l => by simp [PyData.canLayAll0, PyData.canLay0, canLay_IM l, canLay_IL]
theorem depth_IM : ∀ l : List (List Int), PyData.depthAll (l.map fun r => .list (r.map PyData.int)) ≤ 1
  | [] => by simp [PyData.depthAll]
  | a :: l => by
    have := depth_IM l
    simp [PyData.depthAll, PyData.depth, depth_IL]
    omega
theorem shaped_IM (l : List (List Int)) : SeqAt.shaped (.list (l.map fun r => .list (r.map PyData.int))) = true := by
  have := depth_IM l
  simp [SeqAt.shaped, PyData.canLay0, PyData.depth, canLay_IM]
  omega
@[simp] theorem eq_I (a b : Int) : dEq (.int a) (.int b) = some (.bl (decide (a = b))) := by
  simp [dEq, toP, shaped_I, PyData.eqv]
  by_cases h : a = b <;> simp [h]
@[simp] theorem ne_I (a b : Int) : dNe (.int a) (.int b) = some (.bl (!decide (a = b))) := by
  simp [dNe, toP, shaped_I, PyData.eqv]
  by_cases h : a = b <;> simp [h]
theorem eq_IL (a b : List Int) : dEq (.lst (a.map D.int)) (.lst (b.map D.int)) = some (.bl (decide (a = b))) := by
  simp [dEq, toP_IL, shaped_IL, PyData.eqv, eqv_IL]
theorem ne_IL (a b : List Int) : dNe (.lst (a.map D.int)) (.lst (b.map D.int)) = some (.bl (!decide (a = b))) := by
  simp [dNe, toP_IL, shaped_IL, PyData.eqv, eqv_IL]
theorem eq_IM (a b : List (List Int)) : dEq (.lst (a.map fun r => .lst (r.map D.int))) (.lst (b.map fun r => .lst (r.map D.int))) = some (.bl (decide (a = b))) := by
  simp [dEq, toP_IM, shaped_IM, PyData.eqv, eqv_IM]
theorem ne_IM (a b : List (List Int)) : dNe (.lst (a.map fun r => .lst (r.map D.int))) (.lst (b.map fun r => .lst (r.map D.int))) = some (.bl (!decide (a = b))) := by
  simp [dNe, toP_IM, shaped_IM, PyData.eqv, eqv_IM]
/-- .. == [] -/
theorem eq_IL0 (a : List Int) : dEq (.lst (a.map D.int)) (.lst []) = some (.bl (decide (a = []))) := eq_IL a []
theorem ne_IL0 (a : List Int) : dNe (.lst (a.map D.int)) (.lst []) = some (.bl (!decide (a = []))) := ne_IL a []
theorem eq_IM0 (a : List (List Int)) : dEq (.lst (a.map fun r => .lst (r.map D.int))) (.lst []) = some (.bl (decide (a = []))) := eq_IM a []
theorem ne_IM0 (a : List (List Int)) : dNe (.lst (a.map fun r => .lst (r.map D.int))) (.lst []) = some (.bl (!decide (a = []))) := ne_IM a []
/-! ### square matrices by their items -/
def mat (n : Nat) (f : Nat → Nat → Int) : List (List Int) := (List.range n).map fun i => (List.range n).map fun j => f i j
@[simp] theorem mat_length (n : Nat) (f : Nat → Nat → Int) : (mat n f).length = n := by simp [mat]
theorem mat_get {n : Nat} {f : Nat → Nat → Int} {i : Nat} (h : i < n) : (mat n f)[i]? = some ((List.range n).map fun j => f i j) := by simp [mat, h]
theorem mat_row {n : Nat} {f : Nat → Nat → Int} {r : List Int} (h : r ∈ mat n f) : r.length = n := by
  simp [mat] at h
  obtain ⟨i, _, rfl⟩ := h
  simp
theorem mat_inj {n : Nat} {f g : Nat → Nat → Int} : mat n f = mat n g ↔ ∀ i, i < n → ∀ j, j < n → f i j = g i j := by
  constructor
  · intro h i hi j hj
    have h1 := mat_get (f := f) hi
    rw [h, mat_get hi] at h1
    have h2 : ((List.range n).map fun j => g i j)[j]? = ((List.range n).map fun j => f i j)[j]? := by rw [Option.some.inj h1]
    simpa [hj] using h2.symm
  · intro h
    unfold mat
    refine List.map_congr_left fun i hi => List.map_congr_left fun j hj => h i (List.mem_range.mp hi) j (List.mem_range.mp hj)
theorem enumD_get' : ∀ (l : List D) (k i : Nat), (enumD k l)[i]? = l[i]?.map fun x => .tup [.int ((k + i : Nat) : Int), x]
  | [], _, _ => by simp [enumD]
  | a :: l, k, 0 => by simp [enumD]
  | a :: l, k, i + 1 => by
    rw [enumD, List.getElem?_cons_succ, enumD_get' l (k + 1) i, List.getElem?_cons_succ, show k + 1 + i = k + (i + 1) by omega]
theorem enum_range (n : Nat) (e : Nat → D) : enumD 0 ((List.range n).map e) = (List.range n).map fun i => .tup [.int (i : Nat), e i] := by
  refine List.ext_getElem? fun i => ?_
  rw [enumD_get']
  by_cases h : i < n <;> simp [h]
theorem zip_range (n : Nat) (e f : Nat → D) : zipD ((List.range n).map e) ((List.range n).map f) = (List.range n).map fun i => .tup [e i, f i] := by
  rw [zipD_map]
  refine List.ext_getElem? fun i => ?_
  by_cases h : i < n
  · simp [h, List.getElem?_zip_eq_some.mpr]
  · simp [h]
/-- small numbers -/
theorem sm_mul {x y : Int} {a b : Nat} (h1 : x.natAbs < 2 ^ a) (h2 : y.natAbs < 2 ^ b) : (x * y).natAbs < 2 ^ (a + b) := by
  rw [Int.natAbs_mul, Nat.pow_add]
  exact Nat.mul_lt_mul'' h1 h2
theorem sm_up {x : Int} {a b : Nat} (h : x.natAbs < 2 ^ a) (hab : a ≤ b) : x.natAbs < 2 ^ b := Nat.lt_of_lt_of_le h (Nat.pow_le_pow_right (by decide) hab)
theorem sm_add {x y : Int} {a : Nat} (h1 : x.natAbs < 2 ^ a) (h2 : y.natAbs < 2 ^ a) : (x + y).natAbs < 2 ^ (a + 1) := by
  rw [Nat.pow_succ]
  generalize 2 ^ a = A at *
  omega
theorem sm_sum {g : Nat → Int} {a : Nat} : ∀ n : Nat, (∀ i, i < n → (g i).natAbs < 2 ^ a) → n ≤ 8 → (((List.range n).map g).sum).natAbs < 2 ^ (a + 4) := by
  have key : ∀ n : Nat, (∀ i, i < n → (g i).natAbs < 2 ^ a) → (((List.range n).map g).sum).natAbs ≤ n * 2 ^ a := by
    intro n
    induction n with
    | zero => intro _; simp
    | succ n ih =>
      intro h
      have h1 := ih fun i hi => h i (by omega)
      have h2 := h n (by omega)
      rw [List.range_succ, List.map_append, List.sum_append, List.map_singleton, List.sum_singleton, Nat.succ_mul]
      generalize n * 2 ^ a = B at h1
      omega
  intro n h hn
  have := key n h
  rw [Nat.pow_add]
  have h2 : n * 2 ^ a ≤ 8 * 2 ^ a := Nat.mul_le_mul_right _ hn
  have h3 : 0 < 2 ^ a := Nat.pow_pos (by decide)
  omega
theorem any_I (a : Int) : ∀ l : List Int, ((l.map PyData.int).any fun z => PyData.eqv z (.int a)) = decide (a ∈ l)
  | [] => by simp
  | b :: l => by
    rw [List.map_cons, List.any_cons, any_I a l]
    simp only [PyData.eqv, List.mem_cons]
    by_cases h : b = a
    · simp [h]
    · have h' : ¬ a = b := fun e => h e.symm
      simp [h, h']
@[simp] theorem in_IL (a : Int) (l : List Int) : dInG (.int a) (.lst (l.map D.int)) = some (.bl (decide (a ∈ l))) := by
  simp only [dInG, seqP, toP, toPL_mapI, shaped_I, shaped_IL, any_I, Bool.and_self, if_true]
@[simp] theorem notIn_IL (a : Int) (l : List Int) : dNotInG (.int a) (.lst (l.map D.int)) = some (.bl (!decide (a ∈ l))) := by
  simp only [dNotInG, seqP, toP, toPL_mapI, shaped_I, shaped_IL, any_I, Bool.and_self, if_true]
theorem rng_up (p m : Nat) : rng (p : Int) 1 m = ((List.range m).map fun i => p + i).map fun j : Nat => D.int (j : Int) := by
  unfold rng
  rw [List.map_map]
  refine List.map_congr_left fun i _ => ?_
  simp
theorem rng_down (n : Nat) : rng ((n : Int) - 1) (-1) n = (List.range n).reverse.map fun j : Nat => D.int (j : Int) := by
  refine List.ext_getElem? fun i => ?_
  unfold rng
  by_cases h : i < n
  · rw [List.getElem?_map, List.getElem?_map, List.getElem?_range h, List.getElem?_reverse (by simpa using h)]
    have : n - 1 - i < n := by omega
    simp [this]
    omega
  · rw [List.getElem?_eq_none (by simpa using h), List.getElem?_eq_none (by simpa using h)]
theorem rep_flat (m : Nat) (d : D) : (List.replicate m [d]).flatten = List.replicate m d := by
  induction m with
  | zero => rfl
  | succ m ih => rw [List.replicate_succ, List.flatten_cons, ih, List.replicate_succ]; rfl
theorem okIx_nat {n : Nat} (h : n < 2 ^ 62) : okIx (n : Int) = true := okIx_mk (by omega)
end Mn

namespace Mn
open PySem PySem.Spec PyProof.Rows L2
/-! ### loops over what is known item by item -/
theorem loopL {α : Type} {tg : D → Mn.Env → Option Mn.Env} {body : Mn.Env → Option Out} (l : List α) (enc : α → D) (Inv : Nat → Mn.Env → Prop) {ρ : Mn.Env} (h0 : Inv 0 ρ)
    (st : ∀ (i : Nat) (a : α) (ρ : Mn.Env), l[i]? = some a → Inv i ρ → ∃ ρ1 ρ2, tg (enc a) ρ = some ρ1 ∧ body ρ1 = some (.nx ρ2) ∧ Inv (i + 1) ρ2) : ∃ ρ', mLoop tg body (l.map enc) ρ = some (.nx ρ') ∧ Inv l.length ρ' := by
  obtain ⟨ρ', e, h⟩ := mLoop_inv (tg := tg) (body := body) Inv (l.map enc) 0 ρ h0 fun i d ρ hd hi => by
    rw [List.getElem?_map] at hd
    rw [Nat.zero_add] at hi ⊢
    cases q : l[i]? with
    | none => rw [q] at hd; cases hd
    | some a => rw [q] at hd; cases hd; exact st i a ρ q hi
  exact ⟨ρ', e, by simpa using h⟩
theorem loopR {tg : D → Mn.Env → Option Mn.Env} {body : Mn.Env → Option Out} (n : Nat) (Inv : Nat → Mn.Env → Prop) {ρ : Mn.Env} (h0 : Inv 0 ρ)
    (st : ∀ (i : Nat) (ρ : Mn.Env), i < n → Inv i ρ → ∃ ρ1 ρ2, tg (.int (i : Int)) ρ = some ρ1 ∧ body ρ1 = some (.nx ρ2) ∧ Inv (i + 1) ρ2) : ∃ ρ', mLoop tg body (rng 0 1 n) ρ = some (.nx ρ') ∧ Inv n ρ' := by
  rw [rng0]
  obtain ⟨ρ', e, h⟩ := loopL (tg := tg) (body := body) (List.range n) (fun i : Nat => .int (i : Int)) Inv h0 fun i a ρ ha hi => by
    by_cases q : i < n
    · rw [List.getElem?_range q] at ha
      cases ha
      exact st i ρ q hi
    · rw [List.getElem?_eq_none (by simpa using q)] at ha; cases ha
  exact ⟨ρ', e, by simpa using h⟩
theorem loopR2 {tg : D → Mn.Env → Option Mn.Env} {body : Mn.Env → Option Out} (p n : Nat) (Inv : Nat → Mn.Env → Prop) {ρ : Mn.Env} (h0 : Inv p ρ) (hp : p ≤ n)
    (st : ∀ (i : Nat) (ρ : Mn.Env), p ≤ i → i < n → Inv i ρ → ∃ ρ1 ρ2, tg (.int (i : Int)) ρ = some ρ1 ∧ body ρ1 = some (.nx ρ2) ∧ Inv (i + 1) ρ2) : ∃ ρ', mLoop tg body (rng (p : Int) 1 (n - p)) ρ = some (.nx ρ') ∧ Inv n ρ' := by
  rw [rng_up]
  obtain ⟨ρ', e, h⟩ := loopL (tg := tg) (body := body) ((List.range (n - p)).map fun i => p + i) (fun i : Nat => .int (i : Int)) (fun i => Inv (p + i)) h0 fun i a ρ ha hi => by
    rw [List.getElem?_map] at ha
    by_cases q : i < n - p
    · rw [List.getElem?_range q] at ha
      cases ha
      exact st (p + i) ρ (by omega) (by omega) hi
    · rw [List.getElem?_eq_none (by simpa using q)] at ha; cases ha
  refine ⟨ρ', e, ?_⟩
  simp only [List.length_map, List.length_range] at h
  rwa [show p + (n - p) = n by omega] at h
/-- a comprehension over a range, with a changing frame -/
theorem compS {α : Type} {kc : Nat} {it : Mn.Env → Option (List D × Mn.Env)} {tg : D → Mn.Env → Option Mn.Env} {x : Mn.Env → Option (Cell × Mn.Env)} {own : List Nat} (n : Nat) (enc : α → D) (Inv : Nat → Mn.Env → List α → Prop) {ρ ρ1 : Mn.Env}
    (hit : it ρ = some (rng 0 1 n, ρ1)) (hn : n < 16777216) (h0 : Inv 0 (wipeE ρ1 own) [])
    (st : ∀ (i : Nat) (ρ : Mn.Env) (acc : List α), i < n → Inv i ρ acc → ∃ ρ1 a k ρ2, tg (.int (i : Int)) ρ = some ρ1 ∧ x ρ1 = some ((k, enc a), ρ2) ∧ fit kc (k, enc a) = true ∧ Inv (i + 1) (wipeE ρ2 own) (acc ++ [a])) :
    ∃ l ρ', mComp kc it tg tYesM x own ρ = some ((kc + 1, .lst (l.map enc)), ρ') ∧ l.length = n ∧ Inv n ρ' l := by
  obtain ⟨rs, ρ', e, l, h1, h2, h3⟩ := mCompL_inv (kc := kc) (tg := tg) (t := tYesM) (x := x) (own := own) (fun i ρ acc => ∃ l : List α, acc = l.map enc ∧ l.length = i ∧ Inv i ρ l) (rng 0 1 n) 0 (wipeE ρ1 own) [] ⟨[], rfl, rfl, h0⟩ (by
    rintro i d ρ acc hd ⟨l, rfl, hl, hi⟩
    have ⟨hin, hdi⟩ := rng_get hd
    rw [Int.zero_add, Int.mul_one] at hdi
    subst hdi
    rw [Nat.zero_add] at hi hl ⊢
    obtain ⟨ρ1, a, k, ρ2, e1, e2, e3, e4⟩ := st i ρ l hin hi
    exact ⟨ρ1, true, ρ1, e1, rfl, (nomatch ·), fun _ => ⟨_, ρ2, e2, e3, l ++ [a], by simp, by simp [hl], e4⟩⟩)
  rw [List.nil_append] at h1
  have hl : (rng 0 1 n).length = n := by simp [rng]
  rw [hl, Nat.zero_add] at h2 h3
  refine ⟨l, ρ', ?_, h2, h3⟩
  unfold mComp
  rw [hit]
  simp only [hl, lt_size, hn, if_true, e, h1]
/-! ### storing into a square -/
def upd (f : Nat → Nat → Int) (p a : Nat) (r : Int) : Nat → Nat → Int := fun i j => if i = p ∧ j = a then r else f i j
theorem mat_upd {n : Nat} {f : Nat → Nat → Int} {p a : Nat} {r : Int} (hp : p < n) : (mat n f).set p (((List.range n).map fun j => f p j).set a r) = mat n (upd f p a r) := by
  refine List.ext_getElem? fun i => ?_
  rw [List.getElem?_set]
  by_cases h : i < n
  · rw [mat_get h]
    by_cases h2 : p = i
    · subst h2
      simp only [if_true, mat_length, h]
      rw [mat_get h]
      congr 1
      refine List.ext_getElem? fun j => ?_
      rw [List.getElem?_set]
      by_cases h3 : j < n
      · by_cases h4 : a = j
        · subst h4; simp [h3, upd]
        · have h5 : ¬ j = a := fun e => h4 e.symm
          simp [h3, h4, h5, upd]
      · rw [List.getElem?_eq_none (l := (List.range n).map _) (by simpa using h3), List.getElem?_eq_none (l := (List.range n).map _) (by simpa using h3)]
        by_cases h4 : a = j
        · simp [h4, h3]
        · simp [h4]
    · have h5 : ¬ i = p := fun e => h2 e.symm
      simp [h2, mat_get h, upd, h5]
  · have h2 : ¬ p = i := by omega
    rw [if_neg h2, List.getElem?_eq_none (by simpa using h), List.getElem?_eq_none (by simpa using h)]
theorem ixN_nat {n i : Nat} (h : i < n) : ixN n (i : Int) = some i := by
  unfold ixN
  rw [if_pos (by omega), if_pos (by omega)]
  rfl
theorem set_mat {v n : Nat} {f : Nat → Nat → Int} {k p a kc : Nat} {gp ga : Mn.Env → Option D} {m : Mn.Env → Option (Cell × Mn.Env)} {ρ ρ1 : Mn.Env} {r : Int} (e1 : m ρ = some ((kc, .int r), ρ1)) (e2 : ρ1[v]? = some (some (k + 2, .lst ((mat n f).map fun r => .lst (r.map D.int))))) (e3 : gp ρ1 = some (.int (p : Int))) (e4 : ga ρ1 = some (.int (a : Int))) (hp : p < n) (ha : a < n) :
    sSet v (plIx v plNil gp) ga m ρ = some (.nx (ρ1.set v (some (k + 2, .lst ((mat n (upd f p a r)).map fun r => .lst (r.map D.int)))))) := by
  have g1 : (List.map (fun r => D.lst (r.map D.int)) (mat n f))[p]? = some (.lst (((List.range n).map fun j => f p j).map D.int)) := by rw [List.getElem?_map, mat_get hp]; rfl
  have a0 : plAt v plNil ρ1 = some ([], (k + 2, .lst ((mat n f).map fun r => .lst (r.map D.int))), .lst ((mat n f).map fun r => .lst (r.map D.int))) := by
    unfold plAt
    rw [e2]
    rfl
  have a1 : plIx v plNil gp ρ1 = some [p] := by
    unfold plIx
    rw [a0, e3]
    simp only [List.length_map, mat_length, ixN_nat hp]
    rfl
  have a2 : plAt v (plIx v plNil gp) ρ1 = some ([p], (k + 2, .lst ((mat n f).map fun r => .lst (r.map D.int))), .lst (((List.range n).map fun j => f p j).map D.int)) := by
    unfold plAt
    rw [e2, a1]
    simp only [D.at, g1]
    rw [if_pos (by simp)]
  have lenr : (((List.range n).map fun j => f p j).map D.int).length = n := by simp
  rw [e_sSet, e1]
  simp only [a2, e4]
  rw [lenr, ixN_nat ha]
  have hq : D.put (.lst ((mat n f).map fun r => .lst (r.map D.int))) [p] (.lst ((((List.range n).map fun j => f p j).map D.int).set a (.int r))) = .lst ((mat n (upd f p a r)).map fun r => .lst (r.map D.int)) := by
    unfold D.put
    rw [g1]
    simp only [D.put]
    rw [← mat_upd hp, ← List.map_set, ← List.map_set]
  simp only [hq]
  simp
end Mn

namespace Mn
open PySem PySem.Spec PyProof.Rows L2
/-! ### repr of numbers and lists: how long it is -/
theorem strOk_append {a b : Str} (h1 : PyData.strOk a = true) (h2 : PyData.strOk b = true) : PyData.strOk (a ++ b) = true := by
  unfold PyData.strOk at *
  show (a.cps ++ b.cps).all _ = true
  rw [Array.all_append, h1, h2]
  rfl
theorem strOk_ofString (s : String) : PyData.strOk (Str.ofString s) = true := by
  rw [Str.ofString_eq_toList]
  unfold PyData.strOk
  rw [List.all_toArray, List.all_eq_true]
  intro x hx
  rw [List.mem_map] at hx
  obtain ⟨c, _, rfl⟩ := hx
  have := c.valid
  unfold UInt32.isValidChar Nat.isValidChar at this
  have e : c.toNat = c.val.toNat := rfl
  exact decide_eq_true (by omega)
def ShB (p : PyData) (N : Nat) : Prop := p.showable = true ∧ p.hasDict = false ∧ p.shown.length ≤ N ∧ PyData.strOk p.shown = true
theorem ShB.up {p : PyData} {N M : Nat} (h : ShB p N) (hm : N ≤ M) : ShB p M := ⟨h.1, h.2.1, Nat.le_trans h.2.2.1 hm, h.2.2.2⟩
theorem ShB.int {i : Int} {k : Nat} (h : i.natAbs < 2 ^ k) (hk : 0 < k) (hk2 : k ≤ 1920) : ShB (.int i) (k + 1) := by
  have hl : i.natAbs.log2 < k := log2_lt h hk
  refine ⟨?_, by simp [PyData.hasDict], ?_, by simp only [PyData.shown]; exact strOk_ofString _⟩
  · simp only [PyData.showable, decide_eq_true_eq]
    omega
  · simp only [PyData.shown]
    show (Str.ofString (toString i)).length ≤ _
    rw [PySem.ofString_length]
    exact int_text_length_le hk hl
theorem textFrom_up : ∀ (ts : List Str) (k : Nat) (acc : Str) (N : Nat), (∀ t ∈ ts, t.length ≤ N) → (textFrom k acc ts).length ≤ acc.length + ts.length * (N + 2)
  | [], k, acc, N, _ => by show acc.length ≤ _; simp
  | t :: ts, k, acc, N, h => by
    have ih := textFrom_up ts (k + 1) (acc ++ (if k > 0 then ", " else "" : String) ++ t) N fun u hu => h u (List.mem_cons_of_mem _ hu)
    have e : (acc ++ (if k > 0 then ", " else "" : String) ++ t).length = acc.length + (if k > 0 then 2 else 0) + t.length := by
      rw [strLen_append, strLen_append]
      split <;> rfl
    have ht := h t List.mem_cons_self
    have d1 : (if k > 0 then 2 else 0 : Nat) ≤ 2 := by split <;> omega
    rw [e] at ih
    show (textFrom (k + 1) _ ts).length ≤ _
    rw [List.length_cons, Nat.succ_mul]
    generalize ts.length * (N + 2) = z at *
    omega
theorem textFrom_ok : ∀ (ts : List Str) (k : Nat) (acc : Str), PyData.strOk acc = true → (∀ t ∈ ts, PyData.strOk t = true) → PyData.strOk (textFrom k acc ts) = true
  | [], k, acc, h, _ => h
  | t :: ts, k, acc, h, ht => textFrom_ok ts (k + 1) _ (strOk_append (strOk_append h (strOk_ofString _)) (ht t (by simp))) fun u hu => ht u (List.mem_cons_of_mem _ hu)
theorem shownAll_mem : ∀ {ps : List PyData} {t : Str}, t ∈ PyData.shownAll ps → ∃ p ∈ ps, t = p.shown
  | [], _, h => by simp [PyData.shownAll] at h
  | p :: ps, t, h => by
    simp only [PyData.shownAll, List.mem_cons] at h
    rcases h with rfl | h
    · exact ⟨p, by simp, rfl⟩
    · obtain ⟨q, hq, e⟩ := shownAll_mem h
      exact ⟨q, by simp [hq], e⟩
theorem shownAll_length : ∀ ps : List PyData, (PyData.shownAll ps).length = ps.length
  | [] => by simp [PyData.shownAll]
  | p :: ps => by simp [PyData.shownAll, shownAll_length ps]
theorem showableAll_of : ∀ {ps : List PyData}, (∀ p ∈ ps, p.showable = true) → PyData.showableAll ps = true
  | [], _ => by simp [PyData.showableAll]
  | p :: ps, h => by simp [PyData.showableAll, h p (by simp), showableAll_of fun q hq => h q (List.mem_cons_of_mem _ hq)]
theorem hasDictAll_of : ∀ {ps : List PyData}, (∀ p ∈ ps, p.hasDict = false) → PyData.hasDictAll ps = false
  | [], _ => by simp [PyData.hasDictAll]
  | p :: ps, h => by simp [PyData.hasDictAll, h p (by simp), hasDictAll_of fun q hq => h q (List.mem_cons_of_mem _ hq)]
theorem ShB.list {ps : List PyData} {N : Nat} (h : ∀ p ∈ ps, ShB p N) : ShB (.list ps) (2 + ps.length * (N + 2)) := by
  refine ⟨by simp only [PyData.showable]; exact showableAll_of fun p hp => (h p hp).1, by simp only [PyData.hasDict]; exact hasDictAll_of fun p hp => (h p hp).2.1, ?_, by
    simp only [PyData.shown]
    unfold listText
    refine strOk_append (textFrom_ok _ _ _ (strOk_ofString _) fun t ht => ?_) (strOk_ofString _)
    obtain ⟨p, hp, rfl⟩ := shownAll_mem ht
    exact (h p hp).2.2.2⟩
  simp only [PyData.shown]
  unfold listText
  have := textFrom_up (PyData.shownAll ps) 0 "[" N fun t ht => by
    obtain ⟨p, hp, rfl⟩ := shownAll_mem ht
    exact (h p hp).2.2.1
  rw [shownAll_length] at this
  rw [strLen_append]
  have e1 : ((("[" : String) : Str)).length = 1 := rfl
  have e2 : ((("]" : String) : Str)).length = 1 := rfl
  rw [e1] at this
  rw [e2]
  generalize ps.length * (N + 2) = z at *
  omega
theorem okRepr_of {p : PyData} {N : Nat} (h : ShB p N) (hN : N ≤ 16777216) (hd : p.depth < 64) : okRepr p = true := by
  unfold okRepr
  rw [h.1, h.2.1]
  have h3 := h.2.2.1
  simp only [sizeLine_eq]
  simp
  exact ⟨hd, by omega⟩
/-- repr of a list of small numbers -/
theorem ShB.il {l : List Int} {k m : Nat} (h : ∀ x ∈ l, x.natAbs < 2 ^ k) (hk : 0 < k) (hk2 : k ≤ 1920) (hm : l.length ≤ m) : ShB (.list (l.map PyData.int)) (2 + m * (k + 3)) := by
  refine (ShB.list (N := k + 1) fun p hp => ?_).up ?_
  · rw [List.mem_map] at hp
    obtain ⟨x, hx, rfl⟩ := hp
    exact ShB.int (h x hx) hk hk2
  · rw [List.length_map]
    have : l.length * (k + 3) ≤ m * (k + 3) := Nat.mul_le_mul_right _ hm
    exact Nat.add_le_add_left this 2
theorem ShB.im {l : List (List Int)} {k m : Nat} (h : ∀ r ∈ l, r.length ≤ m ∧ ∀ x ∈ r, x.natAbs < 2 ^ k) (hk : 0 < k) (hk2 : k ≤ 1920) (hm : l.length ≤ m) : ShB (.list (l.map fun r => .list (r.map PyData.int))) (2 + m * (m * (k + 3) + 4)) := by
  refine (ShB.list (N := 2 + m * (k + 3)) fun p hp => ?_).up ?_
  · rw [List.mem_map] at hp
    obtain ⟨r, hr, rfl⟩ := hp
    exact ShB.il (h r hr).2 hk hk2 (h r hr).1
  · rw [List.length_map]
    have : l.length * (m * (k + 3) + 4) ≤ m * (m * (k + 3) + 4) := Nat.mul_le_mul_right _ hm
    have e : 2 + m * (k + 3) + 2 = m * (k + 3) + 4 := by omega
    rw [e]
    exact Nat.add_le_add_left this 2
/-- what repr gives, for a list of numbers -/
noncomputable def rpIL (l : List Int) : Str := (PyData.list (l.map PyData.int)).shown
theorem repr_IL {l : List Int} {k : Nat} (h : ∀ x ∈ l, x.natAbs < 2 ^ k) (hk : 0 < k) (hk2 : k ≤ 1920) (hm : l.length ≤ 1000) : dRepr [.lst (l.map D.int)] = some (.str (rpIL l)) ∧ PyData.strOk (rpIL l) = true := by
  have := okRepr_of (ShB.il (m := 1000) h hk hk2 hm) (by omega) (by simp [PyData.depth, depth_IL])
  refine ⟨?_, (ShB.il (m := 1000) h hk hk2 hm).2.2.2⟩
  simp only [dRepr, toP_IL, this, if_true]
  rfl
theorem ne_S {a : Str} (h : PyData.strOk a = true) : dNe (.str a) (.str a) = some (.bl false) := by
  simp [dNe, toP, SeqAt.shaped, PyData.canLay0, PyData.depth, PyData.eqv, h]
theorem eq_S {a : Str} (h : PyData.strOk a = true) : dEq (.str a) (.str a) = some (.bl true) := by
  simp [dEq, toP, SeqAt.shaped, PyData.canLay0, PyData.depth, PyData.eqv, h]
end Mn

namespace Mn
open PySem PySem.Spec PyProof.Rows L2
/-! ### x.remove(e) -/
section
variable {K : PySem.W.Frag} {mg : Str → Option Value} {W W' H H' B : Hp} {vs : List (Option V)} {cs : List (Option Cell)} {v : V} {k : Nat} {d : D} {c : Cell}
theorem OwnL.erase {P : D → V → Fp → Prop} : ∀ {l : List D} {vs : List V} {G : Fp} (j : Nat), OwnL P l vs G → ∃ G', OwnL P (l.eraseIdx j) (vs.eraseIdx j) G' ∧ ∀ b, G' b ≤ G b
  | [], _, G, j, h => by obtain ⟨rfl, h0⟩ := h; exact ⟨G, by simp; exact ⟨rfl, h0⟩, fun _ => Nat.le_refl _⟩
  | _ :: _, _, G, 0, h => by
    obtain ⟨v, r, F, G1, rfl, h1, h2, h3⟩ := h
    exact ⟨G1, h2, fun b => by have := h3 b; omega⟩
  | _ :: _, _, G, j + 1, h => by
    obtain ⟨v, r, F, G1, rfl, h1, h2, h3⟩ := h
    obtain ⟨G2, p, q⟩ := OwnL.erase j h2
    exact ⟨_, ⟨v, _, F, G2, rfl, h1, p, fun _ => rfl⟩, fun b => by have := h3 b; have := q b; show F b + G2 b ≤ G b; omega⟩
theorem R.del (r : R K mg B W H (some v :: vs) (some c :: cs)) {i j : Nat} {l : List D} (e : cs[i]? = some (some (k + 1, .lst l))) :
    ∃ (p : Addr) (xs : List V), vs[i]? = some (some (.ref p)) ∧ H p = some (.lst xs) ∧ RepL K mg H l xs ∧ Rep K mg H c.2 v ∧ R K mg B W (L2.upd H p (.lst (xs.eraseIdx j))) vs (cs.set i (some (k + 1, .lst (l.eraseIdx j)))) := by
  obtain ⟨T, ⟨Fh, Gt, ⟨hv, ehv, hown⟩, hcells, hsum⟩, hT⟩ := r.ex
  cases ehv
  obtain ⟨ov, F1, G, ev, ⟨u, eu, ho⟩, hs, put⟩ := hcells.focus e
  obtain ⟨p, xs, G1, rfl, h1, h2, h3⟩ := ho
  obtain ⟨G2, e2, le2⟩ := OwnL.erase j h2
  have tot : ∀ b, T b = Fh b + ((if b = p then 1 else 0) + G1 b + G b) := fun b => by have := hsum b; have := hs b; have := h3 b; omega
  have hp : G p = 0 ∧ G1 p = 0 ∧ Fh p = 0 := by have := tot p; have := (hT p).1; rw [if_pos rfl] at *; omega
  have up : ∀ {a : Addr} {o : HO}, a ≠ p → L2.upd H p o a = H a := fun h => upd_ne h
  have c' := put W (L2.upd H p (.lst (xs.eraseIdx j))) (some (.ref p)) (some (k + 1, .lst (l.eraseIdx j))) (fun b => (if b = p then 1 else 0) + G2 b) (Same.refl W) (fun a ha => up fun z => by subst z; omega)
    ⟨.ref p, rfl, p, xs.eraseIdx j, _, rfl, upd_same, e2.imp fun d _ v F hF hO => Own.mono (Same.refl W) k d v F hO fun a ha => up fun z => by subst z; have := hF a; have := le2 a; omega, fun b => rfl⟩
  subst eu
  rw [set_self ev] at c'
  have nW : ∀ {b : Addr} {o : HO}, W b = some o → b ≠ p := fun {b o} q z => by
    subst z
    have := ((hT b).2 (by have := tot b; rw [if_pos rfl] at this; omega)).1
    rw [q] at this; cases this
  have nB : ∀ {b : Addr} {o : HO}, B b = some o → b ≠ p := fun {b o} q z => by
    subst z
    have := ((hT b).2 (by have := tot b; rw [if_pos rfl] at this; omega)).2
    rw [q] at this; cases this
  refine ⟨p, xs, ev, h1, h2.toRep fun d _ v F _ hO => Own.rep r.sw k d v F hO fun _ _ => rfl, Own.rep r.sw _ _ _ _ hown fun _ _ => rfl,
    fun b o q => by rw [up (nW q)]; exact r.sw b o q, fun b o q => by rw [up (nB q)]; exact r.sb b o q, _, c', fun b => ?_⟩
  have := tot b
  have := (hT b).1
  have := le2 b
  exact ⟨by show (if b = p then 1 else 0) + G2 b + G b ≤ 1; omega, fun hb => (hT b).2 (by have : (if b = p then 1 else 0) + G2 b + G b ≠ 0 := hb; omega)⟩
end
section
variable {X : Cx}
def rRemD (K : PySem.W.Frag) : V → List V → Hp → VK → Prop := fun x vs H Q => ∃ (l : Addr) (xs : List V) (y : V) (ps : List PyData) (p : PyData) (j : Nat), x = .ref l ∧ vs = [y] ∧ H l = some (.lst xs) ∧ DpAll K H xs ps ∧ Dp K H y p ∧
  SeqAt.shaped (.list ps) = true ∧ SeqAt.shaped p = true ∧ SeqAt.dataPlace ps p = some j ∧ Q .non (L2.upd H l (.lst (xs.eraseIdx j)))
theorem mt_removeD (hu : X.A.units + 65 < cLine) : MtM X "list.remove" (rRemD X.K) := by
  intro pins s σ H x vs v us Q I rx rv h
  obtain ⟨l, xs, y, ps, p, j, rfl, rfl, hH, hx, hy, sl, sp, hj, q⟩ := h
  cases rx
  obtain ⟨u, rfl, ru⟩ := rv.one
  obtain ⟨z, its, n, r, hl, e⟩ := I.lstM hH
  obtain ⟨bs, r1⟩ := Dp.reads I p y u hy ru
  obtain ⟨as, r2⟩ := Dp.readsAll I ps _ its hx r
  have hxs : PyData.canLayAll0 ps = true := SeqAt.canLay_of_shaped sl
  refine SeqAt.remove_list_data (vs := its.toArray) (x := u) (j := j) ⟨_, e, rfl, n, rfl⟩ r2 r1 (PyData.plainAll_of_canLay0 _ hxs) (PyData.plain_of_canLay0 _ (SeqAt.canLay_of_shaped sp)) (room_in_shaped sp hu) hj (by rw [List.size_toArray]; omega) ?_
  refine ⟨.non, _, I.lset (its' := its.eraseIdx j) (t' := s.toks) hH e (by simp) (r.eraseIdx j) (Nat.le_trans (len_erase _ _) z), rfl, q⟩
end
/-- the first equal one is taken out -/
def dRemAt (l : List D) (d : D) : Option Nat := match toPL l, toP d with
  | some ps, some p => if SeqAt.shaped p && SeqAt.shaped (.list ps) then SeqAt.dataPlace ps p else none
  | _, _ => none
def sRem0 (i : Nat) (x : Env → Option (Cell × Env)) : Env → Option Out := fun ρ => match pVar i ρ, x ρ with
  | some (.lst _), some (c, ρ1) => (match ρ1[i]? with
    | some (some (k + 1, .lst l)) => (match dRemAt l c.2 with
      | some j => some (.nx (ρ1.set i (some (k + 1, .lst (l.eraseIdx j)))))
      | none => none)
    | _ => none)
  | _, _ => none
section
variable {X : Cx} {a e : Expr} {pos : Pos} {i : Nat} {x : Env → Option (Cell × Env)} {pr : List Nat}
theorem s_rem0 {apos cpos : Pos} (hu : X.A.units + 65 < cLine) (ho : PE X a (tVar i)) (he : PE X e (gS X x))
    (hbase : attributeBase a "remove" X.env (eval a X.env) = eval a X.env := by rfl)
    (hfew : ((backTo cpos (starEach [e] X.env)).all (fun x => !x.1) && (backToKw cpos (keywordEach [] X.env)).all (fun x => x.1.isSome)
      && decide ([e].length + ([] : List Keyword).length + (if ([] : List Keyword).isEmpty then 0 else 1) < 30)) = true := by rfl)
    (hline : (apos.endLine == cpos.line) = true := by rfl) (hs : starEach [e] X.env = (false, eval e X.env) :: starEach [] X.env := by rfl) (hplain : (backTo cpos (starEach [] X.env)).any (·.1) = false := by rfl)
    (hsw : swapsWith (.Call (.Attribute a "remove" apos) [e] [] cpos) none pos.line X.env = pure false := by rfl) :
    PS X (.Expr (.Call (.Attribute a "remove" apos) [e] [] cpos) pos) (sS X pr (sRem0 i x)) :=
  PSi (ps_expr (pe_bm PySem.F.plainAttrs_list PySem.F.slot_list_remove PySem.F.type_list_remove (mt_removeD hu) ho (pa_cons he pa_nil hs) hbase hfew hline hs hplain) hsw) fun Dn σ H ⟨B, W, ρ, o, r, em, q⟩ => by
    unfold sRem0 at em
    split at em
    · rename_i l0 c ρ1 ev0 ex
      split at em
      · rename_i k l ec
        split at em
        · rename_i j hj
          cases em
          have s0 : Sta X σ H ρ := ⟨B, W, [], [], r, rfl⟩
          obtain ⟨v0, ev, a0, xs0, e0, h0, _⟩ := s0.var ev0
          refine ⟨v0, ev, ?_, B, W, [], [], ρ, c, ρ1, r, rfl, ex, fun W1 H1 v g1 r1 => ?_⟩
          · rw [e0]; exact .inl ⟨rfl, xs0, h0.sq⟩
          · obtain ⟨p, xs, ev1, hp, hl, hc, r2⟩ := R.del (j := j) r1 (i := i) ec
            have ev2 : σ[i]? = some (some (.ref p)) := ev1
            rw [ev] at ev2; cases ev2
            unfold dRemAt at hj
            split at hj
            · rename_i ps pp eps ep
              split at hj
              · rename_i hsh
                rw [Bool.and_eq_true] at hsh
                exact ⟨p, xs, v, ps, pp, j, rfl, rfl, hp, RepL.dp _ _ _ hl eps, Rep.dp _ _ _ hc ep, hsh.2, hsh.1, hj, q W1 _ σ g1 r2 Pr.refl⟩
              · cases hj
            · cases hj
        · cases em
      · cases em
    · cases em
end
end Mn

namespace Mn
open PySem PySem.Spec PyProof.Rows L2
/-! ### what is owned is looked at, and stays owned: all frozen for a while -/
/-- nothing below is shared -/
def D.full : Nat → D → Bool
  | 0, d => d.sc
  | k + 1, .lst l => l.all (D.full k)
  | k + 1, .tup l => l.all (D.full k)
  | _ + 1, .dct _ => false
  | _ + 1, _ => true
section
variable {K : PySem.W.Frag} {mg : Str → Option Value} {W W' H H' B : Hp} {vs : List (Option V)} {cs : List (Option Cell)} {v : V} {k : Nat} {d : D} {c : Cell}
theorem Own.full : ∀ (k : Nat) (d : D) (v : V) (F : Fp), D.full k d = true → Own K mg W' H k d v F → Own K mg W H k d v F
  | 0, d, v, F, hf, h => ⟨Rep.scalar hf h.1, h.2⟩
  | k + 1, .lst l, v, F, hf, h => by
    obtain ⟨a, vs, G, e1, h1, h2, h3⟩ := h
    simp only [D.full, List.all_eq_true] at hf
    exact ⟨a, vs, G, e1, h1, h2.imp fun d hd v F' _ hO => Own.full k d v F' (hf d hd) hO, h3⟩
  | k + 1, .tup l, v, F, hf, h => by
    obtain ⟨a, vs, G, e1, h1, h2, h3⟩ := h
    simp only [D.full, List.all_eq_true] at hf
    exact ⟨a, vs, G, e1, h1, h2.imp fun d hd v F' _ hO => Own.full k d v F' (hf d hd) hO, h3⟩
  | _ + 1, .dct _, _, _, hf, _ => by simp [D.full] at hf
  | _ + 1, .non, _, _, _, h => h
  | _ + 1, .bl _, _, _, _, h => h
  | _ + 1, .int _, _, _, _, h => h
  | _ + 1, .str _, _, _, _, h => h
  | _ + 1, .gl _, _, _, _, h => h
theorem R.drops : ∀ {ts : List (Option V)} {tc : List (Option Cell)}, ts.length = tc.length → R K mg B W H (ts ++ vs) (tc ++ cs) → R K mg B W H vs cs
  | [], [], _, r => r
  | _ :: _, _ :: _, h, r => R.drops (by simpa using h) (R.drop r)
  | [], _ :: _, h, _ => by simp at h
  | _ :: _, [], h, _ => by simp at h
def low (ρ : Env) : Env := ρ.map fun oc => oc.map fun c => (0, c.2)
theorem Cells.low (sw : Same W H) : ∀ {vs : List (Option V)} {cs : List (Option Cell)} {T : Fp}, Cells K mg W H vs cs T → Cells K mg H H vs (Mn.low cs) (fun _ => 0)
  | [], [], _, _ => fun _ => rfl
  | v :: vs, c :: cs, T, h => by
    obtain ⟨F, G, h1, h2, h3⟩ := h
    refine ⟨fun _ => 0, fun _ => 0, ?_, Cells.low sw h2, fun _ => rfl⟩
    cases c with
    | none => exact fun _ => rfl
    | some c =>
      obtain ⟨u, eu, ho⟩ := h1
      exact ⟨u, eu, Own.rep sw _ _ _ _ ho fun _ _ => rfl, fun _ => rfl⟩
  | [], _ :: _, _, h => h.elim
  | _ :: _, [], _, h => h.elim
theorem R.low (r : R K mg B W H vs cs) : R K mg H H H vs (Mn.low cs) := by
  obtain ⟨T, h, hT⟩ := r.ex
  exact ⟨Same.refl H, Same.refl H, _, Cells.low r.sw h, fun b => ⟨Nat.zero_le _, fun hb => (hb rfl).elim⟩⟩
/-- .. and back -/
theorem R.unlow {ρ1 : Env} {σ : List (Option V)} (r : R K mg B W H vs cs) (r' : R K mg H W' H' (some v :: σ) (some c :: ρ1)) (hf : D.full c.1 c.2 = true) : R K mg B W H' (some v :: vs) (some c :: cs) := by
  have sm : Same H H' := r'.sb
  obtain ⟨T, hc, hT⟩ := r.ex
  obtain ⟨T', ⟨F, G, ⟨u, eu, ho⟩, h2, h3⟩, hT'⟩ := r'.ex
  cases eu
  have hF : ∀ b, F b ≠ 0 → H b = none := fun b hb => ((hT' b).2 (by have := h3 b; omega)).2
  refine ⟨r.sw.trans sm, r.sb.trans sm, fun b => F b + T b, ⟨F, T, ⟨v, rfl, Own.full _ _ _ _ hf ho⟩, hc.mono (Same.refl W) (fun a ha => ?_), fun _ => rfl⟩, fun b => ?_⟩
  · cases z : H a with
    | none => exact absurd z (hc.there a ha)
    | some o => exact sm a o z
  · by_cases z : F b = 0
    · exact ⟨by have := (hT b).1; show F b + T b ≤ 1; omega, fun hb => (hT b).2 (by have : F b + T b ≠ 0 := hb; omega)⟩
    · have hn := hF b z
      have t0 : T b = 0 := by
        by_cases q : T b = 0
        · exact q
        · exact absurd hn (hc.there b q)
      refine ⟨by have := (hT' b).1; have := h3 b; show F b + T b ≤ 1; omega, fun _ => ⟨?_, ?_⟩⟩
      · cases q : W b with
        | none => rfl
        | some o => have := r.sw b o q; rw [hn] at this; cases this
      · cases q : B b with
        | none => rfl
        | some o => have := r.sb b o q; rw [hn] at this; cases this
theorem R.unlow0 {ρ1 : Env} {σ : List (Option V)} (r : R K mg B W H vs cs) (r' : R K mg H W' H' σ ρ1) : R K mg B W H' vs cs := by
  have sm : Same H H' := r'.sb
  obtain ⟨T, hc, hT⟩ := r.ex
  refine ⟨r.sw.trans sm, r.sb.trans sm, T, hc.mono (Same.refl W) (fun a ha => ?_), hT⟩
  cases z : H a with
  | none => exact absurd z (hc.there a ha)
  | some o => exact sm a o z
/-- a slot's value joins those that are held, in front -/
theorem RL.late {ds : List D} {xs : List V} (r : RL K mg B W H k ds xs vs cs) {i : Nat} (e : cs[i]? = some (some c)) (hf : fit k c = true) :
    ∃ (v : V) (W' : Hp), vs[i]? = some (some v) ∧ Gr B W W' ∧ RL K mg B W' H k (c.2 :: ds) (v :: xs) vs (cs.set i none) := by
  obtain ⟨T, G, hc, ho, hT⟩ := r.ex
  obtain ⟨ov, F, G0, ev, ⟨u, eu, hown⟩, h3, put⟩ := hc.focus e
  unfold fit at hf
  rw [Bool.or_eq_true] at hf
  obtain ⟨F', le, W', s1, gr, hW, hO⟩ : ∃ (F' : Fp), (∀ b, F' b ≤ F b) ∧ ∃ W' : Hp, Same W W' ∧ Gr B W W' ∧ (∀ b, F b = F' b → W' b = W b) ∧ Own K mg W' H k c.2 u F' ∧ Same W' H := by
    rcases hf with hf | hf
    · obtain ⟨F', g1, g2⟩ := Own.down k c.1 c.2 u F (of_decide_eq_true hf) (fun b => by have := (hT b).1; have := h3 b; omega) hown
      let M : Fp := fun b => if F' b = 0 then F b else 0
      have hM : ∀ b, M b ≠ 0 → F b ≠ 0 ∧ F' b = 0 := fun b hb => by
        by_cases z : F' b = 0
        · exact ⟨by have : M b = F b := if_pos z; omega, z⟩
        · exact (hb (if_neg z)).elim
      have s1 : Same W (fz W H M) := fz_same fun b hb => ((hT b).2 (by have := hM b hb; have := h3 b; omega)).1
      refine ⟨F', g1, fz W H M, s1, ⟨s1, fun a e1 n1 => ?_⟩, fun b hb => ?_, g2 _ s1 fun a ha hz => fz_of (by show (if F' a = 0 then F a else 0) ≠ 0; rw [if_pos hz]; exact ha), fz_in r.sw⟩
      · by_cases z : M a = 0
        · rw [fz_no z] at n1; exact (n1 e1).elim
        · exact ((hT a).2 (by have := hM a z; have := h3 a; omega)).2
      · refine fz_no ?_
        by_cases z : M b = 0
        · exact z
        · have := hM b z; omega
    · exact ⟨F, fun _ => Nat.le_refl _, W, Same.refl W, Gr.refl B W, fun _ _ => rfl, Own.scal hf hown, r.sw⟩
  have p := put W' H ov none (fun _ => 0) s1 (fun _ _ => rfl) fun _ => rfl
  rw [set_self ev] at p
  refine ⟨u, W', by rw [ev, eu], gr, hO.2, r.sb, _, fun b => F' b + G b, p, ⟨u, xs, F', G, rfl, hO.1, ho.imp fun d _ v F _ h => Own.mono s1 k d v F h fun _ _ => rfl, fun _ => rfl⟩, fun b => ⟨?_, fun hb => ?_⟩⟩
  · have := (hT b).1; have := h3 b; have := le b; show 0 + G0 b + (F' b + G b) ≤ 1; omega
  · have hb' : 0 + G0 b + (F' b + G b) ≠ 0 := hb
    have q := (hT b).2 (by have := h3 b; have := le b; omega)
    rw [hW b (by have := (hT b).1; have := h3 b; have := le b; omega)]
    exact q
end
def mThaw (m : Env → Option (Cell × Env)) : Env → Option (Cell × Env) := fun ρ => match m (low ρ) with
  | some (c, _) => if D.full c.1 c.2 then some (c, ρ) else none
  | none => none
def mtThaw (m : Env → Option (Bool × Env)) : Env → Option (Bool × Env) := fun ρ => match m (low ρ) with
  | some (b, _) => some (b, ρ)
  | none => none
def mConsL (k : Nat) (i : Nat) (ms : Env → Option (List D × Env)) : Env → Option (List D × Env) := fun ρ => match ρ[i]? with
  | some (some _) => (match ms ρ with
    | some (ds, ρ1) => (match ρ1[i]? with
      | some (some c) => if fit k c then some (c.2 :: ds, ρ1.set i none) else none
      | _ => none)
    | none => none)
  | _ => none
section
variable {X : Cx} {a e : Expr} {es : List Expr} {m : Env → Option (Cell × Env)} {t : Env → Option (Bool × Env)} {ms : Env → Option (List D × Env)} {pos : Pos} {k i : Nat}
theorem thaw_imp {σ : L2.St} {H : Hp} {Q : VK} (h : gS X (mThaw m) σ H Q) : gS X m σ H Q := by
  obtain ⟨B, W, ts, tc, ρ, cl, ρ', r, hl, em, q⟩ := h
  unfold mThaw at em
  split at em
  · rename_i c ρ1 e1
    split at em
    · rename_i hf
      cases em
      exact ⟨H, H, [], [], low ρ, _, ρ1, R.low (R.drops hl r), rfl, e1, fun W' H' v g' r' => q W H' v (Gr.refl B W) (R.unlow r r' hf)⟩
    · cases em
  · cases em
theorem g_thaw (h : PE X e (gS X m)) : PE X e (gS X (mThaw m)) := PEi h fun σ H Q h => thaw_imp h
theorem gt_thaw (h : PT X e (gT X t)) : PT X e (gT X (mtThaw t)) := PTi h fun σ H Q ⟨B, W, ts, tc, ρ, cl, ρ', r, hl, em, q⟩ => by
  unfold mtThaw at em
  split at em
  · rename_i c ρ1 e1
    cases em
    exact ⟨H, H, [], [], low ρ, _, ρ1, R.low (R.drops hl r), rfl, e1, fun W' H' g' r' => q W H' (Gr.refl B W) (R.unlow0 r r')⟩
  · cases em
theorem g_aconsL (ha : PE X a (tVar i)) (hr : PA X es (gA X k ms)) (hs : starEach (a :: es) X.env = (false, eval a X.env) :: starEach es X.env := by rfl) : PA X (a :: es) (gA X k (mConsL k i ms)) :=
  PAi (pa_cons ha hr hs) fun σ H Q ⟨B, W, ts, tc, ρ, ds, ρ', r, hl, e, q⟩ => by
    unfold mConsL at e
    split at e
    · rename_i c0 ec0
      split at e
      · rename_i ds' ρ1 ems
        split at e
        · rename_i c ec
          split at e
          · rename_i hf
            cases e
            obtain ⟨v, ev, _⟩ := r.rep (i := tc.length + i) (c := c0) (by rw [get_app]; exact ec0)
            rw [← hl, get_app] at ev
            refine ⟨v, ev, B, W, ts, tc, ρ, ds', ρ1, r, hl, ems, fun W1 H1 vs g1 r1 => ?_⟩
            obtain ⟨v', W2, ev', g2, r2⟩ := RL.late r1 (i := tc.length + i) (c := c) (by rw [get_app]; exact ec) hf
            rw [← hl, get_app, ev] at ev'
            cases ev'
            have e3 : (tc ++ ρ1).set (tc.length + i) none = tc ++ ρ1.set i none := by
              rw [List.set_append_right _ _ (Nat.le_add_right _ _)]
              simp
            rw [e3] at r2
            exact q W2 H1 (v :: vs) (g1.trans g2) r2
          · cases e
        · cases e
      · cases e
    · cases e
end
section
variable {X : Cx} {pr js : List Nat} {tgt iter e a b : Expr} {sts : List Stmt} {it : Env → Option (List D × Env)} {tg : D → Env → Option Env} {pos : Pos}
/-- y = [..] on one line, of what is owned and stays so -/
theorem s_setComp0T {kc i : Nat} {y : Str} {py spos : Pos} {elt tgt iter : Expr} {scope : Scope} {own : List (Str × Nat)} {x : Env → Option (Cell × Env)} (hc : X.calm = true) (hN : X.N.Nodup) (hy : X.N[i]? = some y) (hyl : X.env.scope.names.lookup y = some .local) (hp : i ∉ pr)
    (hsw : swapsWith (.ListComp elt [⟨tgt, iter, [], 0⟩] scope pos) (some (.Name y py)) spos.line X.env = pure true) (hi : PI X tgt iter (gI X it)) (ok : BlkOk X.N X.env.scope scope own)
    (hg : ∀ (s : Shared) (H : Hp) (C : Addr) (cl : List (Str × Addr)) (fp : List Addr), PG (X.blk s H scope (compEnvC scope cl C X.env) fp) tgt (tgS X js tg))
    (he : ∀ (s : Shared) (H : Hp) (C : Addr) (cl : List (Str × Addr)) (fp : List Addr), PE (X.blk s H scope (compEnvC scope cl C X.env) fp) elt (gS X x)) (hjs : ∀ j ∈ js, j ∈ own.map (·.2)) (hs : ∀ x, foldedSetIterable iter X.env x = pure x := by intro _; rfl) :
    PS X (.Assign [.Name y py] (.ListComp elt [⟨tgt, iter, [], 0⟩] scope pos) spos) (sS X pr (sAsg i (mFz (mThaw (mComp kc it tg tYesM x (own.map (·.2))))))) :=
  PSi (ps_setLc hc hN hy hyl hsw hi ok hg (fun _ _ _ _ _ => pts_nil) he hs) fun Dn σ H h => comp_imp (fun _ _ _ h => h) (fun _ _ _ _ h => h) (fun _ _ _ h => yes_imp h) (fun _ _ _ h => h) hjs (thaw_imp (fz_imp (asg_imp hp h)))
theorem s_setCompIf0T {kc i : Nat} {y : Str} {py spos : Pos} {elt tgt iter cond : Expr} {scope : Scope} {own : List (Str × Nat)} {x : Env → Option (Cell × Env)} {t : Env → Option (Bool × Env)} (hc : X.calm = true) (hN : X.N.Nodup) (hy : X.N[i]? = some y) (hyl : X.env.scope.names.lookup y = some .local) (hp : i ∉ pr)
    (hsw : swapsWith (.ListComp elt [⟨tgt, iter, [cond], 0⟩] scope pos) (some (.Name y py)) spos.line X.env = pure true) (hi : PI X tgt iter (gI X it)) (ok : BlkOk X.N X.env.scope scope own)
    (hg : ∀ (s : Shared) (H : Hp) (C : Addr) (cl : List (Str × Addr)) (fp : List Addr), PG (X.blk s H scope (compEnvC scope cl C X.env) fp) tgt (tgS X js tg))
    (ht : ∀ (s : Shared) (H : Hp) (C : Addr) (cl : List (Str × Addr)) (fp : List Addr), PT (X.blk s H scope (compEnvC scope cl C X.env) fp) cond (gT X t))
    (he : ∀ (s : Shared) (H : Hp) (C : Addr) (cl : List (Str × Addr)) (fp : List Addr), PE (X.blk s H scope (compEnvC scope cl C X.env) fp) elt (gS X x)) (hjs : ∀ j ∈ js, j ∈ own.map (·.2)) (hs : ∀ x, foldedSetIterable iter X.env x = pure x := by intro _; rfl) :
    PS X (.Assign [.Name y py] (.ListComp elt [⟨tgt, iter, [cond], 0⟩] scope pos) spos) (sS X pr (sAsg i (mFz (mThaw (mComp kc it tg t x (own.map (·.2))))))) :=
  PSi (ps_setLc hc hN hy hyl hsw hi ok hg (fun s H C cl fp => pts_one (ht s H C cl fp)) he hs) fun Dn σ H h => comp_imp (fun _ _ _ h => h) (fun _ _ _ _ h => h) (fun _ _ _ h => h) (fun _ _ _ h => h) hjs (thaw_imp (fz_imp (asg_imp hp h)))
end
section
variable {ρ : Mn.Env} {m : Mn.Env → Option (Cell × Mn.Env)} {t : Mn.Env → Option (Bool × Mn.Env)} {ms : Mn.Env → Option (List D × Mn.Env)} {i k : Nat}
@[simp] theorem e_mThaw : mThaw m ρ = (match m (low ρ) with | some (c, _) => if D.full c.1 c.2 then some (c, ρ) else none | none => none) := rfl
@[simp] theorem e_mtThaw : mtThaw t ρ = (match t (low ρ) with | some (b, _) => some (b, ρ) | none => none) := rfl
@[simp] theorem e_low0 : low [] = [] := rfl
@[simp] theorem e_low1 {c : Cell} {r : Mn.Env} : low (some c :: r) = some (0, c.2) :: low r := rfl
@[simp] theorem e_low2 {r : Mn.Env} : low (none :: r) = none :: low r := rfl
@[simp] theorem e_mConsL : mConsL k i ms ρ = (match ρ[i]? with
  | some (some _) => (match ms ρ with
    | some (ds, ρ1) => (match ρ1[i]? with
      | some (some c) => if fit k c then some (c.2 :: ds, ρ1.set i none) else none
      | _ => none)
    | none => none)
  | _ => none) := rfl
@[simp] theorem e_full0 {d : D} : D.full 0 d = d.sc := rfl
@[simp] theorem e_fullI {i : Int} : D.full k (.int i) = true := by cases k <;> rfl
@[simp] theorem e_fullB {b : Bool} : D.full k (.bl b) = true := by cases k <;> rfl
@[simp] theorem e_fullN : D.full k .non = true := by cases k <;> rfl
@[simp] theorem e_fullS {x : Str} : D.full k (.str x) = true := by cases k <;> rfl
@[simp] theorem e_fullL {l : List D} : D.full (k + 1) (.lst l) = l.all (D.full k) := rfl
@[simp] theorem e_fullT {l : List D} : D.full (k + 1) (.tup l) = l.all (D.full k) := rfl
end
end Mn

namespace Mn
open PySem PySem.Spec PyProof.Rows L2
/-! ### repr of trees of numbers, lists and tuples -/
theorem join_up : ∀ (ts : List Str) (N : Nat), (∀ t ∈ ts, t.length ≤ N) → (Str.join ", " ts).length ≤ ts.length * (N + 2)
  | [], N, _ => by show (Str.join ", " ([] : List Str)).length ≤ _; exact Nat.zero_le _
  | [x], N, h => by
    have := h x (by simp)
    show x.length ≤ _
    simp
    omega
  | x :: y :: r, N, h => by
    have ih := join_up (y :: r) N fun t ht => h t (List.mem_cons_of_mem _ ht)
    have hx := h x (by simp)
    show (x ++ ", " ++ Str.join ", " (y :: r)).length ≤ _
    have e2 : ((", " : String) : Str).length = 2 := rfl
    rw [strLen_append, strLen_append, e2, List.length_cons, Nat.succ_mul]
    generalize (y :: r).length * (N + 2) = z at *
    omega
theorem join_ok : ∀ ts : List Str, (∀ t ∈ ts, PyData.strOk t = true) → PyData.strOk (Str.join ", " ts) = true
  | [], _ => strOk_ofString ""
  | [x], h => h x (by simp)
  | x :: y :: r, h => by
    show PyData.strOk (x ++ ", " ++ Str.join ", " (y :: r)) = true
    exact strOk_append (strOk_append (h x (by simp)) (strOk_ofString _)) (join_ok (y :: r) fun t ht => h t (List.mem_cons_of_mem _ ht))
theorem ShB.tuple {ps : List PyData} {N : Nat} (h : ∀ p ∈ ps, ShB p N) : ShB (.tuple ps) (3 + ps.length * (N + 2)) := by
  refine ⟨by simp only [PyData.showable]; exact showableAll_of fun p hp => (h p hp).1, by simp only [PyData.hasDict]; exact hasDictAll_of fun p hp => (h p hp).2.1, ?_, by
    simp only [PyData.shown]
    unfold tupleText
    refine strOk_append (strOk_append (strOk_ofString "(") (join_ok _ fun t ht => ?_)) (by split <;> exact strOk_ofString _)
    obtain ⟨p, hp, rfl⟩ := shownAll_mem ht
    exact (h p hp).2.2.2⟩
  simp only [PyData.shown]
  unfold tupleText
  have := join_up (PyData.shownAll ps) N fun t ht => by
    obtain ⟨p, hp, rfl⟩ := shownAll_mem ht
    exact (h p hp).2.2.1
  rw [shownAll_length] at this
  rw [strLen_append, strLen_append]
  have e1 : ((("(" : String) : Str)).length = 1 := rfl
  have e2 : (if (PyData.shownAll ps).length == 1 then (",)" : String) else ")" : String).length ≤ 2 := by split <;> decide
  have e3 : ((if (PyData.shownAll ps).length == 1 then ",)" else ")" : String) : Str).length ≤ 2 := by split <;> exact (by decide)
  rw [e1]
  generalize ps.length * (N + 2) = z at *
  omega
/-- numbers below 2^k, at most 8 of them in a list, at most n deep -/
def Rok (k : Nat) : Nat → D → Prop
  | _, .int i => i.natAbs < 2 ^ k
  | n + 1, .lst l => l.length ≤ 8 ∧ ∀ d ∈ l, Rok k n d
  | n + 1, .tup l => l.length ≤ 8 ∧ ∀ d ∈ l, Rok k n d
  | _, _ => False
def rsz (k : Nat) : Nat → Nat
  | 0 => k + 1
  | n + 1 => 3 + 8 * (rsz k n + 2)
theorem rsz_le (k n : Nat) : k + 1 ≤ rsz k n := by
  induction n with
  | zero => exact Nat.le_refl _
  | succ n ih => unfold rsz; omega
theorem Rok.ok {k : Nat} (hk : 0 < k) (hk2 : k ≤ 1920) : ∀ (n : Nat) (d : D), Rok k n d → ∃ p, toP d = some p ∧ ShB p (rsz k n) ∧ p.depth ≤ n ∧ p.canLay0 = true := by
  intro n
  induction n with
  | zero =>
    intro d h
    cases d with
    | int i => exact ⟨.int i, rfl, ShB.int h hk hk2, by simp [PyData.depth], by simp [PyData.canLay0]⟩
    | _ => exact h.elim
  | succ n ih =>
    have key : ∀ l : List D, (∀ d ∈ l, Rok k n d) → ∃ ps, toPL l = some ps ∧ ps.length = l.length ∧ (∀ p ∈ ps, ShB p (rsz k n)) ∧ PyData.depthAll ps ≤ n ∧ PyData.canLayAll0 ps = true := by
      intro l
      induction l with
      | nil => exact fun _ => ⟨[], rfl, rfl, by simp, by simp [PyData.depthAll], by simp [PyData.canLayAll0]⟩
      | cons d ds ihl =>
        intro h
        obtain ⟨p, e, h1, h2, h3⟩ := ih d (h d (by simp))
        obtain ⟨ps, es, g0, g1, g2, g3⟩ := ihl fun x hx => h x (by simp [hx])
        refine ⟨p :: ps, by simp [toPL, e, es], by simp [g0], ?_, ?_, by simp [PyData.canLayAll0, h3, g3]⟩
        · intro q hq
          rcases List.mem_cons.mp hq with rfl | hq
          · exact h1
          · exact g1 q hq
        · simp only [PyData.depthAll]
          omega
    intro d h
    cases d with
    | int i =>
      refine ⟨.int i, rfl, (ShB.int (i := i) (k := k) h hk hk2).up (rsz_le k (n + 1)), by simp [PyData.depth], by simp [PyData.canLay0]⟩
    | lst l =>
      obtain ⟨ps, e, g0, g1, g2, g3⟩ := key l h.2
      have h8 := h.1
      refine ⟨.list ps, by simp [toP, e], (ShB.list g1).up ?_, by simp only [PyData.depth]; omega, by simp [PyData.canLay0, g3]⟩
      have : ps.length * (rsz k n + 2) ≤ 8 * (rsz k n + 2) := Nat.mul_le_mul_right _ (by omega)
      show 2 + ps.length * (rsz k n + 2) ≤ 3 + 8 * (rsz k n + 2)
      omega
    | tup l =>
      obtain ⟨ps, e, g0, g1, g2, g3⟩ := key l h.2
      have h8 := h.1
      refine ⟨.tuple ps, by simp [toP, e], (ShB.tuple g1).up ?_, by simp only [PyData.depth]; omega, by simp [PyData.canLay0, g3]⟩
      have : ps.length * (rsz k n + 2) ≤ 8 * (rsz k n + 2) := Nat.mul_le_mul_right _ (by omega)
      show 3 + ps.length * (rsz k n + 2) ≤ 3 + 8 * (rsz k n + 2)
      omega
    | _ => exact h.elim
noncomputable def rpD (d : D) : Str := match toP d with
  | some p => p.shown
  | none => ""
theorem repr_Rok {k n : Nat} {d : D} (hk : 0 < k) (hk2 : k ≤ 1920) (hn : n ≤ 4) (h : Rok k n d) : dRepr [d] = some (.str (rpD d)) ∧ PyData.strOk (rpD d) = true := by
  obtain ⟨p, e, h1, h2, h3⟩ := Rok.ok hk hk2 n d h
  have hs : rsz k n ≤ 16777216 := by
    have : rsz k n ≤ rsz k 4 := by
      rcases (show n = 0 ∨ n = 1 ∨ n = 2 ∨ n = 3 ∨ n = 4 by omega) with rfl | rfl | rfl | rfl | rfl <;> simp [rsz] <;> omega
    refine Nat.le_trans this ?_
    simp only [rsz]
    omega
  have ho := okRepr_of h1 hs (by omega)
  have er : rpD d = p.shown := by unfold rpD; rw [e]
  rw [er]
  refine ⟨?_, h1.2.2.2⟩
  simp only [dRepr, e, ho, if_true]
theorem eqv_self_of : ∀ p : PyData, p.canLay0 = true → PyData.eqv p p = true := fun p h =>
  SeqAt.eqv_refl_plain p (PyData.plain_of_canLay0 p h)
/-- equal trees are == -/
theorem eq_Rok {k n : Nat} {d : D} (hk : 0 < k) (hk2 : k ≤ 1920) (hn : n ≤ 4) (h : Rok k n d) : dEq d d = some (.bl true) ∧ dNe d d = some (.bl false) := by
  obtain ⟨p, e, h1, h2, h3⟩ := Rok.ok hk hk2 n d h
  have hs : SeqAt.shaped p = true := by
    unfold SeqAt.shaped
    rw [h3, Bool.true_and]
    exact decide_eq_true (by omega)
  have hq := eqv_self_of p h3
  simp [dEq, dNe, e, hs, hq]
end Mn

namespace Mn
open PySem PySem.Spec PyProof.Rows L2
/-! ### comprehensions over squares -/
theorem over_any (kc n : Nat) (f : Nat → Nat → Int) (hkc : kc ≤ 1) (h1 : 1 ≤ n) (h2 : n ≤ 1000) :
    mComp kc (iRange (mCons 0 (mP (pCall dLen (pCons (pBin dIx (pVar 0) (pC (.int 0))) pNil))) mNil)) (tName 1) tYesM (mComp 0 (iSeq (mO (oVar 0))) (tName 2) tYesM (mO (oIx (oVar 2) (pVar 1))) [2]) [1]
      [some (0, .lst ((mat n f).map fun r => .lst (r.map D.int))), none, none] = some ((kc + 1, .lst ((mat n fun i j => f j i).map fun r => .lst (r.map D.int))), [some (0, .lst ((mat n f).map fun r => .lst (r.map D.int))), none, none]) := by
  generalize hM : (D.lst ((mat n f).map fun r => .lst (r.map D.int))) = M
  have hin : ∀ j : Nat, j < n → mComp 0 (iSeq (mO (oVar 0))) (tName 2) tYesM (mO (oIx (oVar 2) (pVar 1))) [2] [some (0, M), some (0, .int j), none] = some ((1, .lst (((List.range n).map fun i => f i j).map D.int)), [some (0, M), some (0, .int j), none]) := fun j hj => by
    have hc := comp_map1 (kc := 0) (it := iSeq (mO (oVar 0))) (tg := tName 2) (x := mO (oIx (oVar 2) (pVar 1))) (own := [2])
      (ρ := [some (0, M), some (0, .int j), none]) (ρ1 := [some (0, M), some (0, .int j), none]) (ρ0 := [some (0, M), some (0, .int j), none])
      (List.range n) (fun i => .lst (((List.range n).map fun j => f i j).map D.int)) (fun i => .int (f i j)) (by simp [← hM, mat]) (by simp; omega) rfl fun i hi => ⟨[some (0, M), some (0, .int j), some (0, .lst (((List.range n).map fun j => f i j).map D.int))], rfl, rfl, 0, by
        simp [atI_nat', hj], by simp⟩
    rw [hc]
    simp
  have hout := comp_map1 (kc := kc) (it := iRange (mCons 0 (mP (pCall dLen (pCons (pBin dIx (pVar 0) (pC (.int 0))) pNil))) mNil)) (tg := tName 1) (x := mComp 0 (iSeq (mO (oVar 0))) (tName 2) tYesM (mO (oIx (oVar 2) (pVar 1))) [2]) (own := [1])
      (ρ := [some (0, M), none, none]) (ρ1 := [some (0, M), none, none]) (ρ0 := [some (0, M), none, none])
      (List.range n) (fun i => .int i) (fun j => .lst (((List.range n).map fun i => f i j).map D.int)) (by
        rw [e_rg1 (j := n) (ρ1 := [some (0, M), none, none]) (by
          have : atI (List.map (fun r => D.lst (r.map D.int)) (mat n f)) 0 = some (.lst (((List.range n).map fun j => f 0 j).map D.int)) := by
            rw [show (0 : Int) = ((0 : Nat) : Int) from rfl, atI_nat', List.getElem?_map, mat_get (by omega)]
            rfl
          simp [← hM, this]), okRng_nat (by omega), rng0]
        simp) (by simp; omega) rfl fun j hj => ⟨[some (0, M), some (0, .int j), none], rfl, rfl, 1, hin j (List.mem_range.mp hj), by simp [hkc]⟩
  rw [hout]
  simp [mat]
/-- the sum over the places below n -/
def sm (n : Nat) (g : Nat → Int) : Int := ((List.range n).map g).sum
/-- the product -/
def pr (n : Nat) (f g : Nat → Nat → Int) (i j : Nat) : Int := sm n fun k => f i k * g k j
def smallM (n k : Nat) (f : Nat → Nat → Int) : Prop := ∀ i, i < n → ∀ j, j < n → (f i j).natAbs < 2 ^ k
theorem smallM.pr {n a b : Nat} {f g : Nat → Nat → Int} (h1 : smallM n a f) (h2 : smallM n b g) (hn : n ≤ 8) : smallM n (a + b + 4) (pr n f g) := fun i hi j hj => sm_sum n (fun k hk => sm_mul (h1 i hi k hk) (h2 k hk j hj)) hn
theorem smallM.tr {n a : Nat} {f : Nat → Nat → Int} (h : smallM n a f) : smallM n a fun i j => f j i := fun i hi j hj => h j hj i hi
theorem smallM.up {n a b : Nat} {f : Nat → Nat → Int} (h : smallM n a f) (hab : a ≤ b) : smallM n b f := fun i hi j hj => sm_up (h i hi j hj) hab
/-- rows times columns, by zip(strict=True) -/
theorem prod_zs (n a b : Nat) (f g : Nat → Nat → Int) (x y : Option Cell) (hn : n ≤ 8) (hf : smallM n a f) (hg : smallM n b g) (ha : a + b ≤ 900000) :
    mComp 1 (iSeq (mO (oVar 0))) (tName 3) tYesM (mComp 0 (iSeq (mO (oVar 2))) (tName 4) tYesM (mCallF (ofN dSum) (mCons 0 (mComp 0 (iZipSM (mCons 0 (mO (oVar 3)) (mCons 0 (mO (oVar 4)) mNil))) (tTupT 2 (tsCons (tName 5) (tsCons (tName 6) tsNil))) tYesM (mP (pBin dMul (pVar 5) (pVar 6))) [5, 6]) mNil)) [4]) [3]
      [some (0, .lst ((mat n f).map fun r => .lst (r.map D.int))), x, some (0, .lst ((mat n fun i j => g j i).map fun r => .lst (r.map D.int))), none, none, none, none]
    = some ((2, .lst ((mat n (pr n f g)).map fun r => .lst (r.map D.int))), [some (0, .lst ((mat n f).map fun r => .lst (r.map D.int))), x, some (0, .lst ((mat n fun i j => g j i).map fun r => .lst (r.map D.int))), none, none, none, none]) := by
  generalize hM : (D.lst ((mat n f).map fun r => .lst (r.map D.int))) = M
  generalize hN : (D.lst ((mat n fun i j => g j i).map fun r => .lst (r.map D.int))) = N
  have h1 : ∀ i, i < n → ∀ j, j < n → mComp 0 (iZipSM (mCons 0 (mO (oVar 3)) (mCons 0 (mO (oVar 4)) mNil))) (tTupT 2 (tsCons (tName 5) (tsCons (tName 6) tsNil))) tYesM (mP (pBin dMul (pVar 5) (pVar 6))) [5, 6]
      [some (0, M), x, some (0, N), some (0, .lst (((List.range n).map fun k => f i k).map D.int)), some (0, .lst (((List.range n).map fun k => g k j).map D.int)), none, none]
      = some ((1, .lst (((List.range n).map fun k => f i k * g k j).map D.int)), [some (0, M), x, some (0, N), some (0, .lst (((List.range n).map fun k => f i k).map D.int)), some (0, .lst (((List.range n).map fun k => g k j).map D.int)), none, none]) := fun i hi j hj => by
    have hc := comp_map1 (kc := 0) (it := iZipSM (mCons 0 (mO (oVar 3)) (mCons 0 (mO (oVar 4)) mNil))) (tg := tTupT 2 (tsCons (tName 5) (tsCons (tName 6) tsNil))) (x := mP (pBin dMul (pVar 5) (pVar 6))) (own := [5, 6])
      (ρ := [some (0, M), x, some (0, N), some (0, .lst (((List.range n).map fun k => f i k).map D.int)), some (0, .lst (((List.range n).map fun k => g k j).map D.int)), none, none])
      (ρ1 := [some (0, M), x, some (0, N), some (0, .lst (((List.range n).map fun k => f i k).map D.int)), some (0, .lst (((List.range n).map fun k => g k j).map D.int)), none, none])
      (ρ0 := [some (0, M), x, some (0, N), some (0, .lst (((List.range n).map fun k => f i k).map D.int)), some (0, .lst (((List.range n).map fun k => g k j).map D.int)), none, none])
      (List.range n) (fun k => .tup [.int (f i k), .int (g k j)]) (fun k => .int (f i k * g k j)) (by
        rw [e_iZipSM]
        simp [zip_range]) (by simp; omega) rfl fun k hk => ⟨[some (0, M), x, some (0, N), some (0, .lst (((List.range n).map fun k => f i k).map D.int)), some (0, .lst (((List.range n).map fun k => g k j).map D.int)), some (0, .int (f i k)), some (0, .int (g k j))], rfl, rfl, 0, by
        have hk' := List.mem_range.mp hk
        have am : okMul (f i k) (g k j) = true := okMul_of (a := a + 1) (b := b + 1) (sm_up (hf i hi k hk') (by omega)) (sm_up (hg k hk' j hj) (by omega)) (by omega) (by omega) (by omega)
        simp [am], by simp⟩
    rw [hc]
    simp
  have h2 : ∀ i, i < n → mComp 0 (iSeq (mO (oVar 2))) (tName 4) tYesM (mCallF (ofN dSum) (mCons 0 (mComp 0 (iZipSM (mCons 0 (mO (oVar 3)) (mCons 0 (mO (oVar 4)) mNil))) (tTupT 2 (tsCons (tName 5) (tsCons (tName 6) tsNil))) tYesM (mP (pBin dMul (pVar 5) (pVar 6))) [5, 6]) mNil)) [4]
      [some (0, M), x, some (0, N), some (0, .lst (((List.range n).map fun k => f i k).map D.int)), none, none, none]
      = some ((1, .lst (((List.range n).map fun j => pr n f g i j).map D.int)), [some (0, M), x, some (0, N), some (0, .lst (((List.range n).map fun k => f i k).map D.int)), none, none, none]) := fun i hi => by
    have hc := comp_map1 (kc := 0) (it := iSeq (mO (oVar 2))) (tg := tName 4) (x := mCallF (ofN dSum) (mCons 0 (mComp 0 (iZipSM (mCons 0 (mO (oVar 3)) (mCons 0 (mO (oVar 4)) mNil))) (tTupT 2 (tsCons (tName 5) (tsCons (tName 6) tsNil))) tYesM (mP (pBin dMul (pVar 5) (pVar 6))) [5, 6]) mNil)) (own := [4])
      (ρ := [some (0, M), x, some (0, N), some (0, .lst (((List.range n).map fun k => f i k).map D.int)), none, none, none])
      (ρ1 := [some (0, M), x, some (0, N), some (0, .lst (((List.range n).map fun k => f i k).map D.int)), none, none, none])
      (ρ0 := [some (0, M), x, some (0, N), some (0, .lst (((List.range n).map fun k => f i k).map D.int)), none, none, none])
      (List.range n) (fun j => .lst (((List.range n).map fun k => g k j).map D.int)) (fun j => .int (pr n f g i j)) (by simp [← hN, mat, Function.comp_def]) (by simp; omega) rfl fun j hj => ⟨_, rfl, rfl, 0, by
        have e := h1 i hi j (List.mem_range.mp hj)
        show mCallF (ofN dSum) (mCons 0 _ mNil) [some (0, M), x, some (0, N), some (0, .lst (((List.range n).map fun k => f i k).map D.int)), some (0, .lst (((List.range n).map fun k => g k j).map D.int)), none, none] = _
        simp only [e_mCallF, e_mCons, e]
        simp [pr, sm, -List.map_map], by simp⟩
    rw [hc]
    simp
  have hc := comp_map1 (kc := 1) (it := iSeq (mO (oVar 0))) (tg := tName 3) (x := mComp 0 (iSeq (mO (oVar 2))) (tName 4) tYesM (mCallF (ofN dSum) (mCons 0 (mComp 0 (iZipSM (mCons 0 (mO (oVar 3)) (mCons 0 (mO (oVar 4)) mNil))) (tTupT 2 (tsCons (tName 5) (tsCons (tName 6) tsNil))) tYesM (mP (pBin dMul (pVar 5) (pVar 6))) [5, 6]) mNil)) [4]) (own := [3])
      (ρ := [some (0, M), x, some (0, N), none, none, none, none]) (ρ1 := [some (0, M), x, some (0, N), none, none, none, none]) (ρ0 := [some (0, M), x, some (0, N), none, none, none, none])
      (List.range n) (fun i => .lst (((List.range n).map fun k => f i k).map D.int)) (fun i => .lst (((List.range n).map fun j => pr n f g i j).map D.int)) (by simp [← hM, mat, Function.comp_def]) (by simp; omega) rfl fun i hi => ⟨_, rfl, rfl, 1, h2 i (List.mem_range.mp hi), by simp⟩
  rw [hc]
  simp [mat]
end Mn

namespace Mn
open PySem PySem.Spec PyProof.Rows L2
def mCompH (kc i0 : Nat) (tg : D → Env → Option Env) (t : Env → Option (Bool × Env)) (x : Env → Option (Cell × Env)) (own : List Nat) : Env → Option (Cell × Env) := fun ρ => match ρ[i0]? with
  | some (some (1, .lst ds)) => if ds.length < sizeLine then (match mCompL kc tg t x own ds (wipeE (ρ.set i0 none) own) with
    | some (rs, ρ2) => some ((kc + 1, .lst rs), ρ2.set i0 (some (1, .lst ds)))
    | none => none) else none
  | _ => none
section
variable {X : Cx} {js : List Nat} {tg : D → Env → Option Env} {pos : Pos} {pr : List Nat}
/-- a list comprehension over an owned list of a slot: the list is held meanwhile -/
theorem compH_imp {kc i0 : Nat} {own : List Nat} {tt : TT} {te : TE} {tgr : TG} {t : Env → Option (Bool × Env)} {x : Env → Option (Cell × Env)} {σ : L2.St} {H : Hp} {Q : VK}
    (htg : ∀ v σ H Q, tgS X js tg v σ H Q → tgr v σ H Q) (htt : ∀ σ H Q, gT X t σ H Q → tt σ H Q) (hte : ∀ σ H Q, gS X x σ H Q → te σ H Q) (hjs : ∀ j ∈ js, j ∈ own)
    (h : gS X (mCompH kc i0 tg t x own) σ H Q) : tLc (iList X.K (tVar i0)) tgr tt te own σ H Q := by
  obtain ⟨B0, W, ts, tc, ρ0, cl, ρz, r0, hl, em, q0⟩ := h
  unfold mCompH at em
  split at em
  · rename_i ds ecell
    split at em
    · rename_i hz
      split at em
      · rename_i rs ρ' ec
        cases em
        obtain ⟨vh, F, B, ev, hown, hF1, r1, back⟩ := r0.hold (i := tc.length + i0) (c := (1, .lst ds)) (by rw [get_app]; exact ecell)
        rw [set_app] at r1
        obtain ⟨a, vs, G, rfl, hHa, hOw, hsum⟩ := hown
        have hrep : RepL X.K X.mg W ds vs := hOw.toRep fun d _ v F _ h => h.1
        have hFa : F a ≠ 0 := by rw [hsum, if_pos rfl]; omega
        rw [← hl, get_app] at ev
        have at_ : ∀ {Wi Hi : Hp} {vv : List (Option V)} {cc : List (Option Cell)}, Gr B W Wi → R X.K X.mg B Wi Hi vv cc → SqL X.K Hi a vs := fun g r => (SqX.of (by rw [(back _ _ _ _ g r).2.2 a hFa]; exact hHa)).sq
        have hti : iList X.K (tVar i0) σ H fun J H' => J = Itl X.K a ∧ H' = H := ⟨.ref a, ev, a, rfl, ⟨vs, at_ (Gr.refl B W) r1⟩, rfl, rfl⟩
        refine ⟨.ref a, ev, a, rfl, ⟨vs, at_ (Gr.refl B W) r1⟩, fun D0 nD => ?_⟩
        let W1 := W
        let H1 := H
        let ρ1 := ρ0.set i0 none
        have g1 : Gr B W W := Gr.refl B W
        have rD : R X.K X.mg B W1 (L2.upd H1 D0 (.lst [])) (some (.ref D0) :: (ts ++ σ)) (some (kc + 1, .lst []) :: (tc ++ ρ1)) := RL.lst (k := kc) (RL.nil r1) nD
        have rW := R.wipe (ts := some (.ref D0) :: ts) (tc := some (kc + 1, .lst []) :: tc) (by simp [hl]) rD own
        refine ⟨fun i m Hi => m = ds.length - i ∧ i ≤ ds.length ∧ ∃ Wi ρi acc rs', Gr B W1 Wi ∧ R X.K X.mg B Wi Hi (some (.ref D0) :: (ts ++ wipe σ own)) (some (kc + 1, .lst acc) :: (tc ++ wipeE ρi own)) ∧ mCompL kc tg t x own (ds.drop i) (wipeE ρi own) = some (rs', ρ') ∧ acc ++ rs' = rs ∧ acc.length ≤ i,
          ⟨ds.length, rfl, Nat.zero_le _, W1, ρ1, [], rs, Gr.refl B W1, rW, ec, rfl, Nat.le_refl _⟩, ?_⟩
        rintro i m Hi ⟨rfl, hile, Wi, ρi, acc, rs', gi, ri, ei, ea, hacc⟩
        have sW : Same W1 Hi := gi.sm.trans ri.sw
        by_cases hlt : i < ds.length
        · have hvl := hrep.length
          have sqi := at_ gi ri
          refine .inr ⟨⟨vs, vs[i]'(by omega), sqi, by simp [show i < vs.length by omega]⟩, fun H' => ∃ Wi' ρi' acc' rs', Gr B W1 Wi' ∧ R X.K X.mg B Wi' H' (some (.ref D0) :: (ts ++ wipe σ own)) (some (kc + 1, .lst acc') :: (tc ++ wipeE ρi' own)) ∧ mCompL kc tg t x own (ds.drop (i + 1)) (wipeE ρi' own) = some (rs', ρ') ∧ acc' ++ rs' = rs ∧ acc'.length ≤ i + 1,
            fun H' ⟨Wi', ρi', acc', rs'', g', r', e', a', l'⟩ => ⟨ds.length - (i + 1), by omega, rfl, hlt, Wi', ρi', acc', rs'', g', r', e', a', l'⟩, fun v H' y => ?_⟩
          obtain ⟨W2, g2, r2⟩ : ∃ W2, Gr B Wi W2 ∧ R X.K X.mg B W2 H' (some v :: (some (.ref D0) :: (ts ++ wipe σ own))) (some (0, ds[i]) :: (some (kc + 1, .lst acc) :: (tc ++ wipeE ρi own))) := by
            obtain ⟨rfl, f⟩ := y
            exact ⟨Wi, Gr.refl B Wi, ri.push0 (Rep.mono gi.sm _ _ (hrep.uniq (by simp [hlt]) (f vs sqi)))⟩
          rw [List.drop_eq_getElem_cons hlt] at ei
          simp only [mCompL] at ei
          split at ei
          · cases ei
          · rename_i ρ3 et
            refine htg _ _ _ _ ⟨B, W2, some (.ref D0) :: ts, some (kc + 1, .lst acc) :: tc, wipeE ρi own, ds[i], ρ3, R.drop r2, by simp [hl], R.head0 r2, et, fun σ2 r3 k3 l3 => ?_⟩
            have hw : wipe σ2 own = wipe σ own := by
              have h1 : wipe σ2 own = wipe (wipe σ own) own := wipe_eq (js := js) (by rw [l3]) fun i hi => k3 i fun z => hi (hjs i z)
              rw [h1]
              exact wipe_eq (js := js) (by rw [wipe_length]) fun i hi => wipe_off hi
            refine ⟨hw, ?_⟩
            have g3 := gi.trans g2
            -- a turn's end
            have fin : ∀ {W4 H4 : Hp} {ρ4 : Env} {acc4 : List D}, Gr B W2 W4 → R X.K X.mg B W4 H4 (some (.ref D0) :: (ts ++ σ2)) (some (kc + 1, .lst acc4) :: (tc ++ ρ4)) → R X.K X.mg B W4 H4 (some (.ref D0) :: (ts ++ wipe σ own)) (some (kc + 1, .lst acc4) :: (tc ++ wipeE ρ4 own)) := fun {W4 H4 ρ4 acc4} g4 r4 => by
              have r5 := R.wipe (ts := some (.ref D0) :: ts) (tc := some (kc + 1, .lst acc4) :: tc) (by simp [hl]) r4 own
              rw [hw] at r5
              exact r5
            split at ei
            · cases ei
            · rename_i ρ4 eb
              refine htt _ _ _ ⟨B, W2, some (.ref D0) :: ts, some (kc + 1, .lst acc) :: tc, ρ3, false, ρ4, r3, by simp [hl], eb, fun W4 H4 g4 r4 => ?_⟩
              show if false = true then _ else _
              exact iteF ⟨W4, ρ4, acc, rs', g3.trans g4, fin g4 r4, ei, ea, by omega⟩
            · rename_i ρ4 eb
              split at ei
              · cases ei
              · rename_i c ρ5 exx
                split at ei
                · rename_i hf
                  split at ei
                  · rename_i rs2 ρ6 er
                    cases ei
                    refine htt _ _ _ ⟨B, W2, some (.ref D0) :: ts, some (kc + 1, .lst acc) :: tc, ρ3, true, ρ4, r3, by simp [hl], eb, fun W4 H4 g4 r4 => ?_⟩
                    show if true = true then _ else _
                    refine iteT (hte _ _ _ ⟨B, W4, some (.ref D0) :: ts, some (kc + 1, .lst acc) :: tc, ρ4, c, ρ5, r4, by simp [hl], exx, fun W5 H5 y g5 r5 => ?_⟩)
                    obtain ⟨W6, v0, p, xs, ev, pv, hp, hx, g6, r6⟩ := R.pathApp (k := kc) (js := []) (l := acc) (d := .lst acc) r5 (i := 0) rfl rfl hf
                    have ev2 : some (some (V.ref D0)) = some (some v0) := ev
                    cases ev2
                    cases pv
                    refine ⟨xs, hp, by rw [hx]; omega, W6, ρ5, acc ++ [c.2], rs2, ((g3.trans g4).trans g5).trans g6, fin ((g4.trans g5).trans g6) r6, er, by rw [List.append_assoc]; exact ea, by rw [List.length_append]; simp; omega⟩
                  · cases ei
                · cases ei
        · have e : i = ds.length := by omega
          subst e
          rw [List.drop_length] at ei
          cases ei
          rw [List.append_nil] at ea
          subst ea
          refine .inl ⟨⟨vs, at_ gi ri, by rw [hrep.length]; exact Nat.le_refl _⟩, ?_⟩
          have rz := R.unwipe (ts := some (.ref D0) :: ts) (tc := some (kc + 1, .lst acc) :: tc) (by simp [hl]) ri (by rw [wipe_length]) fun i hi => (wipe_off hi).symm
          obtain ⟨g9, r9, _⟩ := back Wi Hi _ _ gi rz
          have rm := R.move r9 (tc.length + i0 + 1)
          have e1 : (some (V.ref D0) :: ts ++ σ).set (tc.length + i0 + 1) (some (.ref a)) = some (V.ref D0) :: (ts ++ σ) := by
            rw [List.cons_append, List.set_cons_succ, ← hl, set_app, set_self ev]
          have e2 : (some (kc + 1, D.lst acc) :: tc ++ wipeE ρi own).set (tc.length + i0 + 1) (some (1, .lst ds)) = some (kc + 1, D.lst acc) :: (tc ++ (wipeE ρi own).set i0 (some (1, .lst ds))) := by
            rw [List.cons_append, List.set_cons_succ, set_app]
          rw [e1, e2] at rm
          exact q0 Wi Hi (.ref D0) g9 rm
      · cases em
    · cases em
  · cases em
theorem g_compH {kc i0 : Nat} {elt tgt iter : Expr} {scope : Scope} {own : List (Str × Nat)} {x : Env → Option (Cell × Env)} (hc : X.calm = true) (hN : X.N.Nodup) (hi : PE X iter (tVar i0)) (ok : BlkOk X.N X.env.scope scope own)
    (hg : ∀ (s : Shared) (H : Hp) (C : Addr) (cl : List (Str × Addr)) (fp : List Addr), PG (X.blk s H scope (compEnvC scope cl C X.env) fp) tgt (tgS X js tg))
    (he : ∀ (s : Shared) (H : Hp) (C : Addr) (cl : List (Str × Addr)) (fp : List Addr), PE (X.blk s H scope (compEnvC scope cl C X.env) fp) elt (gS X x)) (hjs : ∀ j ∈ js, j ∈ own.map (·.2)) (hs : ∀ x, foldedSetIterable iter X.env x = pure x := by intro _; rfl) :
    PE X (.ListComp elt [⟨tgt, iter, [], 0⟩] scope pos) (gS X (mCompH kc i0 tg tYesM x (own.map (·.2)))) :=
  PEi (pe_lc hc hN (pi_list hi) ok hg (fun _ _ _ _ _ => pts_nil) he hs) fun σ H Q h => compH_imp (fun _ _ _ _ h => h) (fun _ _ _ h => yes_imp h) (fun _ _ _ h => h) hjs h
theorem g_compHIf {kc i0 : Nat} {elt tgt iter cond : Expr} {scope : Scope} {own : List (Str × Nat)} {x : Env → Option (Cell × Env)} {t : Env → Option (Bool × Env)} (hc : X.calm = true) (hN : X.N.Nodup) (hi : PE X iter (tVar i0)) (ok : BlkOk X.N X.env.scope scope own)
    (hg : ∀ (s : Shared) (H : Hp) (C : Addr) (cl : List (Str × Addr)) (fp : List Addr), PG (X.blk s H scope (compEnvC scope cl C X.env) fp) tgt (tgS X js tg))
    (ht : ∀ (s : Shared) (H : Hp) (C : Addr) (cl : List (Str × Addr)) (fp : List Addr), PT (X.blk s H scope (compEnvC scope cl C X.env) fp) cond (gT X t))
    (he : ∀ (s : Shared) (H : Hp) (C : Addr) (cl : List (Str × Addr)) (fp : List Addr), PE (X.blk s H scope (compEnvC scope cl C X.env) fp) elt (gS X x)) (hjs : ∀ j ∈ js, j ∈ own.map (·.2)) (hs : ∀ x, foldedSetIterable iter X.env x = pure x := by intro _; rfl) :
    PE X (.ListComp elt [⟨tgt, iter, [cond], 0⟩] scope pos) (gS X (mCompH kc i0 tg t x (own.map (·.2)))) :=
  PEi (pe_lc hc hN (pi_list hi) ok hg (fun s H C cl fp => pts_one (ht s H C cl fp)) he hs) fun σ H Q h => compH_imp (fun _ _ _ _ h => h) (fun _ _ _ h => h) (fun _ _ _ h => h) hjs h
/-- y = [..] on one line -/
theorem s_setCompH {kc i0 i : Nat} {y : Str} {py spos : Pos} {elt tgt iter : Expr} {scope : Scope} {own : List (Str × Nat)} {x : Env → Option (Cell × Env)} (hc : X.calm = true) (hN : X.N.Nodup) (hy : X.N[i]? = some y) (hyl : X.env.scope.names.lookup y = some .local) (hp : i ∉ pr)
    (hsw : swapsWith (.ListComp elt [⟨tgt, iter, [], 0⟩] scope pos) (some (.Name y py)) spos.line X.env = pure true) (hi : PE X iter (tVar i0)) (ok : BlkOk X.N X.env.scope scope own)
    (hg : ∀ (s : Shared) (H : Hp) (C : Addr) (cl : List (Str × Addr)) (fp : List Addr), PG (X.blk s H scope (compEnvC scope cl C X.env) fp) tgt (tgS X js tg))
    (he : ∀ (s : Shared) (H : Hp) (C : Addr) (cl : List (Str × Addr)) (fp : List Addr), PE (X.blk s H scope (compEnvC scope cl C X.env) fp) elt (gS X x)) (hjs : ∀ j ∈ js, j ∈ own.map (·.2)) (hs : ∀ x, foldedSetIterable iter X.env x = pure x := by intro _; rfl) :
    PS X (.Assign [.Name y py] (.ListComp elt [⟨tgt, iter, [], 0⟩] scope pos) spos) (sS X pr (sAsg i (mCompH kc i0 tg tYesM x (own.map (·.2))))) :=
  PSi (ps_setLc hc hN hy hyl hsw (pi_list hi) ok hg (fun _ _ _ _ _ => pts_nil) he hs) fun Dn σ H h => compH_imp (fun _ _ _ _ h => h) (fun _ _ _ h => yes_imp h) (fun _ _ _ h => h) hjs (asg_imp hp h)
theorem s_setCompHIf {kc i0 i : Nat} {y : Str} {py spos : Pos} {elt tgt iter cond : Expr} {scope : Scope} {own : List (Str × Nat)} {x : Env → Option (Cell × Env)} {t : Env → Option (Bool × Env)} (hc : X.calm = true) (hN : X.N.Nodup) (hy : X.N[i]? = some y) (hyl : X.env.scope.names.lookup y = some .local) (hp : i ∉ pr)
    (hsw : swapsWith (.ListComp elt [⟨tgt, iter, [cond], 0⟩] scope pos) (some (.Name y py)) spos.line X.env = pure true) (hi : PE X iter (tVar i0)) (ok : BlkOk X.N X.env.scope scope own)
    (hg : ∀ (s : Shared) (H : Hp) (C : Addr) (cl : List (Str × Addr)) (fp : List Addr), PG (X.blk s H scope (compEnvC scope cl C X.env) fp) tgt (tgS X js tg))
    (ht : ∀ (s : Shared) (H : Hp) (C : Addr) (cl : List (Str × Addr)) (fp : List Addr), PT (X.blk s H scope (compEnvC scope cl C X.env) fp) cond (gT X t))
    (he : ∀ (s : Shared) (H : Hp) (C : Addr) (cl : List (Str × Addr)) (fp : List Addr), PE (X.blk s H scope (compEnvC scope cl C X.env) fp) elt (gS X x)) (hjs : ∀ j ∈ js, j ∈ own.map (·.2)) (hs : ∀ x, foldedSetIterable iter X.env x = pure x := by intro _; rfl) :
    PS X (.Assign [.Name y py] (.ListComp elt [⟨tgt, iter, [cond], 0⟩] scope pos) spos) (sS X pr (sAsg i (mCompH kc i0 tg t x (own.map (·.2))))) :=
  PSi (ps_setLc hc hN hy hyl hsw (pi_list hi) ok hg (fun s H C cl fp => pts_one (ht s H C cl fp)) he hs) fun Dn σ H h => compH_imp (fun _ _ _ _ h => h) (fun _ _ _ h => h) (fun _ _ _ h => h) hjs (asg_imp hp h)
/-- y = [..] on one line -/
theorem s_setCompH0 {kc i0 i : Nat} {y : Str} {py spos : Pos} {elt tgt iter : Expr} {scope : Scope} {own : List (Str × Nat)} {x : Env → Option (Cell × Env)} (hc : X.calm = true) (hN : X.N.Nodup) (hy : X.N[i]? = some y) (hyl : X.env.scope.names.lookup y = some .local) (hp : i ∉ pr)
    (hsw : swapsWith (.ListComp elt [⟨tgt, iter, [], 0⟩] scope pos) (some (.Name y py)) spos.line X.env = pure true) (hi : PE X iter (tVar i0)) (ok : BlkOk X.N X.env.scope scope own)
    (hg : ∀ (s : Shared) (H : Hp) (C : Addr) (cl : List (Str × Addr)) (fp : List Addr), PG (X.blk s H scope (compEnvC scope cl C X.env) fp) tgt (tgS X js tg))
    (he : ∀ (s : Shared) (H : Hp) (C : Addr) (cl : List (Str × Addr)) (fp : List Addr), PE (X.blk s H scope (compEnvC scope cl C X.env) fp) elt (gS X x)) (hjs : ∀ j ∈ js, j ∈ own.map (·.2)) (hs : ∀ x, foldedSetIterable iter X.env x = pure x := by intro _; rfl) :
    PS X (.Assign [.Name y py] (.ListComp elt [⟨tgt, iter, [], 0⟩] scope pos) spos) (sS X pr (sAsg i (mFz (mCompH kc i0 tg tYesM x (own.map (·.2)))))) :=
  PSi (ps_setLc hc hN hy hyl hsw (pi_list hi) ok hg (fun _ _ _ _ _ => pts_nil) he hs) fun Dn σ H h => compH_imp (fun _ _ _ _ h => h) (fun _ _ _ h => yes_imp h) (fun _ _ _ h => h) hjs (fz_imp (asg_imp hp h))
theorem s_setCompHIf0 {kc i0 i : Nat} {y : Str} {py spos : Pos} {elt tgt iter cond : Expr} {scope : Scope} {own : List (Str × Nat)} {x : Env → Option (Cell × Env)} {t : Env → Option (Bool × Env)} (hc : X.calm = true) (hN : X.N.Nodup) (hy : X.N[i]? = some y) (hyl : X.env.scope.names.lookup y = some .local) (hp : i ∉ pr)
    (hsw : swapsWith (.ListComp elt [⟨tgt, iter, [cond], 0⟩] scope pos) (some (.Name y py)) spos.line X.env = pure true) (hi : PE X iter (tVar i0)) (ok : BlkOk X.N X.env.scope scope own)
    (hg : ∀ (s : Shared) (H : Hp) (C : Addr) (cl : List (Str × Addr)) (fp : List Addr), PG (X.blk s H scope (compEnvC scope cl C X.env) fp) tgt (tgS X js tg))
    (ht : ∀ (s : Shared) (H : Hp) (C : Addr) (cl : List (Str × Addr)) (fp : List Addr), PT (X.blk s H scope (compEnvC scope cl C X.env) fp) cond (gT X t))
    (he : ∀ (s : Shared) (H : Hp) (C : Addr) (cl : List (Str × Addr)) (fp : List Addr), PE (X.blk s H scope (compEnvC scope cl C X.env) fp) elt (gS X x)) (hjs : ∀ j ∈ js, j ∈ own.map (·.2)) (hs : ∀ x, foldedSetIterable iter X.env x = pure x := by intro _; rfl) :
    PS X (.Assign [.Name y py] (.ListComp elt [⟨tgt, iter, [cond], 0⟩] scope pos) spos) (sS X pr (sAsg i (mFz (mCompH kc i0 tg t x (own.map (·.2)))))) :=
  PSi (ps_setLc hc hN hy hyl hsw (pi_list hi) ok hg (fun s H C cl fp => pts_one (ht s H C cl fp)) he hs) fun Dn σ H h => compH_imp (fun _ _ _ _ h => h) (fun _ _ _ h => h) (fun _ _ _ h => h) hjs (fz_imp (asg_imp hp h))
theorem compH_of {kc i0 : Nat} {tg : D → Env → Option Env} {t : Env → Option (Bool × Env)} {x : Env → Option (Cell × Env)} {own : List Nat} {ρ ρ2 ρ' : Env} {ds : List D} {c : Cell} (e : ρ[i0]? = some (some (1, .lst ds)))
    (h : mComp kc (fun ρ => some (ds, ρ.set i0 none)) tg t x own ρ = some (c, ρ2)) (hz : ρ2.set i0 (some (1, .lst ds)) = ρ') : mCompH kc i0 tg t x own ρ = some (c, ρ') := by
  unfold mComp at h
  unfold mCompH
  rw [e]
  simp only at h ⊢
  split at h
  · rename_i hq
    rw [if_pos hq]
    split at h
    · rename_i rs ρz em
      cases h
      (try rw [em])
      simp only [hz]
    · cases h
  · cases h
end
end Mn

namespace Mn
open PySem PySem.Spec PyProof.Rows L2
abbrev topS (i : Nat) : Stmt := PySem.Challenge.pw_wordsquares_k26_whole_written_changes.main.body.getD i (.Pass ⟨0, 0, 0, 0⟩)
/-! is_whole -/
abbrev s_is_whole : Stmt := topS 4
abbrev N_is_whole : List Str := ["value"]
theorem sc_is_whole : FnScope N_is_whole ["value"] (defScope s_is_whole) := ⟨rfl, rfl, rfl, by decide +kernel, rfl, by decide +kernel, by decide +kernel⟩
noncomputable def m_is_whole : Mn.Env → Option Out :=
  (sRet (mP (pAnd (pUn (dIsi "int") (pVar 0)) (pUn dNot (pUn (dIsi "bool") (pVar 0))))))
noncomputable def F_is_whole : Fp0 := run0 1 m_is_whole
theorem b_is_whole {P : Program} {w : World} {K : PySem.W.Frag} {mg : Str → Option Value} {base : Heap} {fa : Addr} (z_bool : mg "bool" = none) (z_int : mg "int" = none) (z_isinstance : mg "isinstance" = none) : Body P w K mg base N_is_whole "is_whole" s_is_whole fa 0 [] m_is_whole := fun cdv A outer s H hr hgd =>
  (s_one (s_ret (g_p (p_and (p_isi (T := "int") (by decide) (p_var (pv 0)) (by rfl) z_isinstance PyProof.Rows.boot_isinstance (by rfl) z_int PyProof.Rows.boot_int) (p_one (p_not (p_isi (T := "bool") (by decide) (p_var (pv 0)) (by rfl) z_isinstance PyProof.Rows.boot_isinstance (by rfl) z_bool PyProof.Rows.boot_bool)))))))
/-! is_between -/
abbrev s_is_between : Stmt := topS 5
abbrev N_is_between : List Str := ["value", "low", "high"]
theorem sc_is_between : FnScope N_is_between ["value", "low", "high"] (defScope s_is_between) := ⟨rfl, rfl, rfl, by decide +kernel, rfl, by decide +kernel, by decide +kernel⟩
noncomputable def m_is_between : Mn.Env → Option Out :=
  (sSeq (sIf (mtNot (mtTr (mCall 1 F_is_whole (mCons 0 (mO (oVar 0)) mNil)))) (sRet (mP (pC (.bl false)))) sNx)
    (sRet (mP (pAnd (pOr (pBin dIsG (pVar 1) (pC .non)) (pBin dGe (pVar 0) (pVar 1))) (pOr (pBin dIsG (pVar 2) (pC .non)) (pBin dLe (pVar 0) (pVar 2)))))))
noncomputable def F_is_between : Fp0 := run0 3 m_is_between
theorem b_is_between {P : Program} {w : World} {K : PySem.W.Frag} {mg : Str → Option Value} {base : Heap} {fa : Addr} (h_is_whole : FnAt P w K mg base 1 "is_whole" 1 (sp0 K mg 1 F_is_whole)) : Body P w K mg base N_is_between "is_between" s_is_between fa 1 [] m_is_between := fun cdv A outer s H hr hgd =>
  (s_cons (s_if (gt_not (gt_truth (g_call h_is_whole hr hgd (by rfl) (g_acons (g_o (o_var (pv 0))) g_anil)))) (s_one (s_ret (g_p p_bl))) s_nil)
    (s_one (s_ret (g_p (p_and (p_or (p_cmp op_isG w_isG (p_var (pv 1)) p_non (nomark _)) (p_one (p_cmp op_ge w_cmp2 (p_var (pv 0)) (p_var (pv 1)) (nomark _)))) (p_one (p_or (p_cmp op_isG w_isG (p_var (pv 2)) p_non (nomark _)) (p_one (p_cmp op_le w_cmp2 (p_var (pv 0)) (p_var (pv 2)) (nomark _))))))))))
/-! check_number -/
abbrev s_check_number : Stmt := topS 6
abbrev N_check_number : List Str := ["number", "low", "high"]
theorem sc_check_number : FnScope N_check_number ["number", "low", "high"] (defScope s_check_number) := ⟨rfl, rfl, rfl, by decide +kernel, rfl, by decide +kernel, by decide +kernel⟩
noncomputable def m_check_number : Mn.Env → Option Out :=
  (sIf (mtNot (mtTr (mCall 3 F_is_between (mCons 0 (mO (oVar 0)) (mCons 0 (mO (oVar 1)) (mCons 0 (mO (oVar 2)) mNil)))))) sNo sNx)
noncomputable def F_check_number : Fp0 := run0 3 m_check_number
theorem b_check_number {P : Program} {w : World} {K : PySem.W.Frag} {mg : Str → Option Value} {base : Heap} {fa : Addr} (h_is_between : FnAt P w K mg base 2 "is_between" 3 (sp0 K mg 3 F_is_between)) : Body P w K mg base N_check_number "check_number" s_check_number fa 2 [] m_check_number := fun cdv A outer s H hr hgd =>
  (s_one (s_if (gt_not (gt_truth (g_call h_is_between hr hgd (by rfl) (g_acons (g_o (o_var (pv 0))) (g_acons (g_o (o_var (pv 1))) (g_acons (g_o (o_var (pv 2))) g_anil)))))) ss_no s_nil))
/-! power_of_two -/
abbrev s_power_of_two : Stmt := topS 7
abbrev N_power_of_two : List Str := ["many"]
theorem sc_power_of_two : FnScope N_power_of_two ["many"] (defScope s_power_of_two) := ⟨rfl, rfl, rfl, by decide +kernel, rfl, by decide +kernel, by decide +kernel⟩
noncomputable def m_power_of_two : Mn.Env → Option Out :=
  (sRet (mP (pBin dShl (pC (.int 1)) (pVar 0))))
noncomputable def F_power_of_two : Fp0 := run0 1 m_power_of_two
theorem b_power_of_two {P : Program} {w : World} {K : PySem.W.Frag} {mg : Str → Option Value} {base : Heap} {fa : Addr}  : Body P w K mg base N_power_of_two "power_of_two" s_power_of_two fa 0 [] m_power_of_two := fun cdv A outer s H hr hgd =>
  (s_one (s_ret (g_p (p_shl p_int (p_var (pv 0))))))
/-! turned_over -/
abbrev s_turned_over : Stmt := topS 8
abbrev N_turned_over : List Str := ["rows", "at", "row"]
theorem sc_turned_over : FnScope N_turned_over ["rows"] (defScope s_turned_over) := ⟨rfl, rfl, rfl, by decide +kernel, rfl, by decide +kernel, by decide +kernel⟩
noncomputable def m_turned_over : Mn.Env → Option Out :=
  (sRet (mComp 1 (iRange (mCons 0 (mP (pCall dLen (pCons (pBin dIx (pVar 0) (pC (.int 0))) pNil))) mNil)) (tName 1) tYesM (mComp 0 (iSeq (mO (oVar 0))) (tName 2) tYesM (mO (oIx (oVar 2) (pVar 1))) [2]) [1]))
noncomputable def F_turned_over : Fp0 := run0 3 m_turned_over
theorem b_turned_over {P : Program} {w : World} {K : PySem.W.Frag} {mg : Str → Option Value} {base : Heap} {fa : Addr} (z_len : mg "len" = none) (z_range : mg "range" = none) : Body P w K mg base N_turned_over "turned_over" s_turned_over fa 0 [] m_turned_over := fun cdv A outer s H hr hgd =>
  (s_one (s_ret (g_comp (own := [("at", 1)]) rfl sc_turned_over.nd (i_range1 (by rfl) z_range (g_acons (g_p (p_callB call_lenS w_len (by rfl) z_len PySem.boot_len (p_acons (p_ix ix_seq w_ix (p_var (pv 0)) p_int (fun _ _ => rfl)) p_anil))) g_anil) (h1 := (len_cons len_nil))) (blkOk_by (N := N_turned_over) (sc := (defScope s_turned_over)) (own := [("at", 1)]) (by decide +kernel)) (fun _ _ _ _ _ => (tg_name sc_turned_over.nd rfl (.inr rfl))) (fun _ _ _ _ _ => (g_comp (own := [("row", 2)]) rfl sc_turned_over.nd (i_seq (g_o (o_var (pv 0)))) (blkOk_by (N := N_turned_over) (sc := (relS _ (defScope s_turned_over))) (own := [("row", 2)]) (by decide +kernel)) (fun _ _ _ _ _ => (tg_name sc_turned_over.nd rfl (.inl rfl))) (fun _ _ _ _ _ => (g_o (o_ix (o_var (pv 2)) (p_var (pv 1)) (fun _ _ => rfl)))) (by decide))) (by decide))))
/-! product_of -/
abbrev s_product_of : Stmt := topS 9
abbrev N_product_of : List Str := ["one", "other", "columns", "row", "column", "left", "right"]
theorem sc_product_of : FnScope N_product_of ["one", "other"] (defScope s_product_of) := ⟨rfl, rfl, rfl, by decide +kernel, rfl, by decide +kernel, by decide +kernel⟩
noncomputable def m_product_of : Mn.Env → Option Out :=
  (sSeq (sAsg 2 (mFz (mCall 1 F_turned_over (mCons 0 (mO (oVar 1)) mNil))))
    (sRet (mComp 1 (iSeq (mO (oVar 0))) (tName 3) tYesM (mComp 0 (iSeq (mO (oVar 2))) (tName 4) tYesM (mCallF (ofN dSum) (mCons 0 (mComp 0 (iZipSM (mCons 0 (mO (oVar 3)) (mCons 0 (mO (oVar 4)) mNil))) (tTupT 2 (tsCons (tName 5) (tsCons (tName 6) tsNil))) tYesM (mP (pBin dMul (pVar 5) (pVar 6))) [5, 6]) mNil)) [4]) [3])))
noncomputable def F_product_of : Fp0 := run0 7 m_product_of
theorem b_product_of {P : Program} {w : World} {K : PySem.W.Frag} {mg : Str → Option Value} {base : Heap} {fa : Addr} (h_turned_over : FnAt P w K mg base 1 "turned_over" 1 (sp0 K mg 1 F_turned_over)) (z_sum : mg "sum" = none) (z_zip : mg "zip" = none) : Body P w K mg base N_product_of "product_of" s_product_of fa 1 [] m_product_of := fun cdv A outer s H hr hgd =>
  (s_cons (s_asg sc_product_of.nd rfl (.inr rfl) (by decide) (g_fz (g_call h_turned_over hr hgd (by rfl) (g_acons (g_o (o_var (pv 1))) g_anil))))
    (s_one (s_ret (g_comp (own := [("row", 3)]) rfl sc_product_of.nd (i_seq (g_o (o_var (pv 0)))) (blkOk_by (N := N_product_of) (sc := (defScope s_product_of)) (own := [("row", 3)]) (by decide +kernel)) (fun _ _ _ _ _ => (tg_name sc_product_of.nd rfl (.inr rfl))) (fun _ _ _ _ _ => (g_comp (own := [("column", 4)]) rfl sc_product_of.nd (i_seq (g_o (o_var (pv 2)))) (blkOk_by (N := N_product_of) (sc := (relS _ (defScope s_product_of))) (own := [("column", 4)]) (by decide +kernel)) (fun _ _ _ _ _ => (tg_name sc_product_of.nd rfl (.inl rfl))) (fun _ _ _ _ _ => (g_callB (cr_sum rfl) (w_of w_sum) (by rfl) z_sum PyProof.Rows.boot_sum (g_acons (g_comp (own := [("left", 5), ("right", 6)]) rfl sc_product_of.nd (i_zipS (by rfl) z_zip (g_acons (g_o (o_var (pv 3))) (g_acons (g_o (o_var (pv 4))) g_anil))) (blkOk_by (N := N_product_of) (sc := (relS _ (relS _ (defScope s_product_of)))) (own := [("left", 5), ("right", 6)]) (by decide +kernel)) (fun _ _ _ _ _ => (tg_tup rfl (tg_cons (tg_name sc_product_of.nd rfl (.inl rfl)) (tg_cons (tg_name sc_product_of.nd rfl (.inl rfl)) tg_nil)))) (fun _ _ _ _ _ => (g_p (p_mul (p_var (pv 5)) (p_var (pv 6))))) (by decide)) g_anil))) (by decide))) (by decide)))))
/-! changed_by -/
abbrev s_changed_by : Stmt := topS 10
abbrev N_changed_by : List Str := ["form", "change"]
theorem sc_changed_by : FnScope N_changed_by ["form", "change"] (defScope s_changed_by) := ⟨rfl, rfl, rfl, by decide +kernel, rfl, by decide +kernel, by decide +kernel⟩
noncomputable def m_changed_by : Mn.Env → Option Out :=
  (sRet (mCall 2 F_product_of (mCons 0 (mCall 2 F_product_of (mCons 0 (mCall 1 F_turned_over (mCons 0 (mO (oVar 1)) mNil)) (mCons 0 (mO (oVar 0)) mNil))) (mCons 0 (mO (oVar 1)) mNil))))
noncomputable def F_changed_by : Fp0 := run0 2 m_changed_by
theorem b_changed_by {P : Program} {w : World} {K : PySem.W.Frag} {mg : Str → Option Value} {base : Heap} {fa : Addr} (h_product_of : FnAt P w K mg base 2 "product_of" 2 (sp0 K mg 2 F_product_of)) (h_turned_over : FnAt P w K mg base 2 "turned_over" 1 (sp0 K mg 1 F_turned_over)) : Body P w K mg base N_changed_by "changed_by" s_changed_by fa 2 [] m_changed_by := fun cdv A outer s H hr hgd =>
  (s_one (s_ret (g_call h_product_of hr hgd (by rfl) (g_acons (g_call h_product_of hr hgd (by rfl) (g_acons (g_call h_turned_over hr hgd (by rfl) (g_acons (g_o (o_var (pv 1))) g_anil)) (g_acons (g_o (o_var (pv 0))) g_anil))) (g_acons (g_o (o_var (pv 1))) g_anil)))))
/-! form_of_piece -/
abbrev s_form_of_piece : Stmt := topS 11
abbrev N_form_of_piece : List Str := ["piece", "by"]
theorem sc_form_of_piece : FnScope N_form_of_piece ["piece"] (defScope s_form_of_piece) := ⟨rfl, rfl, rfl, by decide +kernel, rfl, by decide +kernel, by decide +kernel⟩
noncomputable def m_form_of_piece : Mn.Env → Option Out :=
  (sSeq (sAsg 1 (mFz (mCall 1 F_power_of_two (mCons 0 (mO (oIx (oVar 0) (pC (.int 0)))) mNil))))
    (sSeq (sIf (mtP (pB (pBin dEq (pBin dMod (pBin dIx (pVar 0) (pC (.int 1))) (pC (.int 2))) (pC (.int 1))))) (sRet (mLst 0 (mCons 0 (mLst 0 (mCons 0 (mP (pBin dMul (pVar 1) (pBin dIx (pVar 0) (pC (.int 1))))) mNil)) mNil))) sNx)
    (sRet (mLst 0 (mCons 0 (mLst 0 (mCons 0 (mP (pBin dMul (pVar 1) (pBin dIx (pVar 0) (pC (.int 1))))) (mCons 0 (mO (oVar 1)) mNil))) (mCons 0 (mLst 0 (mCons 0 (mO (oVar 1)) (mCons 0 (mP (pBin dMul (pVar 1) (pBin dIx (pVar 0) (pC (.int 1))))) mNil))) mNil))))))
noncomputable def F_form_of_piece : Fp0 := run0 2 m_form_of_piece
theorem b_form_of_piece {P : Program} {w : World} {K : PySem.W.Frag} {mg : Str → Option Value} {base : Heap} {fa : Addr} (h_power_of_two : FnAt P w K mg base 1 "power_of_two" 1 (sp0 K mg 1 F_power_of_two)) : Body P w K mg base N_form_of_piece "form_of_piece" s_form_of_piece fa 1 [] m_form_of_piece := fun cdv A outer s H hr hgd =>
  (s_cons (s_asg sc_form_of_piece.nd rfl (.inl rfl) (by decide) (g_fz (g_call h_power_of_two hr hgd (by rfl) (g_acons (g_o (o_ix (o_var (pv 0)) p_int (fun _ _ => rfl))) g_anil))))
    (s_cons (s_if (gt_p (t_cmp (op_eqD (hu64 hr)) w_eq (p_mod (p_ix ix_seq w_ix (p_var (pv 0)) p_int (fun _ _ => rfl)) p_int) p_int (nomark _))) (s_one (s_ret (g_lst (g_acons (g_lst (g_acons (g_p (p_mul (p_var (pv 1)) (p_ix ix_seq w_ix (p_var (pv 0)) p_int (fun _ _ => rfl)))) g_anil)) g_anil)))) s_nil)
    (s_one (s_ret (g_lst (g_acons (g_lst (g_acons (g_p (p_mul (p_var (pv 1)) (p_ix ix_seq w_ix (p_var (pv 0)) p_int (fun _ _ => rfl)))) (g_acons (g_o (o_var (pv 1))) g_anil))) (g_acons (g_lst (g_acons (g_o (o_var (pv 1))) (g_acons (g_p (p_mul (p_var (pv 1)) (p_ix ix_seq w_ix (p_var (pv 0)) p_int (fun _ _ => rfl)))) g_anil))) g_anil)))))))
/-! block_sum -/
abbrev s_block_sum : Stmt := topS 12
abbrev N_block_sum : List Str := ["one", "other", "wide", "more", "row"]
theorem sc_block_sum : FnScope N_block_sum ["one", "other"] (defScope s_block_sum) := ⟨rfl, rfl, rfl, by decide +kernel, rfl, by decide +kernel, by decide +kernel⟩
noncomputable def m_block_sum : Mn.Env → Option Out :=
  (sSeq (sAsgT (mTup 0 (mCons 0 (mP (pCall dLen (pCons (pVar 0) pNil))) (mCons 0 (mP (pCall dLen (pCons (pVar 1) pNil))) mNil))) (cTup 2 (csCons (cName0 2) (csCons (cName0 3) csNil))))
    (sRet (mBinF dAddG (mComp 0 (iSeq (mO (oVar 0))) (tName 4) tYesM (mBinF dAddG (mO (oVar 4)) (mBinF dMulG (mLst 0 (mCons 0 (mP (pC (.int 0))) mNil)) (mO (oVar 3)))) [4]) (mComp 0 (iSeq (mO (oVar 1))) (tName 4) tYesM (mBinF dAddG (mBinF dMulG (mLst 0 (mCons 0 (mP (pC (.int 0))) mNil)) (mO (oVar 2))) (mO (oVar 4))) [4]))))
noncomputable def F_block_sum : Fp0 := run0 5 m_block_sum
theorem b_block_sum {P : Program} {w : World} {K : PySem.W.Frag} {mg : Str → Option Value} {base : Heap} {fa : Addr} (z_len : mg "len" = none) : Body P w K mg base N_block_sum "block_sum" s_block_sum fa 0 [] m_block_sum := fun cdv A outer s H hr hgd =>
  (s_cons (s_asgT (tc_tup rfl (tc_cons (tc_name0 sc_block_sum.nd rfl (.inr rfl)) (tc_cons (tc_name0 sc_block_sum.nd rfl (.inr rfl)) tc_nil))) (g_tup (g_acons (g_p (p_callB call_lenS w_len (by rfl) z_len PySem.boot_len (p_acons (p_var (pv 0)) p_anil))) (g_acons (g_p (p_callB call_lenS w_len (by rfl) z_len PySem.boot_len (p_acons (p_var (pv 1)) p_anil))) g_anil))) (by decide))
    (s_one (s_ret (g_add (g_comp (own := [("row", 4)]) rfl sc_block_sum.nd (i_seq (g_o (o_var (pv 0)))) (blkOk_by (N := N_block_sum) (sc := (defScope s_block_sum)) (own := [("row", 4)]) (by decide +kernel)) (fun _ _ _ _ _ => (tg_name sc_block_sum.nd rfl (.inl rfl))) (fun _ _ _ _ _ => (g_add (g_o (o_var (pv 4))) (g_mul (g_lst (g_acons (g_p p_int) g_anil)) (g_o (o_var (pv 3)))))) (by decide)) (g_comp (own := [("row", 4)]) rfl sc_block_sum.nd (i_seq (g_o (o_var (pv 1)))) (blkOk_by (N := N_block_sum) (sc := (defScope s_block_sum)) (own := [("row", 4)]) (by decide +kernel)) (fun _ _ _ _ _ => (tg_name sc_block_sum.nd rfl (.inl rfl))) (fun _ _ _ _ _ => (g_add (g_mul (g_lst (g_acons (g_p p_int) g_anil)) (g_o (o_var (pv 2)))) (g_o (o_var (pv 4))))) (by decide))))))
/-! check_odd -/
abbrev s_check_odd : Stmt := topS 15
abbrev N_check_odd : List Str := ["number"]
theorem sc_check_odd : FnScope N_check_odd ["number"] (defScope s_check_odd) := ⟨rfl, rfl, rfl, by decide +kernel, rfl, by decide +kernel, by decide +kernel⟩
noncomputable def m_check_odd : Mn.Env → Option Out :=
  (sIf (mtOr (mtNot (mtTr (mCall 1 F_is_whole (mCons 0 (mO (oVar 0)) mNil)))) (mtP (pB (pBin dEq (pBin dMod (pVar 0) (pC (.int 2))) (pC (.int 0)))))) sNo sNx)
noncomputable def F_check_odd : Fp0 := run0 1 m_check_odd
theorem b_check_odd {P : Program} {w : World} {K : PySem.W.Frag} {mg : Str → Option Value} {base : Heap} {fa : Addr} (h_is_whole : FnAt P w K mg base 1 "is_whole" 1 (sp0 K mg 1 F_is_whole)) : Body P w K mg base N_check_odd "check_odd" s_check_odd fa 1 [] m_check_odd := fun cdv A outer s H hr hgd =>
  (s_one (s_if (PW.pt (gt_or (gt_not (gt_truth (g_call h_is_whole hr hgd (by rfl) (g_acons (g_o (o_var (pv 0))) g_anil)))) (gt_or1 (gt_p (t_cmp (op_eqD (hu64 hr)) w_eq (p_mod (p_var (pv 0)) p_int) p_int (nomark _)))))) ss_no s_nil))
/-! check_kind -/
abbrev s_check_kind : Stmt := topS 16
abbrev N_check_kind : List Str := ["kind"]
theorem sc_check_kind : FnScope N_check_kind ["kind"] (defScope s_check_kind) := ⟨rfl, rfl, rfl, by decide +kernel, rfl, by decide +kernel, by decide +kernel⟩
noncomputable def m_check_kind : Mn.Env → Option Out :=
  (sIf (mtOr (mtNot (mtTr (mCall 1 F_is_whole (mCons 0 (mO (oVar 0)) mNil)))) (mtV (mBin dNotInG (mO (oVar 0)) (mLst 0 (mCons 0 (mP (pC (.int 0))) (mCons 0 (mP (pC (.int 2))) mNil)))))) sNo sNx)
noncomputable def F_check_kind : Fp0 := run0 1 m_check_kind
theorem b_check_kind {P : Program} {w : World} {K : PySem.W.Frag} {mg : Str → Option Value} {base : Heap} {fa : Addr} (h_is_whole : FnAt P w K mg base 1 "is_whole" 1 (sp0 K mg 1 F_is_whole)) : Body P w K mg base N_check_kind "check_kind" s_check_kind fa 1 [] m_check_kind := fun cdv A outer s H hr hgd =>
  (s_one (s_if (PW.pt (gt_or (gt_not (gt_truth (g_call h_is_whole hr hgd (by rfl) (g_acons (g_o (o_var (pv 0))) g_anil)))) (gt_or1 (gt_cmp (op_notInG (hu65 hr)) w_notInG (g_o (o_var (pv 0))) (g_lst (g_acons (g_p p_int) (g_acons (g_p p_int) g_anil))) (by with_unfolding_all rfl))))) ss_no s_nil))
/-! squares_turned -/
abbrev s_squares_turned : Stmt := topS 17
abbrev N_squares_turned : List Str := ["low", "one", "high", "other", "number", "step", "first"]
theorem sc_squares_turned : FnScope N_squares_turned ["low", "one", "high", "other", "number"] (defScope s_squares_turned) := ⟨rfl, rfl, rfl, by decide +kernel, rfl, by decide +kernel, by decide +kernel⟩
noncomputable def m_squares_turned : Mn.Env → Option Out :=
  (sSeq (sExp (mCall 3 F_check_number (mCons 0 (mO (oVar 0)) (mCons 0 (mP (pC (.int 0))) (mCons 0 (mO (oK (.int 64))) mNil)))))
    (sSeq (sExp (mCall 1 F_check_odd (mCons 0 (mO (oVar 1)) mNil)))
    (sSeq (sExp (mCall 3 F_check_number (mCons 0 (mO (oVar 2)) (mCons 0 (mO (oVar 0)) (mCons 0 (mO (oK (.int 64))) mNil)))))
    (sSeq (sExp (mCall 1 F_check_odd (mCons 0 (mO (oVar 3)) mNil)))
    (sSeq (sIf (mtOr (mtNot (mtTr (mCall 1 F_is_whole (mCons 0 (mO (oVar 4)) mNil)))) (mtP (ptAnd (pB (pBin dEq (pVar 2) (pVar 0))) (pB (pBin dEq (pBin dMod (pVar 4) (pC (.int 2))) (pC (.int 1))))))) sNo sNx)
    (sSeq (sAsg 5 (mFz (mBinF dMulG (mBinF dMulG (mCall 1 F_power_of_two (mCons 0 (mP (pBin dSub (pVar 2) (pVar 0))) mNil)) (mO (oVar 3))) (mO (oVar 4)))))
    (sSeq (sAsg 6 (mP (pBin dAdd (pVar 1) (pBin dMul (pVar 5) (pVar 4)))))
    (sRet (mTup 2 (mCons 2 (mLst 1 (mCons 1 (mLst 0 (mCons 0 (mP (pC (.int 1))) (mCons 0 (mP (pBin dSub (pC (.int 0)) (pVar 5))) mNil))) (mCons 1 (mLst 0 (mCons 0 (mO (oVar 4)) (mCons 0 (mO (oVar 1)) mNil))) mNil))) (mCons 2 (mO (oVar 6)) (mCons 2 (mP (pBin dMul (pBin dMul (pVar 1) (pVar 3)) (pVar 6))) mNil))))))))))))
noncomputable def F_squares_turned : Fp0 := run0 7 m_squares_turned
theorem b_squares_turned {P : Program} {w : World} {K : PySem.W.Frag} {mg : Str → Option Value} {base : Heap} {fa : Addr} (c_MOST_SCALE : ∃ t, mg "MOST_SCALE" = some (.int 64 t)) (h_check_number : FnAt P w K mg base 3 "check_number" 3 (sp0 K mg 3 F_check_number)) (h_check_odd : FnAt P w K mg base 3 "check_odd" 1 (sp0 K mg 1 F_check_odd)) (h_is_whole : FnAt P w K mg base 3 "is_whole" 1 (sp0 K mg 1 F_is_whole)) (h_power_of_two : FnAt P w K mg base 3 "power_of_two" 1 (sp0 K mg 1 F_power_of_two)) : Body P w K mg base N_squares_turned "squares_turned" s_squares_turned fa 3 [] m_squares_turned := fun cdv A outer s H hr hgd =>
  (s_cons (s_exp (g_call h_check_number hr hgd (by rfl) (g_acons (g_o (o_var (pv 0))) (g_acons (g_p p_int) (g_acons (g_o (o_glv (v := .int 64) (by rfl) c_MOST_SCALE.choose_spec ⟨_, rfl⟩ (fun _ => rfl))) g_anil)))))
    (s_cons (s_exp (g_call h_check_odd hr hgd (by rfl) (g_acons (g_o (o_var (pv 1))) g_anil)))
    (s_cons (s_exp (g_call h_check_number hr hgd (by rfl) (g_acons (g_o (o_var (pv 2))) (g_acons (g_o (o_var (pv 0))) (g_acons (g_o (o_glv (v := .int 64) (by rfl) c_MOST_SCALE.choose_spec ⟨_, rfl⟩ (fun _ => rfl))) g_anil)))))
    (s_cons (s_exp (g_call h_check_odd hr hgd (by rfl) (g_acons (g_o (o_var (pv 3))) g_anil)))
    (s_cons (s_if (PW.pt (gt_or (gt_not (gt_truth (g_call h_is_whole hr hgd (by rfl) (g_acons (g_o (o_var (pv 4))) g_anil)))) (gt_or1 (gt_p (PW.pt (t_and (t_cmp (op_eqD (hu64 hr)) w_eq (p_var (pv 2)) (p_var (pv 0)) (nomark _)) (t_and1 (t_cmp (op_eqD (hu64 hr)) w_eq (p_mod (p_var (pv 4)) p_int) p_int (nomark _))))))))) ss_no s_nil)
    (s_cons (s_asg sc_squares_turned.nd rfl (.inl rfl) (by decide) (g_fz (g_mul (g_mul (g_call h_power_of_two hr hgd (by rfl) (g_acons (g_p (p_sub (p_var (pv 2)) (p_var (pv 0)))) g_anil)) (g_o (o_var (pv 3)))) (g_o (o_var (pv 4))))))
    (s_cons (s_asg sc_squares_turned.nd rfl (.inl rfl) (by decide) (g_p (p_add (p_var (pv 1)) (p_mul (p_var (pv 5)) (p_var (pv 4))))))
    (s_one (s_ret (g_tup (g_acons (g_lst (g_acons (g_lst (g_acons (g_p p_int) (g_acons (g_p (p_sub p_int (p_var (pv 5)))) g_anil))) (g_acons (g_lst (g_acons (g_o (o_var (pv 4))) (g_acons (g_o (o_var (pv 1))) g_anil))) g_anil))) (g_acons (g_o (o_var (pv 6))) (g_acons (g_p (p_mul (p_mul (p_var (pv 1)) (p_var (pv 3))) (p_var (pv 6)))) g_anil)))))))))))))
/-! square_beside_pair -/
abbrev s_square_beside_pair : Stmt := topS 18
abbrev N_square_beside_pair : List Str := ["low", "one", "high", "kind", "step", "columns", "change"]
theorem sc_square_beside_pair : FnScope N_square_beside_pair ["low", "one", "high", "kind"] (defScope s_square_beside_pair) := ⟨rfl, rfl, rfl, by decide +kernel, rfl, by decide +kernel, by decide +kernel⟩
noncomputable def m_square_beside_pair : Mn.Env → Option Out :=
  (sSeq (sExp (mCall 3 F_check_number (mCons 0 (mO (oVar 0)) (mCons 0 (mP (pC (.int 0))) (mCons 0 (mO (oK (.int 64))) mNil)))))
    (sSeq (sExp (mCall 1 F_check_odd (mCons 0 (mO (oVar 1)) mNil)))
    (sSeq (sExp (mCall 3 F_check_number (mCons 0 (mO (oVar 2)) (mCons 0 (mO (oVar 0)) (mCons 0 (mO (oK (.int 64))) mNil)))))
    (sSeq (sExp (mCall 1 F_check_kind (mCons 0 (mO (oVar 3)) mNil)))
    (sSeq (sAsg 4 (mFz (mCall 1 F_power_of_two (mCons 0 (mP (pBin dSub (pVar 2) (pVar 0))) mNil))))
    (sSeq (sAsg 5 (mFz (mLst 0 (mCons 0 (mLst 0 (mCons 0 (mP (pC (.int 1))) (mCons 0 (mP (pC (.int 1))) (mCons 0 (mP (pC (.int 1))) mNil)))) (mCons 0 (mLst 0 (mCons 0 (mP (pBin dSub (pC (.int 0)) (pVar 4))) (mCons 0 (mO (oVar 1)) (mCons 0 (mP (pC (.int 0))) mNil)))) (mCons 0 (mLst 0 (mCons 0 (mP (pBin dSub (pC (.int 0)) (pVar 4))) (mCons 0 (mP (pC (.int 0))) (mCons 0 (mO (oVar 1)) mNil)))) mNil))))))
    (sSeq (sIf (mtP (pB (pBin dEq (pVar 3) (pC (.int 2))))) (sAsg 5 (mFz (mLst 0 (mCons 0 (mLst 0 (mCons 0 (mP (pC (.int 1))) (mCons 0 (mP (pC (.int 1))) (mCons 0 (mP (pC (.int 0))) mNil)))) (mCons 0 (mLst 0 (mCons 0 (mP (pBin dSub (pC (.int 0)) (pVar 4))) (mCons 0 (mP (pC (.int 0))) (mCons 0 (mO (oVar 1)) mNil)))) (mCons 0 (mLst 0 (mCons 0 (mP (pBin dSub (pC (.int 0)) (pBin dMul (pC (.int 2)) (pVar 4)))) (mCons 0 (mO (oVar 1)) (mCons 0 (mP (pC (.int 0))) mNil)))) mNil)))))) sNx)
    (sSeq (sAsg 6 (mCall 1 F_turned_over (mCons 0 (mO (oVar 5)) mNil)))
    (sRet (mTup 2 (mConsL 2 6 (mCons 2 (mThaw (mCall 2 F_changed_by (mCons 0 (mCall 2 F_block_sum (mCons 0 (mLst 0 (mCons 0 (mLst 0 (mCons 0 (mBinF dMulG (mCall 1 F_power_of_two (mCons 0 (mO (oVar 0)) mNil)) (mO (oVar 1))) mNil)) mNil)) (mCons 0 (mCall 1 F_form_of_piece (mCons 0 (mTup 0 (mCons 0 (mO (oVar 2)) (mCons 0 (mO (oVar 3)) mNil))) mNil)) mNil))) (mCons 0 (mO (oVar 6)) mNil)))) mNil))))))))))))
noncomputable def F_square_beside_pair : Fp0 := run0 7 m_square_beside_pair
theorem b_square_beside_pair {P : Program} {w : World} {K : PySem.W.Frag} {mg : Str → Option Value} {base : Heap} {fa : Addr} (c_MOST_SCALE : ∃ t, mg "MOST_SCALE" = some (.int 64 t)) (h_block_sum : FnAt P w K mg base 3 "block_sum" 2 (sp0 K mg 2 F_block_sum)) (h_changed_by : FnAt P w K mg base 3 "changed_by" 2 (sp0 K mg 2 F_changed_by)) (h_check_kind : FnAt P w K mg base 3 "check_kind" 1 (sp0 K mg 1 F_check_kind)) (h_check_number : FnAt P w K mg base 3 "check_number" 3 (sp0 K mg 3 F_check_number)) (h_check_odd : FnAt P w K mg base 3 "check_odd" 1 (sp0 K mg 1 F_check_odd)) (h_form_of_piece : FnAt P w K mg base 3 "form_of_piece" 1 (sp0 K mg 1 F_form_of_piece)) (h_power_of_two : FnAt P w K mg base 3 "power_of_two" 1 (sp0 K mg 1 F_power_of_two)) (h_turned_over : FnAt P w K mg base 3 "turned_over" 1 (sp0 K mg 1 F_turned_over)) : Body P w K mg base N_square_beside_pair "square_beside_pair" s_square_beside_pair fa 3 [] m_square_beside_pair := fun cdv A outer s H hr hgd =>
  (s_cons (s_exp (g_call h_check_number hr hgd (by rfl) (g_acons (g_o (o_var (pv 0))) (g_acons (g_p p_int) (g_acons (g_o (o_glv (v := .int 64) (by rfl) c_MOST_SCALE.choose_spec ⟨_, rfl⟩ (fun _ => rfl))) g_anil)))))
    (s_cons (s_exp (g_call h_check_odd hr hgd (by rfl) (g_acons (g_o (o_var (pv 1))) g_anil)))
    (s_cons (s_exp (g_call h_check_number hr hgd (by rfl) (g_acons (g_o (o_var (pv 2))) (g_acons (g_o (o_var (pv 0))) (g_acons (g_o (o_glv (v := .int 64) (by rfl) c_MOST_SCALE.choose_spec ⟨_, rfl⟩ (fun _ => rfl))) g_anil)))))
    (s_cons (s_exp (g_call h_check_kind hr hgd (by rfl) (g_acons (g_o (o_var (pv 3))) g_anil)))
    (s_cons (s_asg sc_square_beside_pair.nd rfl (.inl rfl) (by decide) (g_fz (g_call h_power_of_two hr hgd (by rfl) (g_acons (g_p (p_sub (p_var (pv 2)) (p_var (pv 0)))) g_anil))))
    (s_cons (s_asg sc_square_beside_pair.nd rfl (.inl rfl) (by decide) (g_fz (g_lst (g_acons (g_lst (g_acons (g_p p_int) (g_acons (g_p p_int) (g_acons (g_p p_int) g_anil)))) (g_acons (g_lst (g_acons (g_p (p_sub p_int (p_var (pv 4)))) (g_acons (g_o (o_var (pv 1))) (g_acons (g_p p_int) g_anil)))) (g_acons (g_lst (g_acons (g_p (p_sub p_int (p_var (pv 4)))) (g_acons (g_p p_int) (g_acons (g_o (o_var (pv 1))) g_anil)))) g_anil))))))
    (s_cons (s_if (gt_p (t_cmp (op_eqD (hu64 hr)) w_eq (p_var (pv 3)) p_int (nomark _))) (s_one (s_asg sc_square_beside_pair.nd rfl (.inl rfl) (by decide) (g_fz (g_lst (g_acons (g_lst (g_acons (g_p p_int) (g_acons (g_p p_int) (g_acons (g_p p_int) g_anil)))) (g_acons (g_lst (g_acons (g_p (p_sub p_int (p_var (pv 4)))) (g_acons (g_p p_int) (g_acons (g_o (o_var (pv 1))) g_anil)))) (g_acons (g_lst (g_acons (g_p (p_sub p_int (p_mul p_int (p_var (pv 4))))) (g_acons (g_o (o_var (pv 1))) (g_acons (g_p p_int) g_anil)))) g_anil))))))) s_nil)
    (s_cons (s_asg sc_square_beside_pair.nd rfl (.inl rfl) (by decide) (g_call h_turned_over hr hgd (by rfl) (g_acons (g_o (o_var (pv 5))) g_anil)))
    (s_one (s_ret (g_tup (g_aconsL (pv 6) (g_acons (g_thaw (g_call h_changed_by hr hgd (by rfl) (g_acons (g_call h_block_sum hr hgd (by rfl) (g_acons (g_lst (g_acons (g_lst (g_acons (g_mul (g_call h_power_of_two hr hgd (by rfl) (g_acons (g_o (o_var (pv 0))) g_anil)) (g_o (o_var (pv 1)))) g_anil)) g_anil)) (g_acons (g_call h_form_of_piece hr hgd (by rfl) (g_acons (g_tup (g_acons (g_o (o_var (pv 2))) (g_acons (g_o (o_var (pv 3))) g_anil))) g_anil)) g_anil))) (g_acons (g_o (o_var (pv 6))) g_anil)))) g_anil)))))))))))))
/-! pair_beside_square -/
abbrev s_pair_beside_square : Stmt := topS 19
abbrev N_pair_beside_square : List Str := ["low", "kind", "high", "one", "back", "change"]
theorem sc_pair_beside_square : FnScope N_pair_beside_square ["low", "kind", "high", "one"] (defScope s_pair_beside_square) := ⟨rfl, rfl, rfl, by decide +kernel, rfl, by decide +kernel, by decide +kernel⟩
noncomputable def m_pair_beside_square : Mn.Env → Option Out :=
  (sSeq (sExp (mCall 3 F_check_number (mCons 0 (mO (oVar 0)) (mCons 0 (mP (pC (.int 0))) (mCons 0 (mO (oK (.int 64))) mNil)))))
    (sSeq (sExp (mCall 1 F_check_kind (mCons 0 (mO (oVar 1)) mNil)))
    (sSeq (sExp (mCall 3 F_check_number (mCons 0 (mO (oVar 2)) (mCons 0 (mP (pBin dAdd (pVar 0) (pC (.int 1)))) (mCons 0 (mO (oK (.int 64))) mNil)))))
    (sSeq (sExp (mCall 1 F_check_odd (mCons 0 (mO (oVar 3)) mNil)))
    (sSeq (sAsg 4 (mFz (mBin dSub (mP (pC (.int 0))) (mBinF dMulG (mCall 1 F_power_of_two (mCons 0 (mP (pBin dSub (pVar 2) (pVar 0))) mNil)) (mO (oVar 3))))))
    (sSeq (sAsg 5 (mCall 1 F_turned_over (mCons 0 (mLst 0 (mCons 0 (mLst 0 (mCons 0 (mP (pC (.int 1))) (mCons 0 (mP (pC (.int 0))) (mCons 0 (mP (pC (.int 1))) mNil)))) (mCons 0 (mLst 0 (mCons 0 (mP (pC (.int 0))) (mCons 0 (mP (pC (.int 1))) (mCons 0 (mP (pC (.int 1))) mNil)))) (mCons 0 (mLst 0 (mCons 0 (mO (oVar 4)) (mCons 0 (mO (oVar 4)) (mCons 0 (mP (pBin dAdd (pVar 1) (pC (.int 1)))) mNil)))) mNil)))) mNil)))
    (sRet (mTup 2 (mConsL 2 5 (mCons 2 (mThaw (mCall 2 F_changed_by (mCons 0 (mCall 2 F_block_sum (mCons 0 (mCall 1 F_form_of_piece (mCons 0 (mTup 0 (mCons 0 (mO (oVar 0)) (mCons 0 (mO (oVar 1)) mNil))) mNil)) (mCons 0 (mLst 0 (mCons 0 (mLst 0 (mCons 0 (mBinF dMulG (mCall 1 F_power_of_two (mCons 0 (mO (oVar 2)) mNil)) (mO (oVar 3))) mNil)) mNil)) mNil))) (mCons 0 (mO (oVar 5)) mNil)))) mNil))))))))))
noncomputable def F_pair_beside_square : Fp0 := run0 6 m_pair_beside_square
theorem b_pair_beside_square {P : Program} {w : World} {K : PySem.W.Frag} {mg : Str → Option Value} {base : Heap} {fa : Addr} (c_MOST_SCALE : ∃ t, mg "MOST_SCALE" = some (.int 64 t)) (h_block_sum : FnAt P w K mg base 3 "block_sum" 2 (sp0 K mg 2 F_block_sum)) (h_changed_by : FnAt P w K mg base 3 "changed_by" 2 (sp0 K mg 2 F_changed_by)) (h_check_kind : FnAt P w K mg base 3 "check_kind" 1 (sp0 K mg 1 F_check_kind)) (h_check_number : FnAt P w K mg base 3 "check_number" 3 (sp0 K mg 3 F_check_number)) (h_check_odd : FnAt P w K mg base 3 "check_odd" 1 (sp0 K mg 1 F_check_odd)) (h_form_of_piece : FnAt P w K mg base 3 "form_of_piece" 1 (sp0 K mg 1 F_form_of_piece)) (h_power_of_two : FnAt P w K mg base 3 "power_of_two" 1 (sp0 K mg 1 F_power_of_two)) (h_turned_over : FnAt P w K mg base 3 "turned_over" 1 (sp0 K mg 1 F_turned_over)) : Body P w K mg base N_pair_beside_square "pair_beside_square" s_pair_beside_square fa 3 [] m_pair_beside_square := fun cdv A outer s H hr hgd =>
  (s_cons (s_exp (g_call h_check_number hr hgd (by rfl) (g_acons (g_o (o_var (pv 0))) (g_acons (g_p p_int) (g_acons (g_o (o_glv (v := .int 64) (by rfl) c_MOST_SCALE.choose_spec ⟨_, rfl⟩ (fun _ => rfl))) g_anil)))))
    (s_cons (s_exp (g_call h_check_kind hr hgd (by rfl) (g_acons (g_o (o_var (pv 1))) g_anil)))
    (s_cons (s_exp (g_call h_check_number hr hgd (by rfl) (g_acons (g_o (o_var (pv 2))) (g_acons (g_p (p_add (p_var (pv 0)) p_int)) (g_acons (g_o (o_glv (v := .int 64) (by rfl) c_MOST_SCALE.choose_spec ⟨_, rfl⟩ (fun _ => rfl))) g_anil)))))
    (s_cons (s_exp (g_call h_check_odd hr hgd (by rfl) (g_acons (g_o (o_var (pv 3))) g_anil)))
    (s_cons (s_asg sc_pair_beside_square.nd rfl (.inl rfl) (by decide) (g_fz (g_sub (g_p p_int) (g_mul (g_call h_power_of_two hr hgd (by rfl) (g_acons (g_p (p_sub (p_var (pv 2)) (p_var (pv 0)))) g_anil)) (g_o (o_var (pv 3)))))))
    (s_cons (s_asg sc_pair_beside_square.nd rfl (.inl rfl) (by decide) (g_call h_turned_over hr hgd (by rfl) (g_acons (g_lst (g_acons (g_lst (g_acons (g_p p_int) (g_acons (g_p p_int) (g_acons (g_p p_int) g_anil)))) (g_acons (g_lst (g_acons (g_p p_int) (g_acons (g_p p_int) (g_acons (g_p p_int) g_anil)))) (g_acons (g_lst (g_acons (g_o (o_var (pv 4))) (g_acons (g_o (o_var (pv 4))) (g_acons (g_p (p_add (p_var (pv 1)) p_int)) g_anil)))) g_anil)))) g_anil)))
    (s_one (s_ret (g_tup (g_aconsL (pv 5) (g_acons (g_thaw (g_call h_changed_by hr hgd (by rfl) (g_acons (g_call h_block_sum hr hgd (by rfl) (g_acons (g_call h_form_of_piece hr hgd (by rfl) (g_acons (g_tup (g_acons (g_o (o_var (pv 0))) (g_acons (g_o (o_var (pv 1))) g_anil))) g_anil)) (g_acons (g_lst (g_acons (g_lst (g_acons (g_mul (g_call h_power_of_two hr hgd (by rfl) (g_acons (g_o (o_var (pv 2))) g_anil)) (g_o (o_var (pv 3)))) g_anil)) g_anil)) g_anil))) (g_acons (g_o (o_var (pv 5))) g_anil)))) g_anil)))))))))))
/-! pairs_turned -/
abbrev s_pairs_turned : Stmt := topS 20
abbrev N_pairs_turned : List Str := ["scale", "change", "pair"]
theorem sc_pairs_turned : FnScope N_pairs_turned ["scale"] (defScope s_pairs_turned) := ⟨rfl, rfl, rfl, by decide +kernel, rfl, by decide +kernel, by decide +kernel⟩
noncomputable def m_pairs_turned : Mn.Env → Option Out :=
  (sSeq (sExp (mCall 3 F_check_number (mCons 0 (mO (oVar 0)) (mCons 0 (mP (pC (.int 0))) (mCons 0 (mO (oK (.int 64))) mNil)))))
    (sSeq (sAsg 1 (mCall 1 F_turned_over (mCons 0 (mLst 0 (mCons 0 (mLst 0 (mCons 0 (mP (pC (.int 1))) (mCons 0 (mP (pC (.int 0))) (mCons 0 (mP (pC (.int 1))) (mCons 0 (mP (pC (.int 0))) mNil))))) (mCons 0 (mLst 0 (mCons 0 (mP (pC (.int 0))) (mCons 0 (mP (pC (.int 1))) (mCons 0 (mP (pC (.int 0))) (mCons 0 (mP (pC (.int 0))) mNil))))) (mCons 0 (mLst 0 (mCons 0 (mP (pUn dNeg (pC (.int 2)))) (mCons 0 (mP (pC (.int 1))) (mCons 0 (mP (pC (.int 0))) (mCons 0 (mP (pC (.int 3))) mNil))))) (mCons 0 (mLst 0 (mCons 0 (mP (pC (.int 0))) (mCons 0 (mP (pC (.int 0))) (mCons 0 (mP (pC (.int 1))) (mCons 0 (mP (pUn dNeg (pC (.int 2)))) mNil))))) mNil))))) mNil)))
    (sSeq (sAsg 2 (mFz (mCall 1 F_form_of_piece (mCons 0 (mTup 0 (mCons 0 (mO (oVar 0)) (mCons 0 (mP (pC (.int 2))) mNil))) mNil))))
    (sRet (mTup 2 (mConsL 2 1 (mCons 2 (mThaw (mCall 2 F_changed_by (mCons 0 (mCall 2 F_block_sum (mCons 0 (mO (oVar 2)) (mCons 0 (mO (oVar 2)) mNil))) (mCons 0 (mO (oVar 1)) mNil)))) mNil)))))))
noncomputable def F_pairs_turned : Fp0 := run0 3 m_pairs_turned
theorem b_pairs_turned {P : Program} {w : World} {K : PySem.W.Frag} {mg : Str → Option Value} {base : Heap} {fa : Addr} (c_MOST_SCALE : ∃ t, mg "MOST_SCALE" = some (.int 64 t)) (h_block_sum : FnAt P w K mg base 3 "block_sum" 2 (sp0 K mg 2 F_block_sum)) (h_changed_by : FnAt P w K mg base 3 "changed_by" 2 (sp0 K mg 2 F_changed_by)) (h_check_number : FnAt P w K mg base 3 "check_number" 3 (sp0 K mg 3 F_check_number)) (h_form_of_piece : FnAt P w K mg base 3 "form_of_piece" 1 (sp0 K mg 1 F_form_of_piece)) (h_turned_over : FnAt P w K mg base 3 "turned_over" 1 (sp0 K mg 1 F_turned_over)) : Body P w K mg base N_pairs_turned "pairs_turned" s_pairs_turned fa 3 [] m_pairs_turned := fun cdv A outer s H hr hgd =>
  (s_cons (s_exp (g_call h_check_number hr hgd (by rfl) (g_acons (g_o (o_var (pv 0))) (g_acons (g_p p_int) (g_acons (g_o (o_glv (v := .int 64) (by rfl) c_MOST_SCALE.choose_spec ⟨_, rfl⟩ (fun _ => rfl))) g_anil)))))
    (s_cons (s_asg sc_pairs_turned.nd rfl (.inl rfl) (by decide) (g_call h_turned_over hr hgd (by rfl) (g_acons (g_lst (g_acons (g_lst (g_acons (g_p p_int) (g_acons (g_p p_int) (g_acons (g_p p_int) (g_acons (g_p p_int) g_anil))))) (g_acons (g_lst (g_acons (g_p p_int) (g_acons (g_p p_int) (g_acons (g_p p_int) (g_acons (g_p p_int) g_anil))))) (g_acons (g_lst (g_acons (g_p (p_neg p_int)) (g_acons (g_p p_int) (g_acons (g_p p_int) (g_acons (g_p p_int) g_anil))))) (g_acons (g_lst (g_acons (g_p p_int) (g_acons (g_p p_int) (g_acons (g_p p_int) (g_acons (g_p (p_neg p_int)) g_anil))))) g_anil))))) g_anil)))
    (s_cons (s_asg sc_pairs_turned.nd rfl (.inl rfl) (by decide) (g_fz (g_call h_form_of_piece hr hgd (by rfl) (g_acons (g_tup (g_acons (g_o (o_var (pv 0))) (g_acons (g_p p_int) g_anil))) g_anil))))
    (s_one (s_ret (g_tup (g_aconsL (pv 1) (g_acons (g_thaw (g_call h_changed_by hr hgd (by rfl) (g_acons (g_call h_block_sum hr hgd (by rfl) (g_acons (g_o (o_var (pv 2))) (g_acons (g_o (o_var (pv 2))) g_anil))) (g_acons (g_o (o_var (pv 1))) g_anil)))) g_anil))))))))
/-! _law_hash -/
abbrev s__law_hash : Stmt := topS 22
abbrev N__law_hash : List Str := ["_law_seed", "_law_index", "_law_mixed"]
theorem sc__law_hash : FnScope N__law_hash ["_law_seed", "_law_index"] (defScope s__law_hash) := ⟨rfl, rfl, rfl, by decide +kernel, rfl, by decide +kernel, by decide +kernel⟩
noncomputable def m__law_hash : Mn.Env → Option Out :=
  (sSeq (sAsg 2 (mP (pBin dMod (pCall dInt (pCons (pBin dAdd (pBin dAdd (pBin dAdd (pBin dMul (pVar 0) (pC (.int 1140671))) (pBin dMul (pBin dMul (pC (.int 27644437)) (pVar 1)) (pVar 1))) (pBin dMul (pC (.int 131)) (pVar 1))) (pC (.int 19))) pNil)) (pC (.int 2147483629)))))
    (sSeq (sAsg 2 (mP (pBin dMod (pCall dInt (pCons (pBin dAdd (pBin dAdd (pBin dMul (pVar 2) (pVar 2)) (pBin dMul (pC (.int 62089)) (pVar 1))) (pC (.int 32416187))) pNil)) (pC (.int 2147483587)))))
    (sRet (mP (pBin dMod (pCall dInt (pCons (pBin dMul (pVar 2) (pC (.int 48271))) pNil)) (pC (.int 2147483647)))))))
noncomputable def F__law_hash : Fp0 := run0 3 m__law_hash
theorem b__law_hash {P : Program} {w : World} {K : PySem.W.Frag} {mg : Str → Option Value} {base : Heap} {fa : Addr} (z_int : mg "int" = none) : Body P w K mg base N__law_hash "_law_hash" s__law_hash fa 0 [] m__law_hash := fun cdv A outer s H hr hgd =>
  (s_cons (s_asg sc__law_hash.nd rfl (.inl rfl) (by decide) (g_p (p_mod (p_callTy call_int1 w_int (by rfl) z_int PyProof.Rows.boot_int (p_acons (p_add (p_add (p_add (p_mul (p_var (pv 0)) p_int) (p_mul (p_mul p_int (p_var (pv 1))) (p_var (pv 1)))) (p_mul p_int (p_var (pv 1)))) p_int) p_anil)) p_int)))
    (s_cons (s_asg sc__law_hash.nd rfl (.inl rfl) (by decide) (g_p (p_mod (p_callTy call_int1 w_int (by rfl) z_int PyProof.Rows.boot_int (p_acons (p_add (p_add (p_mul (p_var (pv 2)) (p_var (pv 2))) (p_mul p_int (p_var (pv 1)))) p_int) p_anil)) p_int)))
    (s_one (s_ret (g_p (p_mod (p_callTy call_int1 w_int (by rfl) z_int PyProof.Rows.boot_int (p_acons (p_mul (p_var (pv 2)) p_int) p_anil)) p_int))))))
/-! _law_random -/
abbrev s__law_random : Stmt := topS 23
abbrev N__law_random : List Str := ["_law_generator_here", "_law_bound", "_law_drawn", "_law_turn"]
theorem sc__law_random : FnScope N__law_random ["_law_generator_here", "_law_bound"] (defScope s__law_random) := ⟨rfl, rfl, rfl, by decide +kernel, rfl, by decide +kernel, by decide +kernel⟩
noncomputable def m__law_random : Mn.Env → Option Out :=
  (sSeq (sIf (mtP (pB (pBin dGt (pBin dIx (pVar 0) (pC (.int 0))) (pC (.int 0))))) (sSeq (sAsg 2 (mP (pBin dMod (pCall dInt (pCons (pBin dIx (pVar 0) (pC (.int 0))) pNil)) (pVar 1))))
    (sSeq (sSet 0 plNil (pC (.int 0)) (mP (pBin dDiv (pBin dIx (pVar 0) (pC (.int 0))) (pVar 1))))
    (sRet (mO (oVar 2))))) sNx)
    (sSeq (sAsg 2 (mP (pC (.int 0))))
    (sSeq (sFor (iRange (mCons 0 (mP (pBin dAdd (pC (.int 1)) (pBin dDiv (pUn dBits (pVar 1)) (pC (.int 30))))) mNil)) (tName 3) (sSeq (sSet 0 plNil (pC (.int 2)) (mP (pBin dAdd (pBin dIx (pVar 0) (pC (.int 2))) (pC (.int 1)))))
    (sAsg 2 (mFz (mBinF dAddG (mP (pBin dMul (pVar 2) (pC (.int 2147483587)))) (mCall 2 F__law_hash (mCons 0 (mO (oIx (oVar 0) (pC (.int 1)))) (mCons 0 (mO (oIx (oVar 0) (pC (.int 2)))) mNil))))))))
    (sRet (mP (pBin dMod (pCall dInt (pCons (pVar 2) pNil)) (pVar 1)))))))
noncomputable def F__law_random : Fp1 := run1 4 m__law_random
theorem b__law_random {P : Program} {w : World} {K : PySem.W.Frag} {mg : Str → Option Value} {base : Heap} {fa : Addr} (h__law_hash : FnAt P w K mg base 1 "_law_hash" 2 (sp0 K mg 2 F__law_hash)) (z_int : mg "int" = none) (z_range : mg "range" = none) : Body P w K mg base N__law_random "_law_random" s__law_random fa 1 [0] m__law_random := fun cdv A outer s H hr hgd =>
  (s_cons (s_if (gt_p (t_cmp op_gt w_cmp2 (p_ix ix_seq w_ix (p_var (pv 0)) p_int (fun _ _ => rfl)) p_int (nomark _))) (s_cons (s_asg sc__law_random.nd rfl (.inl rfl) (by decide) (g_p (p_mod (p_callTy call_int1 w_int (by rfl) z_int PyProof.Rows.boot_int (p_acons (p_ix ix_seq w_ix (p_var (pv 0)) p_int (fun _ _ => rfl)) p_anil)) (p_var (pv 1)))))
    (s_cons (s_set (pl_var (pv 0)) p_int (g_p (p_div (p_ix ix_seq w_ix (p_var (pv 0)) p_int (fun _ _ => rfl)) (p_var (pv 1)))))
    (s_one (s_ret (g_o (o_var (pv 2))))))) s_nil)
    (s_cons (s_asg sc__law_random.nd rfl (.inl rfl) (by decide) (g_p p_int))
    (s_cons (s_for PassesOwn.never rfl (i_range1 (by rfl) z_range (g_acons (g_p (p_add p_int (p_div (p_bits (p_var (pv 1))) p_int))) g_anil) (h1 := (len_cons len_nil))) (tg_name sc__law_random.nd rfl (.inl rfl)) (s_cons (s_set (pl_var (pv 0)) p_int (g_p (p_add (p_ix ix_seq w_ix (p_var (pv 0)) p_int (fun _ _ => rfl)) p_int)))
    (s_one (s_asg sc__law_random.nd rfl (.inl rfl) (by decide) (g_fz (g_add (g_p (p_mul (p_var (pv 2)) p_int)) (g_call h__law_hash hr hgd (by rfl) (g_acons (g_o (o_ix (o_var (pv 0)) p_int (fun _ _ => rfl))) (g_acons (g_o (o_ix (o_var (pv 0)) p_int (fun _ _ => rfl))) g_anil)))))))) (by decide))
    (s_one (s_ret (g_p (p_mod (p_callTy call_int1 w_int (by rfl) z_int PyProof.Rows.boot_int (p_acons (p_var (pv 2)) p_anil)) (p_var (pv 1)))))))))
/-! _law_cell -/
abbrev s__law_cell : Stmt := topS 24
abbrev N__law_cell : List Str := ["_law_script", "_law_index"]
theorem sc__law_cell : FnScope N__law_cell ["_law_script", "_law_index"] (defScope s__law_cell) := ⟨rfl, rfl, rfl, by decide +kernel, rfl, by decide +kernel, by decide +kernel⟩
noncomputable def m__law_cell : Mn.Env → Option Out :=
  (sSeq (sIf (mtP (pB (pBin dLt (pVar 1) (pCall dLen (pCons (pVar 0) pNil))))) (sRet (mO (oIx (oVar 0) (pVar 1)))) sNx)
    (sRet (mBin dMod (mCallF (ofN dSum) (mCons 0 (mSl (mO (oVar 0)) none (some (mP (pC (.int 1))))) mNil)) (mP (pC (.int 1000003))))))
noncomputable def F__law_cell : Fp0 := run0 2 m__law_cell
theorem b__law_cell {P : Program} {w : World} {K : PySem.W.Frag} {mg : Str → Option Value} {base : Heap} {fa : Addr} (z_len : mg "len" = none) (z_sum : mg "sum" = none) : Body P w K mg base N__law_cell "_law_cell" s__law_cell fa 0 [] m__law_cell := fun cdv A outer s H hr hgd =>
  (s_cons (s_if (gt_p (t_cmp op_lt w_cmp2 (p_var (pv 1)) (p_callB call_lenS w_len (by rfl) z_len PySem.boot_len (p_acons (p_var (pv 0)) p_anil)) (nomark _))) (s_one (s_ret (g_o (o_ix (o_var (pv 0)) (p_var (pv 1)) (fun _ _ => rfl))))) s_nil)
    (s_one (s_ret (g_mod (g_callB (cr_sum rfl) (w_of w_sum) (by rfl) z_sum PyProof.Rows.boot_sum (g_acons (g_slice (g_o (o_var (pv 0))) go_none (go_some (g_p p_int))) g_anil)) (g_p p_int)))))
/-! _law_generator -/
abbrev s__law_generator : Stmt := topS 25
abbrev N__law_generator : List Str := ["_law_script", "_law_index", "_law_seed"]
theorem sc__law_generator : FnScope N__law_generator ["_law_script", "_law_index"] (defScope s__law_generator) := ⟨rfl, rfl, rfl, by decide +kernel, rfl, by decide +kernel, by decide +kernel⟩
noncomputable def m__law_generator : Mn.Env → Option Out :=
  (sSeq (sAsg 2 (mFz (mCall 2 F__law_cell (mCons 0 (mO (oVar 0)) (mCons 0 (mO (oVar 1)) mNil)))))
    (sRet (mLst 0 (mCons 0 (mP (pBin dMod (pCall dInt (pCons (pCall dMaxL (pCons (pBin dSub (pVar 2) (pBin dPow (pC (.int 10)) (pC (.int 18)))) (pCons (pC (.int 0)) pNil))) pNil)) (pBin dPow (pBin dPow (pC (.int 10)) (pC (.int 60))) (pC (.int 10))))) (mCons 0 (mP (pBin dMod (pCall dInt (pCons (pVar 2) pNil)) (pC (.int 2147483647)))) (mCons 0 (mP (pBin dMul (pC (.int 1000)) (pVar 1))) mNil))))))
noncomputable def F__law_generator : Fp0 := run0 3 m__law_generator
theorem b__law_generator {P : Program} {w : World} {K : PySem.W.Frag} {mg : Str → Option Value} {base : Heap} {fa : Addr} (h__law_cell : FnAt P w K mg base 1 "_law_cell" 2 (sp0 K mg 2 F__law_cell)) (z_int : mg "int" = none) (z_max : mg "max" = none) : Body P w K mg base N__law_generator "_law_generator" s__law_generator fa 1 [] m__law_generator := fun cdv A outer s H hr hgd =>
  (s_cons (s_asg sc__law_generator.nd rfl (.inl rfl) (by decide) (g_fz (g_call h__law_cell hr hgd (by rfl) (g_acons (g_o (o_var (pv 0))) (g_acons (g_o (o_var (pv 1))) g_anil)))))
    (s_one (s_ret (g_lst (g_acons (g_p (p_mod (p_callTy call_int1 w_int (by rfl) z_int PyProof.Rows.boot_int (p_acons (p_callB (call_maxG rfl) w_maxL (by rfl) z_max PyProof.Rows.boot_max (p_acons (p_sub (p_var (pv 2)) (p_pow p_int p_int)) (p_acons p_int p_anil))) p_anil)) (p_pow (p_pow p_int p_int) p_int))) (g_acons (g_p (p_mod (p_callTy call_int1 w_int (by rfl) z_int PyProof.Rows.boot_int (p_acons (p_var (pv 2)) p_anil)) p_int)) (g_acons (g_p (p_mul p_int (p_var (pv 1)))) g_anil)))))))
/-! _law_power -/
abbrev s__law_power : Stmt := topS 26
abbrev N__law_power : List Str := ["_law_many", "_law_found", "_law_turn"]
theorem sc__law_power : FnScope N__law_power ["_law_many"] (defScope s__law_power) := ⟨rfl, rfl, rfl, by decide +kernel, rfl, by decide +kernel, by decide +kernel⟩
noncomputable def m__law_power : Mn.Env → Option Out :=
  (sSeq (sAsg 1 (mP (pC (.int 1))))
    (sSeq (sFor (iRange (mCons 0 (mO (oVar 0)) mNil)) (tName 2) (sAsg 1 (mP (pBin dMul (pVar 1) (pC (.int 2))))))
    (sRet (mO (oVar 1)))))
noncomputable def F__law_power : Fp0 := run0 3 m__law_power
theorem b__law_power {P : Program} {w : World} {K : PySem.W.Frag} {mg : Str → Option Value} {base : Heap} {fa : Addr} (z_range : mg "range" = none) : Body P w K mg base N__law_power "_law_power" s__law_power fa 0 [] m__law_power := fun cdv A outer s H hr hgd =>
  (s_cons (s_asg sc__law_power.nd rfl (.inl rfl) (by decide) (g_p p_int))
    (s_cons (s_for PassesOwn.never rfl (i_range1 (by rfl) z_range (g_acons (g_o (o_var (pv 0))) g_anil) (h1 := (len_cons len_nil))) (tg_name sc__law_power.nd rfl (.inl rfl)) (s_one (s_asg sc__law_power.nd rfl (.inl rfl) (by decide) (g_p (p_mul (p_var (pv 1)) p_int)))) (by decide))
    (s_one (s_ret (g_o (o_var (pv 1)))))))
/-! _law_same -/
abbrev s__law_same : Stmt := topS 27
abbrev N__law_same : List Str := ["_law_told", "_law_due"]
theorem sc__law_same : FnScope N__law_same ["_law_told", "_law_due"] (defScope s__law_same) := ⟨rfl, rfl, rfl, by decide +kernel, rfl, by decide +kernel, by decide +kernel⟩
noncomputable def m__law_same : Mn.Env → Option Out :=
  (sRet (mP (pBin dEq (pCall dRepr (pCons (pVar 0) pNil)) (pCall dRepr (pCons (pVar 1) pNil)))))
noncomputable def F__law_same : Fp0 := run0 2 m__law_same
theorem b__law_same {P : Program} {w : World} {K : PySem.W.Frag} {mg : Str → Option Value} {base : Heap} {fa : Addr} (z_repr : mg "repr" = none) : Body P w K mg base N__law_same "_law_same" s__law_same fa 0 [] m__law_same := fun cdv A outer s H hr hgd =>
  (s_one (s_ret (g_p (p_cmp (op_eqD (hu64 hr)) w_eq (p_callB (call_reprD hgd (hu65 hr)) w_repr (by rfl) z_repr PyProof.Rows.boot_repr (p_acons (p_var (pv 0)) p_anil)) (p_callB (call_reprD hgd (hu65 hr)) w_repr (by rfl) z_repr PyProof.Rows.boot_repr (p_acons (p_var (pv 1)) p_anil)) (nomark _)))))
/-! _law_signed -/
abbrev s__law_signed : Stmt := topS 28
abbrev N__law_signed : List Str := ["_law_generator_here", "_law_most"]
theorem sc__law_signed : FnScope N__law_signed ["_law_generator_here", "_law_most"] (defScope s__law_signed) := ⟨rfl, rfl, rfl, by decide +kernel, rfl, by decide +kernel, by decide +kernel⟩
noncomputable def m__law_signed : Mn.Env → Option Out :=
  (sRet (mBin dSub (mCallI 2 F__law_random 0 (mCons 0 (mP (pBin dAdd (pBin dMul (pC (.int 2)) (pVar 1)) (pC (.int 1)))) mNil)) (mO (oVar 1))))
noncomputable def F__law_signed : Fp1 := run1 2 m__law_signed
theorem b__law_signed {P : Program} {w : World} {K : PySem.W.Frag} {mg : Str → Option Value} {base : Heap} {fa : Addr} (h__law_random : FnAt P w K mg base 2 "_law_random" 2 (sp1 K mg 2 F__law_random)) : Body P w K mg base N__law_signed "_law_signed" s__law_signed fa 2 [0] m__law_signed := fun cdv A outer s H hr hgd =>
  (s_one (s_ret (g_sub (g_callI h__law_random hr hgd (by rfl) (pv 0) (g_acons (g_p (p_add (p_mul p_int (p_var (pv 1))) p_int)) g_anil)) (g_o (o_var (pv 1))))))
/-! _law_odd -/
abbrev s__law_odd : Stmt := topS 29
abbrev N__law_odd : List Str := ["_law_generator_here", "_law_most"]
theorem sc__law_odd : FnScope N__law_odd ["_law_generator_here", "_law_most"] (defScope s__law_odd) := ⟨rfl, rfl, rfl, by decide +kernel, rfl, by decide +kernel, by decide +kernel⟩
noncomputable def m__law_odd : Mn.Env → Option Out :=
  (sRet (mBinF dAddG (mBinF dMulG (mP (pC (.int 2))) (mCallI 2 F__law_signed 0 (mCons 0 (mO (oVar 1)) mNil))) (mP (pC (.int 1)))))
noncomputable def F__law_odd : Fp1 := run1 2 m__law_odd
theorem b__law_odd {P : Program} {w : World} {K : PySem.W.Frag} {mg : Str → Option Value} {base : Heap} {fa : Addr} (h__law_signed : FnAt P w K mg base 3 "_law_signed" 2 (sp1 K mg 2 F__law_signed)) : Body P w K mg base N__law_odd "_law_odd" s__law_odd fa 3 [0] m__law_odd := fun cdv A outer s H hr hgd =>
  (s_one (s_ret (g_add (g_mul (g_p p_int) (g_callI h__law_signed hr hgd (by rfl) (pv 0) (g_acons (g_o (o_var (pv 1))) g_anil))) (g_p p_int))))
/-! _law_product -/
abbrev s__law_product : Stmt := topS 30
abbrev N__law_product : List Str := ["_law_one", "_law_other", "_law_found", "_law_row", "_law_made", "_law_place", "_law_item", "_law_more"]
theorem sc__law_product : FnScope N__law_product ["_law_one", "_law_other"] (defScope s__law_product) := ⟨rfl, rfl, rfl, by decide +kernel, rfl, by decide +kernel, by decide +kernel⟩
noncomputable def m__law_product : Mn.Env → Option Out :=
  (sSeq (sAsg 2 (mLst 0 mNil))
    (sSeq (sFor (iSeq (mO (oVar 0))) (tName 3) (sSeq (sAsg 4 (mLst 0 mNil))
    (sSeq (sFor (iRange (mCons 0 (mP (pCall dLen (pCons (pBin dIx (pVar 1) (pC (.int 0))) pNil))) mNil)) (tName 5) (sApp0 4 (mCallF (ofN dSum) (mCons 0 (mComp 0 (iZipM (mCons 0 (mO (oVar 3)) (mCons 0 (mO (oVar 1)) mNil))) (tTupT 2 (tsCons (tName 6) (tsCons (tName 7) tsNil))) tYesM (mP (pBin dMul (pVar 6) (pBin dIx (pVar 7) (pVar 5)))) [6, 7]) mNil))))
    (sApp0 2 (mSh 4)))))
    (sRet (mMv 2))))
noncomputable def F__law_product : Fp0 := run0 8 m__law_product
theorem b__law_product {P : Program} {w : World} {K : PySem.W.Frag} {mg : Str → Option Value} {base : Heap} {fa : Addr} (z_len : mg "len" = none) (z_range : mg "range" = none) (z_sum : mg "sum" = none) (z_zip : mg "zip" = none) : Body P w K mg base N__law_product "_law_product" s__law_product fa 0 [] m__law_product := fun cdv A outer s H hr hgd =>
  (s_cons (s_asg sc__law_product.nd rfl (.inl rfl) (by decide) (g_lst g_anil))
    (s_cons (s_for PassesOwn.never rfl (i_seq (g_o (o_var (pv 0)))) (tg_name sc__law_product.nd rfl (.inl rfl)) (s_cons (s_asg sc__law_product.nd rfl (.inl rfl) (by decide) (g_lst g_anil))
    (s_cons (s_for PassesOwn.never rfl (i_range1 (by rfl) z_range (g_acons (g_p (p_callB call_lenS w_len (by rfl) z_len PySem.boot_len (p_acons (p_ix ix_seq w_ix (p_var (pv 1)) p_int (fun _ _ => rfl)) p_anil))) g_anil) (h1 := (len_cons len_nil))) (tg_name sc__law_product.nd rfl (.inr rfl)) (s_one (s_app0 (pv 4) (g_callB (cr_sum rfl) (w_of w_sum) (by rfl) z_sum PyProof.Rows.boot_sum (g_acons (g_comp (own := [("_law_item", 6), ("_law_more", 7)]) rfl sc__law_product.nd (i_zip (by rfl) z_zip (g_acons (g_o (o_var (pv 3))) (g_acons (g_o (o_var (pv 1))) g_anil))) (blkOk_by (N := N__law_product) (sc := (defScope s__law_product)) (own := [("_law_item", 6), ("_law_more", 7)]) (by decide +kernel)) (fun _ _ _ _ _ => (tg_tup rfl (tg_cons (tg_name sc__law_product.nd rfl (.inl rfl)) (tg_cons (tg_name sc__law_product.nd rfl (.inl rfl)) tg_nil)))) (fun _ _ _ _ _ => (g_p (p_mul (p_var (pv 6)) (p_ix ix_seq w_ix (p_var (pv 7)) (p_var (pv 5)) (fun _ _ => rfl))))) (by decide)) g_anil)))) (by decide))
    (s_one (s_app0 (pv 2) (g_sh (pv 4)))))) (by decide))
    (s_one (s_ret (g_mv (pv 2))))))
/-! _law_over -/
abbrev s__law_over : Stmt := topS 31
abbrev N__law_over : List Str := ["_law_rows", "_law_place", "_law_row"]
theorem sc__law_over : FnScope N__law_over ["_law_rows"] (defScope s__law_over) := ⟨rfl, rfl, rfl, by decide +kernel, rfl, by decide +kernel, by decide +kernel⟩
noncomputable def m__law_over : Mn.Env → Option Out :=
  (sRet (mComp 0 (iRange (mCons 0 (mP (pCall dLen (pCons (pBin dIx (pVar 0) (pC (.int 0))) pNil))) mNil)) (tName 1) tYesM (mComp 0 (iSeq (mO (oVar 0))) (tName 2) tYesM (mO (oIx (oVar 2) (pVar 1))) [2]) [1]))
noncomputable def F__law_over : Fp0 := run0 3 m__law_over
theorem b__law_over {P : Program} {w : World} {K : PySem.W.Frag} {mg : Str → Option Value} {base : Heap} {fa : Addr} (z_len : mg "len" = none) (z_range : mg "range" = none) : Body P w K mg base N__law_over "_law_over" s__law_over fa 0 [] m__law_over := fun cdv A outer s H hr hgd =>
  (s_one (s_ret (g_comp (own := [("_law_place", 1)]) rfl sc__law_over.nd (i_range1 (by rfl) z_range (g_acons (g_p (p_callB call_lenS w_len (by rfl) z_len PySem.boot_len (p_acons (p_ix ix_seq w_ix (p_var (pv 0)) p_int (fun _ _ => rfl)) p_anil))) g_anil) (h1 := (len_cons len_nil))) (blkOk_by (N := N__law_over) (sc := (defScope s__law_over)) (own := [("_law_place", 1)]) (by decide +kernel)) (fun _ _ _ _ _ => (tg_name sc__law_over.nd rfl (.inr rfl))) (fun _ _ _ _ _ => (g_comp (own := [("_law_row", 2)]) rfl sc__law_over.nd (i_seq (g_o (o_var (pv 0)))) (blkOk_by (N := N__law_over) (sc := (relS _ (defScope s__law_over))) (own := [("_law_row", 2)]) (by decide +kernel)) (fun _ _ _ _ _ => (tg_name sc__law_over.nd rfl (.inl rfl))) (fun _ _ _ _ _ => (g_o (o_ix (o_var (pv 2)) (p_var (pv 1)) (fun _ _ => rfl)))) (by decide))) (by decide))))
/-! _law_changed -/
abbrev s__law_changed : Stmt := topS 32
abbrev N__law_changed : List Str := ["_law_form", "_law_change"]
theorem sc__law_changed : FnScope N__law_changed ["_law_form", "_law_change"] (defScope s__law_changed) := ⟨rfl, rfl, rfl, by decide +kernel, rfl, by decide +kernel, by decide +kernel⟩
noncomputable def m__law_changed : Mn.Env → Option Out :=
  (sRet (mCall 2 F__law_product (mCons 0 (mCall 2 F__law_product (mCons 0 (mCall 1 F__law_over (mCons 0 (mO (oVar 1)) mNil)) (mCons 0 (mO (oVar 0)) mNil))) (mCons 0 (mO (oVar 1)) mNil))))
noncomputable def F__law_changed : Fp0 := run0 2 m__law_changed
theorem b__law_changed {P : Program} {w : World} {K : PySem.W.Frag} {mg : Str → Option Value} {base : Heap} {fa : Addr} (h__law_over : FnAt P w K mg base 1 "_law_over" 1 (sp0 K mg 1 F__law_over)) (h__law_product : FnAt P w K mg base 1 "_law_product" 2 (sp0 K mg 2 F__law_product)) : Body P w K mg base N__law_changed "_law_changed" s__law_changed fa 1 [] m__law_changed := fun cdv A outer s H hr hgd =>
  (s_one (s_ret (g_call h__law_product hr hgd (by rfl) (g_acons (g_call h__law_product hr hgd (by rfl) (g_acons (g_call h__law_over hr hgd (by rfl) (g_acons (g_o (o_var (pv 1))) g_anil)) (g_acons (g_o (o_var (pv 0))) g_anil))) (g_acons (g_o (o_var (pv 1))) g_anil)))))
/-! _law_bits_product -/
abbrev s__law_bits_product : Stmt := topS 33
abbrev N__law_bits_product : List Str := ["_law_rows", "_law_left", "_law_place", "_law_found", "_law_first", "_law_row", "_law_item", "_law_more"]
theorem sc__law_bits_product : FnScope N__law_bits_product ["_law_rows"] (defScope s__law_bits_product) := ⟨rfl, rfl, rfl, by decide +kernel, rfl, by decide +kernel, by decide +kernel⟩
noncomputable def m__law_bits_product : Mn.Env → Option Out :=
  (sSeq (sAsg 1 (mComp 0 (iSeq (mO (oVar 0))) (tName 5) tYesM (mComp 0 (iSeq (mO (oVar 5))) (tName 6) tYesM (mP (pBin dMod (pCall dInt (pCons (pVar 6) pNil)) (pC (.int 2)))) [6]) [5]))
    (sSeq (sFor (iRange (mCons 0 (mP (pCall dLen (pCons (pVar 0) pNil))) mNil)) (tName 2) (sSeq (sAsg 3 (mFz (mCompH 0 1 (tName 5) (mtP (pB (pBin dEq (pBin dIx (pVar 5) (pVar 2)) (pC (.int 1))))) (mO (oVar 5)) [5])))
    (sSeq (sIf (mtV (mBin dEq (mO (oVar 3)) (mLst 0 mNil))) (sRet (mP (pC (.int 0)))) sNx)
    (sSeq (sAsg 4 (mO (oIx (oVar 3) (pC (.int 0)))))
    (sSeq (sRem0 1 (mO (oVar 4)))
    (sAsg 1 (mCompH 0 1 (tName 5) tYesM (mComp 0 (iZipM (mCons 0 (mO (oVar 5)) (mCons 0 (mO (oVar 4)) mNil))) (tTupT 2 (tsCons (tName 6) (tsCons (tName 7) tsNil))) tYesM (mP (pBin dMod (pCall dInt (pCons (pBin dAdd (pVar 6) (pBin dMul (pVar 7) (pBin dIx (pVar 5) (pVar 2)))) pNil)) (pC (.int 2)))) [6, 7]) [5])))))))
    (sRet (mP (pC (.int 1))))))
noncomputable def F__law_bits_product : Fp0 := run0 8 m__law_bits_product
theorem b__law_bits_product {P : Program} {w : World} {K : PySem.W.Frag} {mg : Str → Option Value} {base : Heap} {fa : Addr} (z_int : mg "int" = none) (z_len : mg "len" = none) (z_range : mg "range" = none) (z_zip : mg "zip" = none) : Body P w K mg base N__law_bits_product "_law_bits_product" s__law_bits_product fa 0 [] m__law_bits_product := fun cdv A outer s H hr hgd =>
  (s_cons (s_setComp (own := [("_law_row", 5)]) rfl sc__law_bits_product.nd rfl rfl (by decide) (by rfl) (i_seq (g_o (o_var (pv 0)))) (blkOk_by (N := N__law_bits_product) (sc := (defScope s__law_bits_product)) (own := [("_law_row", 5)]) (by decide +kernel)) (fun _ _ _ _ _ => (tg_name sc__law_bits_product.nd rfl (.inl rfl))) (fun _ _ _ _ _ => (g_comp (own := [("_law_item", 6)]) rfl sc__law_bits_product.nd (i_seq (g_o (o_var (pv 5)))) (blkOk_by (N := N__law_bits_product) (sc := (relS _ (defScope s__law_bits_product))) (own := [("_law_item", 6)]) (by decide +kernel)) (fun _ _ _ _ _ => (tg_name sc__law_bits_product.nd rfl (.inl rfl))) (fun _ _ _ _ _ => (g_p (p_mod (p_callTy call_int1 w_int (by rfl) z_int PyProof.Rows.boot_int (p_acons (p_var (pv 6)) p_anil)) p_int))) (by decide))) (by decide))
    (s_cons (s_for PassesOwn.never rfl (i_range1 (by rfl) z_range (g_acons (g_p (p_callB call_lenS w_len (by rfl) z_len PySem.boot_len (p_acons (p_var (pv 0)) p_anil))) g_anil) (h1 := (len_cons len_nil))) (tg_name sc__law_bits_product.nd rfl (.inr rfl)) (s_cons (s_setCompHIf0 (own := [("_law_row", 5)]) rfl sc__law_bits_product.nd rfl rfl (by decide) (by rfl) (pv 1) (blkOk_by (N := N__law_bits_product) (sc := (defScope s__law_bits_product)) (own := [("_law_row", 5)]) (by decide +kernel)) (fun _ _ _ _ _ => (tg_name sc__law_bits_product.nd rfl (.inl rfl))) (fun _ _ _ _ _ => (gt_p (t_cmp (op_eqD (hu64 hr)) w_eq (p_ix ix_seq w_ix (p_var (pv 5)) (p_var (pv 2)) (fun _ _ => rfl)) p_int (nomark _)))) (fun _ _ _ _ _ => (g_o (o_var (pv 5)))) (by decide))
    (s_cons (s_if (gt_cmp (op_eqD (hu64 hr)) w_eq (g_o (o_var (pv 3))) (g_lst g_anil) (nomark _)) (s_one (s_ret (g_p p_int))) s_nil)
    (s_cons (s_asg sc__law_bits_product.nd rfl (.inr rfl) (by decide) (g_o (o_ix (o_var (pv 3)) p_int (fun _ _ => rfl))))
    (s_cons (s_rem0 (hu65 hr) (pv 1) (g_o (o_var (pv 4))))
    (s_one (s_setCompH (own := [("_law_row", 5)]) rfl sc__law_bits_product.nd rfl rfl (by decide) (by rfl) (pv 1) (blkOk_by (N := N__law_bits_product) (sc := (defScope s__law_bits_product)) (own := [("_law_row", 5)]) (by decide +kernel)) (fun _ _ _ _ _ => (tg_name sc__law_bits_product.nd rfl (.inr rfl))) (fun _ _ _ _ _ => (g_comp (own := [("_law_item", 6), ("_law_more", 7)]) rfl sc__law_bits_product.nd (i_zip (by rfl) z_zip (g_acons (g_o (o_var (pv 5))) (g_acons (g_o (o_var (pv 4))) g_anil))) (blkOk_by (N := N__law_bits_product) (sc := (relS _ (defScope s__law_bits_product))) (own := [("_law_item", 6), ("_law_more", 7)]) (by decide +kernel)) (fun _ _ _ _ _ => (tg_tup rfl (tg_cons (tg_name sc__law_bits_product.nd rfl (.inl rfl)) (tg_cons (tg_name sc__law_bits_product.nd rfl (.inl rfl)) tg_nil)))) (fun _ _ _ _ _ => (g_p (p_mod (p_callTy call_int1 w_int (by rfl) z_int PyProof.Rows.boot_int (p_acons (p_add (p_var (pv 6)) (p_mul (p_var (pv 7)) (p_ix ix_seq w_ix (p_var (pv 5)) (p_var (pv 2)) (fun _ _ => rfl)))) p_anil)) p_int))) (by decide))) (by decide))))))) (by decide))
    (s_one (s_ret (g_p p_int)))))
/-! _law_squares_right -/
abbrev s__law_squares_right : Stmt := topS 34
abbrev N__law_squares_right : List Str := ["_law_generator_here", "_law_low", "_law_number", "_law_high", "_law_one", "_law_other", "_law_step", "_law_first", "_law_due", "_law_told", "_law_form"]
theorem sc__law_squares_right : FnScope N__law_squares_right ["_law_generator_here"] (defScope s__law_squares_right) := ⟨rfl, rfl, rfl, by decide +kernel, rfl, by decide +kernel, by decide +kernel⟩
noncomputable def m__law_squares_right : Mn.Env → Option Out :=
  (sSeq (sPar2 1 2 (mFz (mCallI 2 F__law_random 0 (mCons 0 (mP (pC (.int 65))) mNil))) (mFz (mCallI 2 F__law_signed 0 (mCons 0 (mIx (mLst 0 (mCons 0 (mP (pBin dPow (pC (.int 10)) (pC (.int 2)))) (mCons 0 (mP (pBin dPow (pC (.int 10)) (pC (.int 28)))) mNil))) (mCallI 2 F__law_random 0 (mCons 0 (mP (pC (.int 2))) mNil))) mNil))))
    (sSeq (sAsg 3 (mFz (mBinF dAddG (mO (oVar 1)) (mCallI 2 F__law_random 0 (mCons 0 (mCallF (ofN dMinL) (mCons 0 (mP (pBin dSub (pC (.int 65)) (pVar 1))) (mCons 0 (mIx (mLst 0 (mCons 0 (mP (pC (.int 4))) (mCons 0 (mP (pC (.int 65))) mNil))) (mCallI 2 F__law_random 0 (mCons 0 (mP (pC (.int 2))) mNil))) mNil))) mNil)))))
    (sSeq (sPar2 4 5 (mFz (mCallI 2 F__law_odd 0 (mCons 0 (mIx (mLst 0 (mCons 0 (mP (pC (.int 10))) (mCons 0 (mP (pBin dPow (pC (.int 10)) (pC (.int 28)))) mNil))) (mCallI 2 F__law_random 0 (mCons 0 (mP (pC (.int 2))) mNil))) mNil))) (mFz (mCallI 2 F__law_odd 0 (mCons 0 (mP (pBin dPow (pC (.int 10)) (pC (.int 3)))) mNil))))
    (sSeq (sIf (mtV (mBin dEq (mCallI 2 F__law_random 0 (mCons 0 (mP (pC (.int 4))) mNil)) (mP (pC (.int 0))))) (sAsg 5 (mFz (mCallI 2 F__law_odd 0 (mCons 0 (mP (pBin dPow (pC (.int 10)) (pC (.int 28)))) mNil)))) sNx)
    (sSeq (sAsg 2 (mFz (mIf (mtP (pB (pBin dEq (pVar 3) (pVar 1)))) (mP (pBin dMul (pC (.int 2)) (pVar 2))) (mO (oVar 2)))))
    (sSeq (sAsg 6 (mFz (mBinF dMulG (mCall 1 F__law_power (mCons 0 (mP (pBin dSub (pVar 3) (pVar 1))) mNil)) (mO (oVar 5)))))
    (sSeq (sAsg 7 (mP (pBin dAdd (pVar 4) (pBin dMul (pBin dMul (pVar 6) (pVar 2)) (pVar 2)))))
    (sSeq (sAsg 8 (mFz (mTup 0 (mCons 0 (mLst 0 (mCons 0 (mLst 0 (mCons 0 (mP (pC (.int 1))) (mCons 0 (mP (pBin dSub (pC (.int 0)) (pBin dMul (pVar 6) (pVar 2)))) mNil))) (mCons 0 (mLst 0 (mCons 0 (mO (oVar 2)) (mCons 0 (mO (oVar 4)) mNil))) mNil))) (mCons 0 (mO (oVar 7)) (mCons 0 (mP (pBin dMul (pBin dMul (pVar 4) (pVar 5)) (pVar 7))) mNil))))))
    (sSeq (sAsg 9 (mCall 5 F_squares_turned (mCons 0 (mO (oVar 1)) (mCons 0 (mO (oVar 4)) (mCons 0 (mO (oVar 3)) (mCons 0 (mO (oVar 5)) (mCons 0 (mO (oVar 2)) mNil)))))))
    (sSeq (sIf (mtOr (mtP (ptNot (pTr (pUn (dIsi "tuple") (pVar 9))))) (mtNot (mtThaw (mtTr (mCall 2 F__law_same (mCons 0 (mO (oVar 9)) (mCons 0 (mO (oVar 8)) mNil))))))) (sRet (mP (pC (.bl false)))) sNx)
    (sSeq (sAsg 10 (mFz (mLst 0 (mCons 0 (mLst 0 (mCons 0 (mBinF dMulG (mCall 1 F__law_power (mCons 0 (mO (oVar 1)) mNil)) (mO (oVar 4))) (mCons 0 (mP (pC (.int 0))) mNil))) (mCons 0 (mLst 0 (mCons 0 (mP (pC (.int 0))) (mCons 0 (mBinF dMulG (mCall 1 F__law_power (mCons 0 (mO (oVar 3)) mNil)) (mO (oVar 5))) mNil))) mNil)))))
    (sSeq (sIf (mtThaw (mtV (mBin dNe (mCall 2 F__law_changed (mCons 0 (mO (oVar 10)) (mCons 0 (mO (oIx (oVar 9) (pC (.int 0)))) mNil))) (mLst 0 (mCons 0 (mLst 0 (mCons 0 (mBinF dMulG (mCall 1 F__law_power (mCons 0 (mO (oVar 1)) mNil)) (mO (oIx (oVar 9) (pC (.int 1))))) (mCons 0 (mP (pC (.int 0))) mNil))) (mCons 0 (mLst 0 (mCons 0 (mP (pC (.int 0))) (mCons 0 (mBinF dMulG (mCall 1 F__law_power (mCons 0 (mO (oVar 3)) mNil)) (mO (oIx (oVar 9) (pC (.int 2))))) mNil))) mNil)))))) (sRet (mP (pC (.bl false)))) sNx)
    (sSeq (sApp 9 (plIx 9 (plIx 9 plNil (pC (.int 0))) (pC (.int 0))) (mP (pC (.int 1))))
    (sSeq (sApp 9 (plIx 9 plNil (pC (.int 0))) (mLst 0 mNil))
    (sRet (mCall 2 F__law_same (mCons 0 (mCallKw 5 5 F_squares_turned [4, 3, 2, 1, 0] (mCons 0 (mO (oVar 2)) (mCons 0 (mO (oVar 5)) (mCons 0 (mO (oVar 3)) (mCons 0 (mO (oVar 4)) (mCons 0 (mO (oVar 1)) mNil)))))) (mCons 0 (mO (oVar 8)) mNil))))))))))))))))))
noncomputable def F__law_squares_right : Fp1 := run1 11 m__law_squares_right
theorem b__law_squares_right {P : Program} {w : World} {K : PySem.W.Frag} {mg : Str → Option Value} {base : Heap} {fa : Addr} (h__law_changed : FnAt P w K mg base 4 "_law_changed" 2 (sp0 K mg 2 F__law_changed)) (h__law_odd : FnAt P w K mg base 4 "_law_odd" 2 (sp1 K mg 2 F__law_odd)) (h__law_power : FnAt P w K mg base 4 "_law_power" 1 (sp0 K mg 1 F__law_power)) (h__law_random : FnAt P w K mg base 4 "_law_random" 2 (sp1 K mg 2 F__law_random)) (h__law_same : FnAt P w K mg base 4 "_law_same" 2 (sp0 K mg 2 F__law_same)) (h__law_signed : FnAt P w K mg base 4 "_law_signed" 2 (sp1 K mg 2 F__law_signed)) (h_squares_turned : FnAt P w K mg base 4 "squares_turned" 5 (sp0 K mg 5 F_squares_turned)) (kw_squares_turned_43210 : FnKw P w K mg base 4 "squares_turned" 5 ["number", "other", "high", "one", "low"] [4, 3, 2, 1, 0] (sp0 K mg 5 F_squares_turned)) (z_isinstance : mg "isinstance" = none) (z_min : mg "min" = none) (z_tuple : mg "tuple" = none) : Body P w K mg base N__law_squares_right "_law_squares_right" s__law_squares_right fa 4 [0] m__law_squares_right := fun cdv A outer s H hr hgd =>
  (s_cons (s_par2 rfl sc__law_squares_right.nd rfl rfl (by decide) rfl rfl (by decide) (by decide) (g_fz (g_callI h__law_random hr hgd (by rfl) (pv 0) (g_acons (g_p p_int) g_anil))) (g_fz (g_callI h__law_signed hr hgd (by rfl) (pv 0) (g_acons (g_ix (g_lst (g_acons (g_p (p_pow p_int p_int)) (g_acons (g_p (p_pow p_int p_int)) g_anil))) (g_callI h__law_random hr hgd (by rfl) (pv 0) (g_acons (g_p p_int) g_anil)) (fun _ _ => rfl)) g_anil))) (by rfl))
    (s_cons (s_asg sc__law_squares_right.nd rfl (.inl rfl) (by decide) (g_fz (g_add (g_o (o_var (pv 1))) (g_callI h__law_random hr hgd (by rfl) (pv 0) (g_acons (g_callB (call_minG rfl) (w_of w_minL) (by rfl) z_min PyProof.Rows.boot_min (g_acons (g_p (p_sub p_int (p_var (pv 1)))) (g_acons (g_ix (g_lst (g_acons (g_p p_int) (g_acons (g_p p_int) g_anil))) (g_callI h__law_random hr hgd (by rfl) (pv 0) (g_acons (g_p p_int) g_anil)) (fun _ _ => rfl)) g_anil))) g_anil)))))
    (s_cons (s_par2 rfl sc__law_squares_right.nd rfl rfl (by decide) rfl rfl (by decide) (by decide) (g_fz (g_callI h__law_odd hr hgd (by rfl) (pv 0) (g_acons (g_ix (g_lst (g_acons (g_p p_int) (g_acons (g_p (p_pow p_int p_int)) g_anil))) (g_callI h__law_random hr hgd (by rfl) (pv 0) (g_acons (g_p p_int) g_anil)) (fun _ _ => rfl)) g_anil))) (g_fz (g_callI h__law_odd hr hgd (by rfl) (pv 0) (g_acons (g_p (p_pow p_int p_int)) g_anil))) (by rfl))
    (s_cons (s_if (gt_cmp (op_eqD (hu64 hr)) w_eq (g_callI h__law_random hr hgd (by rfl) (pv 0) (g_acons (g_p p_int) g_anil)) (g_p p_int) (nomark _)) (s_one (s_asg sc__law_squares_right.nd rfl (.inl rfl) (by decide) (g_fz (g_callI h__law_odd hr hgd (by rfl) (pv 0) (g_acons (g_p (p_pow p_int p_int)) g_anil))))) s_nil)
    (s_cons (s_asg sc__law_squares_right.nd rfl (.inl rfl) (by decide) (g_fz (g_if (gt_p (t_cmp (op_eqD (hu64 hr)) w_eq (p_var (pv 3)) (p_var (pv 1)) (nomark _))) (g_p (p_mul p_int (p_var (pv 2)))) (g_o (o_var (pv 2))))))
    (s_cons (s_asg sc__law_squares_right.nd rfl (.inl rfl) (by decide) (g_fz (g_mul (g_call h__law_power hr hgd (by rfl) (g_acons (g_p (p_sub (p_var (pv 3)) (p_var (pv 1)))) g_anil)) (g_o (o_var (pv 5))))))
    (s_cons (s_asg sc__law_squares_right.nd rfl (.inl rfl) (by decide) (g_p (p_add (p_var (pv 4)) (p_mul (p_mul (p_var (pv 6)) (p_var (pv 2))) (p_var (pv 2))))))
    (s_cons (s_asg sc__law_squares_right.nd rfl (.inl rfl) (by decide) (g_fz (g_tup (g_acons (g_lst (g_acons (g_lst (g_acons (g_p p_int) (g_acons (g_p (p_sub p_int (p_mul (p_var (pv 6)) (p_var (pv 2))))) g_anil))) (g_acons (g_lst (g_acons (g_o (o_var (pv 2))) (g_acons (g_o (o_var (pv 4))) g_anil))) g_anil))) (g_acons (g_o (o_var (pv 7))) (g_acons (g_p (p_mul (p_mul (p_var (pv 4)) (p_var (pv 5))) (p_var (pv 7)))) g_anil))))))
    (s_cons (s_asg sc__law_squares_right.nd rfl (.inl rfl) (by decide) (g_call h_squares_turned hr hgd (by rfl) (g_acons (g_o (o_var (pv 1))) (g_acons (g_o (o_var (pv 4))) (g_acons (g_o (o_var (pv 3))) (g_acons (g_o (o_var (pv 5))) (g_acons (g_o (o_var (pv 2))) g_anil)))))))
    (s_cons (s_if (PW.pt (gt_or (gt_p (t_not (t_truth (p_isi (T := "tuple") (by decide) (p_var (pv 9)) (by rfl) z_isinstance PyProof.Rows.boot_isinstance (by rfl) z_tuple PyProof.Rows.boot_tuple)))) (gt_or1 (gt_not (gt_thaw (gt_truth (g_call h__law_same hr hgd (by rfl) (g_acons (g_o (o_var (pv 9))) (g_acons (g_o (o_var (pv 8))) g_anil))))))))) (s_one (s_ret (g_p p_bl))) s_nil)
    (s_cons (s_asg sc__law_squares_right.nd rfl (.inl rfl) (by decide) (g_fz (g_lst (g_acons (g_lst (g_acons (g_mul (g_call h__law_power hr hgd (by rfl) (g_acons (g_o (o_var (pv 1))) g_anil)) (g_o (o_var (pv 4)))) (g_acons (g_p p_int) g_anil))) (g_acons (g_lst (g_acons (g_p p_int) (g_acons (g_mul (g_call h__law_power hr hgd (by rfl) (g_acons (g_o (o_var (pv 3))) g_anil)) (g_o (o_var (pv 5)))) g_anil))) g_anil)))))
    (s_cons (s_if (gt_thaw (gt_cmp (op_neD (hu64 hr)) w_ne (g_call h__law_changed hr hgd (by rfl) (g_acons (g_o (o_var (pv 10))) (g_acons (g_o (o_ix (o_var (pv 9)) p_int (fun _ _ => rfl))) g_anil))) (g_lst (g_acons (g_lst (g_acons (g_mul (g_call h__law_power hr hgd (by rfl) (g_acons (g_o (o_var (pv 1))) g_anil)) (g_o (o_ix (o_var (pv 9)) p_int (fun _ _ => rfl)))) (g_acons (g_p p_int) g_anil))) (g_acons (g_lst (g_acons (g_p p_int) (g_acons (g_mul (g_call h__law_power hr hgd (by rfl) (g_acons (g_o (o_var (pv 3))) g_anil)) (g_o (o_ix (o_var (pv 9)) p_int (fun _ _ => rfl)))) g_anil))) g_anil))) (nomark _))) (s_one (s_ret (g_p p_bl))) s_nil)
    (s_cons (s_app (pl_ix (pl_ix (pl_var (pv 9)) p_int (fun _ _ => rfl)) p_int (fun _ _ => rfl)) (g_p p_int))
    (s_cons (s_app (pl_ix (pl_var (pv 9)) p_int (fun _ _ => rfl)) (g_lst g_anil))
    (s_one (s_ret (g_call h__law_same hr hgd (by rfl) (g_acons (g_callKw kw_squares_turned_43210 hr hgd (by rfl) (gk_cons (g_o (o_var (pv 2))) (gk_cons (g_o (o_var (pv 5))) (gk_cons (g_o (o_var (pv 3))) (gk_cons (g_o (o_var (pv 4))) (gk_cons (g_o (o_var (pv 1))) gk_nil))))) (len_cons (len_cons (len_cons (len_cons (len_cons len_nil)))))) (g_acons (g_o (o_var (pv 8))) g_anil)))))))))))))))))))
/-! _law_pair -/
abbrev s__law_pair : Stmt := topS 35
abbrev N__law_pair : List Str := ["_law_scale", "_law_kind", "_law_by"]
theorem sc__law_pair : FnScope N__law_pair ["_law_scale", "_law_kind"] (defScope s__law_pair) := ⟨rfl, rfl, rfl, by decide +kernel, rfl, by decide +kernel, by decide +kernel⟩
noncomputable def m__law_pair : Mn.Env → Option Out :=
  (sSeq (sAsg 2 (mFz (mCall 1 F__law_power (mCons 0 (mO (oVar 0)) mNil))))
    (sRet (mLst 0 (mCons 0 (mLst 0 (mCons 0 (mP (pBin dMul (pVar 2) (pVar 1))) (mCons 0 (mO (oVar 2)) mNil))) (mCons 0 (mLst 0 (mCons 0 (mO (oVar 2)) (mCons 0 (mP (pBin dMul (pVar 2) (pVar 1))) mNil))) mNil)))))
noncomputable def F__law_pair : Fp0 := run0 3 m__law_pair
theorem b__law_pair {P : Program} {w : World} {K : PySem.W.Frag} {mg : Str → Option Value} {base : Heap} {fa : Addr} (h__law_power : FnAt P w K mg base 1 "_law_power" 1 (sp0 K mg 1 F__law_power)) : Body P w K mg base N__law_pair "_law_pair" s__law_pair fa 1 [] m__law_pair := fun cdv A outer s H hr hgd =>
  (s_cons (s_asg sc__law_pair.nd rfl (.inl rfl) (by decide) (g_fz (g_call h__law_power hr hgd (by rfl) (g_acons (g_o (o_var (pv 0))) g_anil))))
    (s_one (s_ret (g_lst (g_acons (g_lst (g_acons (g_p (p_mul (p_var (pv 2)) (p_var (pv 1)))) (g_acons (g_o (o_var (pv 2))) g_anil))) (g_acons (g_lst (g_acons (g_o (o_var (pv 2))) (g_acons (g_p (p_mul (p_var (pv 2)) (p_var (pv 1)))) g_anil))) g_anil))))))
/-! _law_beside -/
abbrev s__law_beside : Stmt := topS 36
abbrev N__law_beside : List Str := ["_law_one", "_law_other", "_law_found", "_law_row"]
theorem sc__law_beside : FnScope N__law_beside ["_law_one", "_law_other"] (defScope s__law_beside) := ⟨rfl, rfl, rfl, by decide +kernel, rfl, by decide +kernel, by decide +kernel⟩
noncomputable def m__law_beside : Mn.Env → Option Out :=
  (sSeq (sAsg 2 (mFz (mComp 0 (iSeq (mO (oVar 0))) (tName 3) tYesM (mBinF dAddG (mO (oVar 3)) (mBinF dMulG (mLst 0 (mCons 0 (mP (pC (.int 0))) mNil)) (mP (pCall dLen (pCons (pVar 1) pNil))))) [3])))
    (sRet (mBinF dAddG (mO (oVar 2)) (mComp 0 (iSeq (mO (oVar 1))) (tName 3) tYesM (mBinF dAddG (mBinF dMulG (mLst 0 (mCons 0 (mP (pC (.int 0))) mNil)) (mP (pCall dLen (pCons (pVar 0) pNil)))) (mO (oVar 3))) [3]))))
noncomputable def F__law_beside : Fp0 := run0 4 m__law_beside
theorem b__law_beside {P : Program} {w : World} {K : PySem.W.Frag} {mg : Str → Option Value} {base : Heap} {fa : Addr} (z_len : mg "len" = none) : Body P w K mg base N__law_beside "_law_beside" s__law_beside fa 0 [] m__law_beside := fun cdv A outer s H hr hgd =>
  (s_cons (s_setComp0 (own := [("_law_row", 3)]) rfl sc__law_beside.nd rfl rfl (by decide) (by rfl) (i_seq (g_o (o_var (pv 0)))) (blkOk_by (N := N__law_beside) (sc := (defScope s__law_beside)) (own := [("_law_row", 3)]) (by decide +kernel)) (fun _ _ _ _ _ => (tg_name sc__law_beside.nd rfl (.inl rfl))) (fun _ _ _ _ _ => (g_add (g_o (o_var (pv 3))) (g_mul (g_lst (g_acons (g_p p_int) g_anil)) (g_p (p_callB call_lenS w_len (by rfl) z_len PySem.boot_len (p_acons (p_var (pv 1)) p_anil)))))) (by decide))
    (s_one (s_ret (g_add (g_o (o_var (pv 2))) (g_comp (own := [("_law_row", 3)]) rfl sc__law_beside.nd (i_seq (g_o (o_var (pv 1)))) (blkOk_by (N := N__law_beside) (sc := (defScope s__law_beside)) (own := [("_law_row", 3)]) (by decide +kernel)) (fun _ _ _ _ _ => (tg_name sc__law_beside.nd rfl (.inl rfl))) (fun _ _ _ _ _ => (g_add (g_mul (g_lst (g_acons (g_p p_int) g_anil)) (g_p (p_callB call_lenS w_len (by rfl) z_len PySem.boot_len (p_acons (p_var (pv 0)) p_anil)))) (g_o (o_var (pv 3))))) (by decide))))))
/-! _law_turned_pair -/
abbrev s__law_turned_pair : Stmt := topS 37
abbrev N__law_turned_pair : List Str := ["_law_rows", "_law_scale", "_law_product_here"]
theorem sc__law_turned_pair : FnScope N__law_turned_pair ["_law_rows", "_law_scale"] (defScope s__law_turned_pair) := ⟨rfl, rfl, rfl, by decide +kernel, rfl, by decide +kernel, by decide +kernel⟩
noncomputable def m__law_turned_pair : Mn.Env → Option Out :=
  (sSeq (sAsg 2 (mP (pBin dSub (pBin dMul (pBin dIx (pBin dIx (pVar 0) (pC (.int 0))) (pC (.int 0))) (pBin dIx (pBin dIx (pVar 0) (pC (.int 1))) (pC (.int 1)))) (pBin dMul (pBin dIx (pBin dIx (pVar 0) (pC (.int 0))) (pC (.int 1))) (pBin dIx (pBin dIx (pVar 0) (pC (.int 1))) (pC (.int 0)))))))
    (sRet (mBin dMod (mCallF (ofN dInt) (mCons 0 (mBin dDiv (mO (oVar 2)) (mCall 1 F__law_power (mCons 0 (mP (pBin dMul (pC (.int 2)) (pVar 1))) mNil))) mNil)) (mP (pC (.int 8))))))
noncomputable def F__law_turned_pair : Fp0 := run0 3 m__law_turned_pair
theorem b__law_turned_pair {P : Program} {w : World} {K : PySem.W.Frag} {mg : Str → Option Value} {base : Heap} {fa : Addr} (h__law_power : FnAt P w K mg base 1 "_law_power" 1 (sp0 K mg 1 F__law_power)) (z_int : mg "int" = none) : Body P w K mg base N__law_turned_pair "_law_turned_pair" s__law_turned_pair fa 1 [] m__law_turned_pair := fun cdv A outer s H hr hgd =>
  (s_cons (s_asg sc__law_turned_pair.nd rfl (.inl rfl) (by decide) (g_p (p_sub (p_mul (p_ix ix_seq w_ix (p_ix ix_seq w_ix (p_var (pv 0)) p_int (fun _ _ => rfl)) p_int (fun _ _ => rfl)) (p_ix ix_seq w_ix (p_ix ix_seq w_ix (p_var (pv 0)) p_int (fun _ _ => rfl)) p_int (fun _ _ => rfl))) (p_mul (p_ix ix_seq w_ix (p_ix ix_seq w_ix (p_var (pv 0)) p_int (fun _ _ => rfl)) p_int (fun _ _ => rfl)) (p_ix ix_seq w_ix (p_ix ix_seq w_ix (p_var (pv 0)) p_int (fun _ _ => rfl)) p_int (fun _ _ => rfl))))))
    (s_one (s_ret (g_mod (g_callTy call_int1 (w_of w_int) (by rfl) z_int PyProof.Rows.boot_int (g_acons (g_div (g_o (o_var (pv 2))) (g_call h__law_power hr hgd (by rfl) (g_acons (g_p (p_mul p_int (p_var (pv 1)))) g_anil))) g_anil)) (g_p p_int)))))
/-! _law_first_right -/
abbrev s__law_first_right : Stmt := topS 38
abbrev N__law_first_right : List Str := ["_law_generator_here", "_law_low", "_law_high", "_law_one", "_law_kind", "_law_step", "_law_columns", "_law_change", "_law_made", "_law_form", "_law_due", "_law_row"]
theorem sc__law_first_right : FnScope N__law_first_right ["_law_generator_here", "_law_low", "_law_high", "_law_one", "_law_kind"] (defScope s__law_first_right) := ⟨rfl, rfl, rfl, by decide +kernel, rfl, by decide +kernel, by decide +kernel⟩
noncomputable def m__law_first_right : Mn.Env → Option Out :=
  (sSeq (sAsg 5 (mFz (mCall 1 F__law_power (mCons 0 (mP (pBin dSub (pVar 2) (pVar 1))) mNil))))
    (sSeq (sAsg 6 (mFz (mLst 0 (mCons 0 (mLst 0 (mCons 0 (mP (pC (.int 1))) (mCons 0 (mP (pC (.int 1))) (mCons 0 (mP (pC (.int 1))) mNil)))) (mCons 0 (mLst 0 (mCons 0 (mP (pBin dSub (pC (.int 0)) (pVar 5))) (mCons 0 (mO (oVar 3)) (mCons 0 (mP (pC (.int 0))) mNil)))) (mCons 0 (mLst 0 (mCons 0 (mP (pBin dSub (pC (.int 0)) (pVar 5))) (mCons 0 (mP (pC (.int 0))) (mCons 0 (mO (oVar 3)) mNil)))) mNil))))))
    (sSeq (sIf (mtP (pB (pBin dEq (pVar 4) (pC (.int 2))))) (sAsg 6 (mFz (mLst 0 (mCons 0 (mLst 0 (mCons 0 (mP (pC (.int 1))) (mCons 0 (mP (pC (.int 1))) (mCons 0 (mP (pC (.int 0))) mNil)))) (mCons 0 (mLst 0 (mCons 0 (mP (pBin dSub (pC (.int 0)) (pVar 5))) (mCons 0 (mP (pC (.int 0))) (mCons 0 (mO (oVar 3)) mNil)))) (mCons 0 (mLst 0 (mCons 0 (mP (pBin dSub (pC (.int 0)) (pBin dMul (pC (.int 2)) (pVar 5)))) (mCons 0 (mO (oVar 3)) (mCons 0 (mP (pC (.int 0))) mNil)))) mNil)))))) sNx)
    (sSeq (sAsgT (mCall 4 F_square_beside_pair (mCons 0 (mO (oVar 1)) (mCons 0 (mO (oVar 3)) (mCons 0 (mO (oVar 2)) (mCons 0 (mO (oVar 4)) mNil))))) (cTup 2 (csCons (cName 7) (csCons (cName 8) csNil))))
    (sSeq (sAsg 9 (mFz (mCall 2 F__law_beside (mCons 0 (mLst 0 (mCons 0 (mLst 0 (mCons 0 (mBinF dMulG (mCall 1 F__law_power (mCons 0 (mO (oVar 1)) mNil)) (mO (oVar 3))) mNil)) mNil)) (mCons 0 (mCall 2 F__law_pair (mCons 0 (mO (oVar 2)) (mCons 0 (mO (oVar 4)) mNil))) mNil)))))
    (sSeq (sIf (mtNot (mtThaw (mtTr (mCall 2 F__law_same (mCons 0 (mLst 0 (mCons 0 (mO (oVar 7)) (mCons 0 (mO (oVar 8)) mNil))) (mCons 0 (mLst 0 (mCons 0 (mCall 1 F__law_over (mCons 0 (mO (oVar 6)) mNil)) (mCons 0 (mCall 2 F__law_changed (mCons 0 (mO (oVar 9)) (mCons 0 (mCall 1 F__law_over (mCons 0 (mO (oVar 6)) mNil)) mNil))) mNil))) mNil)))))) (sRet (mP (pC (.bl false)))) sNx)
    (sSeq (sIf (mtOr (mtThaw (mtV (mBin dNe (mSl (mO (oIx (oVar 8) (pC (.int 0)))) (some (mP (pC (.int 1)))) none) (mLst 0 (mCons 0 (mP (pC (.int 0))) (mCons 0 (mP (pC (.int 0))) mNil)))))) (mtThaw (mtV (mBin dNe (mCall 1 F__law_bits_product (mCons 0 (mO (oVar 7)) mNil)) (mP (pC (.int 1))))))) (sRet (mP (pC (.bl false)))) sNx)
    (sSeq (sIf (mtP (pB (pBin dEq (pVar 2) (pBin dAdd (pVar 1) (pC (.int 1)))))) (sSeq (sIf (mtV (mBin dNe (mBin dMod (mCallF (ofN dInt) (mCons 0 (mBin dSub (mBin dDiv (mO (oIx (oIx (oVar 8) (pC (.int 0))) (pC (.int 0)))) (mCall 1 F__law_power (mCons 0 (mO (oVar 1)) mNil))) (mP (pBin dMul (pC (.int 5)) (pVar 3)))) mNil)) (mP (pC (.int 8)))) (mP (pC (.int 0))))) (sRet (mP (pC (.bl false)))) sNx)
    (sIf (mtThaw (mtV (mBin dNe (mCall 2 F__law_turned_pair (mCons 0 (mComp 0 (iSeq (mSl (mO (oVar 8)) (some (mP (pC (.int 1)))) none)) (tName 11) tYesM (mSl (mO (oVar 11)) (some (mP (pC (.int 1)))) none) [11]) (mCons 0 (mO (oVar 2)) mNil))) (mP (pIf (pB (pBin dEq (pVar 4) (pC (.int 0)))) (pC (.int 3)) (pC (.int 7))))))) (sRet (mP (pC (.bl false)))) sNx)) sNx)
    (sSeq (sApp0 8 (mP (pC (.int 1))))
    (sSeq (sApp 7 (plIx 7 plNil (pC (.int 0))) (mP (pC (.int 1))))
    (sSeq (sAsg 10 (mFz (mTup 0 (mCons 0 (mCall 1 F__law_over (mCons 0 (mO (oVar 6)) mNil)) (mCons 0 (mCall 2 F__law_changed (mCons 0 (mO (oVar 9)) (mCons 0 (mCall 1 F__law_over (mCons 0 (mO (oVar 6)) mNil)) mNil))) mNil)))))
    (sRet (mCall 2 F__law_same (mCons 0 (mCallKw 4 4 F_square_beside_pair [3, 2, 1, 0] (mCons 0 (mO (oVar 4)) (mCons 0 (mO (oVar 2)) (mCons 0 (mO (oVar 3)) (mCons 0 (mO (oVar 1)) mNil))))) (mCons 0 (mO (oVar 10)) mNil)))))))))))))))
noncomputable def F__law_first_right : Fp0 := run0 12 m__law_first_right
theorem b__law_first_right {P : Program} {w : World} {K : PySem.W.Frag} {mg : Str → Option Value} {base : Heap} {fa : Addr} (h__law_beside : FnAt P w K mg base 4 "_law_beside" 2 (sp0 K mg 2 F__law_beside)) (h__law_bits_product : FnAt P w K mg base 4 "_law_bits_product" 1 (sp0 K mg 1 F__law_bits_product)) (h__law_changed : FnAt P w K mg base 4 "_law_changed" 2 (sp0 K mg 2 F__law_changed)) (h__law_over : FnAt P w K mg base 4 "_law_over" 1 (sp0 K mg 1 F__law_over)) (h__law_pair : FnAt P w K mg base 4 "_law_pair" 2 (sp0 K mg 2 F__law_pair)) (h__law_power : FnAt P w K mg base 4 "_law_power" 1 (sp0 K mg 1 F__law_power)) (h__law_same : FnAt P w K mg base 4 "_law_same" 2 (sp0 K mg 2 F__law_same)) (h__law_turned_pair : FnAt P w K mg base 4 "_law_turned_pair" 2 (sp0 K mg 2 F__law_turned_pair)) (h_square_beside_pair : FnAt P w K mg base 4 "square_beside_pair" 4 (sp0 K mg 4 F_square_beside_pair)) (kw_square_beside_pair_3210 : FnKw P w K mg base 4 "square_beside_pair" 4 ["kind", "high", "one", "low"] [3, 2, 1, 0] (sp0 K mg 4 F_square_beside_pair)) (z_int : mg "int" = none) : Body P w K mg base N__law_first_right "_law_first_right" s__law_first_right fa 4 [] m__law_first_right := fun cdv A outer s H hr hgd =>
  (s_cons (s_asg sc__law_first_right.nd rfl (.inl rfl) (by decide) (g_fz (g_call h__law_power hr hgd (by rfl) (g_acons (g_p (p_sub (p_var (pv 2)) (p_var (pv 1)))) g_anil))))
    (s_cons (s_asg sc__law_first_right.nd rfl (.inl rfl) (by decide) (g_fz (g_lst (g_acons (g_lst (g_acons (g_p p_int) (g_acons (g_p p_int) (g_acons (g_p p_int) g_anil)))) (g_acons (g_lst (g_acons (g_p (p_sub p_int (p_var (pv 5)))) (g_acons (g_o (o_var (pv 3))) (g_acons (g_p p_int) g_anil)))) (g_acons (g_lst (g_acons (g_p (p_sub p_int (p_var (pv 5)))) (g_acons (g_p p_int) (g_acons (g_o (o_var (pv 3))) g_anil)))) g_anil))))))
    (s_cons (s_if (gt_p (t_cmp (op_eqD (hu64 hr)) w_eq (p_var (pv 4)) p_int (nomark _))) (s_one (s_asg sc__law_first_right.nd rfl (.inl rfl) (by decide) (g_fz (g_lst (g_acons (g_lst (g_acons (g_p p_int) (g_acons (g_p p_int) (g_acons (g_p p_int) g_anil)))) (g_acons (g_lst (g_acons (g_p (p_sub p_int (p_var (pv 5)))) (g_acons (g_p p_int) (g_acons (g_o (o_var (pv 3))) g_anil)))) (g_acons (g_lst (g_acons (g_p (p_sub p_int (p_mul p_int (p_var (pv 5))))) (g_acons (g_o (o_var (pv 3))) (g_acons (g_p p_int) g_anil)))) g_anil))))))) s_nil)
    (s_cons (s_asgT (tc_tup rfl (tc_cons (tc_name sc__law_first_right.nd rfl (.inl rfl)) (tc_cons (tc_name sc__law_first_right.nd rfl (.inl rfl)) tc_nil))) (g_call h_square_beside_pair hr hgd (by rfl) (g_acons (g_o (o_var (pv 1))) (g_acons (g_o (o_var (pv 3))) (g_acons (g_o (o_var (pv 2))) (g_acons (g_o (o_var (pv 4))) g_anil))))) (by decide))
    (s_cons (s_asg sc__law_first_right.nd rfl (.inl rfl) (by decide) (g_fz (g_call h__law_beside hr hgd (by rfl) (g_acons (g_lst (g_acons (g_lst (g_acons (g_mul (g_call h__law_power hr hgd (by rfl) (g_acons (g_o (o_var (pv 1))) g_anil)) (g_o (o_var (pv 3)))) g_anil)) g_anil)) (g_acons (g_call h__law_pair hr hgd (by rfl) (g_acons (g_o (o_var (pv 2))) (g_acons (g_o (o_var (pv 4))) g_anil))) g_anil)))))
    (s_cons (s_if (gt_not (gt_thaw (gt_truth (g_call h__law_same hr hgd (by rfl) (g_acons (g_lst (g_acons (g_o (o_var (pv 7))) (g_acons (g_o (o_var (pv 8))) g_anil))) (g_acons (g_lst (g_acons (g_call h__law_over hr hgd (by rfl) (g_acons (g_o (o_var (pv 6))) g_anil)) (g_acons (g_call h__law_changed hr hgd (by rfl) (g_acons (g_o (o_var (pv 9))) (g_acons (g_call h__law_over hr hgd (by rfl) (g_acons (g_o (o_var (pv 6))) g_anil)) g_anil))) g_anil))) g_anil)))))) (s_one (s_ret (g_p p_bl))) s_nil)
    (s_cons (s_if (PW.pt (gt_or (gt_thaw (gt_cmp (op_neD (hu64 hr)) w_ne (g_slice (g_o (o_ix (o_var (pv 8)) p_int (fun _ _ => rfl))) (go_some (g_p p_int)) go_none) (g_lst (g_acons (g_p p_int) (g_acons (g_p p_int) g_anil))) (nomark _))) (gt_or1 (gt_thaw (gt_cmp (op_neD (hu64 hr)) w_ne (g_call h__law_bits_product hr hgd (by rfl) (g_acons (g_o (o_var (pv 7))) g_anil)) (g_p p_int) (nomark _)))))) (s_one (s_ret (g_p p_bl))) s_nil)
    (s_cons (s_if (gt_p (t_cmp (op_eqD (hu64 hr)) w_eq (p_var (pv 2)) (p_add (p_var (pv 1)) p_int) (nomark _))) (s_cons (s_if (gt_cmp (op_neD (hu64 hr)) w_ne (g_mod (g_callTy call_int1 (w_of w_int) (by rfl) z_int PyProof.Rows.boot_int (g_acons (g_sub (g_div (g_o (o_ix (o_ix (o_var (pv 8)) p_int (fun _ _ => rfl)) p_int (fun _ _ => rfl))) (g_call h__law_power hr hgd (by rfl) (g_acons (g_o (o_var (pv 1))) g_anil))) (g_p (p_mul p_int (p_var (pv 3))))) g_anil)) (g_p p_int)) (g_p p_int) (nomark _)) (s_one (s_ret (g_p p_bl))) s_nil)
    (s_one (s_if (gt_thaw (gt_cmp (op_neD (hu64 hr)) w_ne (g_call h__law_turned_pair hr hgd (by rfl) (g_acons (g_comp (own := [("_law_row", 11)]) rfl sc__law_first_right.nd (i_seq (g_slice (g_o (o_var (pv 8))) (go_some (g_p p_int)) go_none)) (blkOk_by (N := N__law_first_right) (sc := (defScope s__law_first_right)) (own := [("_law_row", 11)]) (by decide +kernel)) (fun _ _ _ _ _ => (tg_name sc__law_first_right.nd rfl (.inl rfl))) (fun _ _ _ _ _ => (g_slice (g_o (o_var (pv 11))) (go_some (g_p p_int)) go_none)) (by decide)) (g_acons (g_o (o_var (pv 2))) g_anil))) (g_p (p_if (t_cmp (op_eqD (hu64 hr)) w_eq (p_var (pv 4)) p_int (nomark _)) p_int p_int)) (nomark _))) (s_one (s_ret (g_p p_bl))) s_nil))) s_nil)
    (s_cons (s_app0 (pv 8) (g_p p_int))
    (s_cons (s_app (pl_ix (pl_var (pv 7)) p_int (fun _ _ => rfl)) (g_p p_int))
    (s_cons (s_asg sc__law_first_right.nd rfl (.inl rfl) (by decide) (g_fz (g_tup (g_acons (g_call h__law_over hr hgd (by rfl) (g_acons (g_o (o_var (pv 6))) g_anil)) (g_acons (g_call h__law_changed hr hgd (by rfl) (g_acons (g_o (o_var (pv 9))) (g_acons (g_call h__law_over hr hgd (by rfl) (g_acons (g_o (o_var (pv 6))) g_anil)) g_anil))) g_anil)))))
    (s_one (s_ret (g_call h__law_same hr hgd (by rfl) (g_acons (g_callKw kw_square_beside_pair_3210 hr hgd (by rfl) (gk_cons (g_o (o_var (pv 4))) (gk_cons (g_o (o_var (pv 2))) (gk_cons (g_o (o_var (pv 3))) (gk_cons (g_o (o_var (pv 1))) gk_nil)))) (len_cons (len_cons (len_cons (len_cons len_nil))))) (g_acons (g_o (o_var (pv 10))) g_anil))))))))))))))))
/-! _law_second_right -/
abbrev s__law_second_right : Stmt := topS 39
abbrev N__law_second_right : List Str := ["_law_generator_here", "_law_low", "_law_high", "_law_one", "_law_kind", "_law_back", "_law_columns", "_law_change", "_law_made", "_law_form", "_law_due", "_law_row"]
theorem sc__law_second_right : FnScope N__law_second_right ["_law_generator_here", "_law_low", "_law_high", "_law_one", "_law_kind"] (defScope s__law_second_right) := ⟨rfl, rfl, rfl, by decide +kernel, rfl, by decide +kernel, by decide +kernel⟩
noncomputable def m__law_second_right : Mn.Env → Option Out :=
  (sSeq (sAsg 5 (mFz (mBin dSub (mP (pC (.int 0))) (mBinF dMulG (mCall 1 F__law_power (mCons 0 (mP (pBin dSub (pVar 2) (pVar 1))) mNil)) (mO (oVar 3))))))
    (sSeq (sAsg 6 (mFz (mLst 0 (mCons 0 (mLst 0 (mCons 0 (mP (pC (.int 1))) (mCons 0 (mP (pC (.int 0))) (mCons 0 (mP (pC (.int 1))) mNil)))) (mCons 0 (mLst 0 (mCons 0 (mP (pC (.int 0))) (mCons 0 (mP (pC (.int 1))) (mCons 0 (mP (pC (.int 1))) mNil)))) (mCons 0 (mLst 0 (mCons 0 (mO (oVar 5)) (mCons 0 (mO (oVar 5)) (mCons 0 (mP (pBin dAdd (pC (.int 1)) (pVar 4))) mNil)))) mNil))))))
    (sSeq (sAsgT (mCall 4 F_pair_beside_square (mCons 0 (mO (oVar 1)) (mCons 0 (mO (oVar 4)) (mCons 0 (mO (oVar 2)) (mCons 0 (mO (oVar 3)) mNil))))) (cTup 2 (csCons (cName 7) (csCons (cName 8) csNil))))
    (sSeq (sAsg 9 (mFz (mCall 2 F__law_beside (mCons 0 (mCall 2 F__law_pair (mCons 0 (mO (oVar 1)) (mCons 0 (mO (oVar 4)) mNil))) (mCons 0 (mLst 0 (mCons 0 (mLst 0 (mCons 0 (mBinF dMulG (mCall 1 F__law_power (mCons 0 (mO (oVar 2)) mNil)) (mO (oVar 3))) mNil)) mNil)) mNil)))))
    (sSeq (sIf (mtNot (mtThaw (mtTr (mCall 2 F__law_same (mCons 0 (mLst 0 (mCons 0 (mO (oVar 7)) (mCons 0 (mO (oVar 8)) mNil))) (mCons 0 (mLst 0 (mCons 0 (mCall 1 F__law_over (mCons 0 (mO (oVar 6)) mNil)) (mCons 0 (mCall 2 F__law_changed (mCons 0 (mO (oVar 9)) (mCons 0 (mCall 1 F__law_over (mCons 0 (mO (oVar 6)) mNil)) mNil))) mNil))) mNil)))))) (sRet (mP (pC (.bl false)))) sNx)
    (sSeq (sIf (mtOr (mtThaw (mtV (mBin dNe (mSl (mO (oIx (oVar 8) (pC (.int 2)))) none (some (mP (pC (.int 2))))) (mLst 0 (mCons 0 (mP (pC (.int 0))) (mCons 0 (mP (pC (.int 0))) mNil)))))) (mtThaw (mtV (mBin dNe (mCall 1 F__law_bits_product (mCons 0 (mO (oVar 7)) mNil)) (mP (pC (.int 1))))))) (sRet (mP (pC (.bl false)))) sNx)
    (sSeq (sIf (mtP (pB (pBin dEq (pVar 2) (pBin dAdd (pVar 1) (pC (.int 1)))))) (sSeq (sIf (mtV (mBin dNe (mBin dMod (mCallF (ofN dInt) (mCons 0 (mBin dSub (mBin dDiv (mO (oIx (oIx (oVar 8) (pC (.int 2))) (pC (.int 2)))) (mCall 1 F__law_power (mCons 0 (mO (oVar 2)) mNil))) (mP (pBin dMul (pC (.int 5)) (pVar 3)))) mNil)) (mP (pC (.int 8)))) (mP (pC (.int 0))))) (sRet (mP (pC (.bl false)))) sNx)
    (sIf (mtThaw (mtV (mBin dNe (mCall 2 F__law_turned_pair (mCons 0 (mComp 0 (iSeq (mSl (mO (oVar 8)) none (some (mP (pC (.int 2)))))) (tName 11) tYesM (mSl (mO (oVar 11)) none (some (mP (pC (.int 2))))) [11]) (mCons 0 (mO (oVar 1)) mNil))) (mP (pIf (pB (pBin dEq (pVar 4) (pC (.int 0)))) (pC (.int 3)) (pC (.int 7))))))) (sRet (mP (pC (.bl false)))) sNx)) sNx)
    (sSeq (sAsg 10 (mFz (mTup 0 (mCons 0 (mCall 1 F__law_over (mCons 0 (mO (oVar 6)) mNil)) (mCons 0 (mCall 2 F__law_changed (mCons 0 (mO (oVar 9)) (mCons 0 (mCall 1 F__law_over (mCons 0 (mO (oVar 6)) mNil)) mNil))) mNil)))))
    (sSeq (sApp 7 (plIx 7 plNil (pC (.int 0))) (mP (pC (.int 1))))
    (sSeq (sApp 8 (plIx 8 plNil (pC (.int 0))) (mP (pC (.int 1))))
    (sSeq (sApp0 8 (mP (pC (.int 1))))
    (sRet (mCall 2 F__law_same (mCons 0 (mCallKw 4 4 F_pair_beside_square [3, 2, 1, 0] (mCons 0 (mO (oVar 3)) (mCons 0 (mO (oVar 2)) (mCons 0 (mO (oVar 4)) (mCons 0 (mO (oVar 1)) mNil))))) (mCons 0 (mO (oVar 10)) mNil)))))))))))))))
noncomputable def F__law_second_right : Fp0 := run0 12 m__law_second_right
theorem b__law_second_right {P : Program} {w : World} {K : PySem.W.Frag} {mg : Str → Option Value} {base : Heap} {fa : Addr} (h__law_beside : FnAt P w K mg base 4 "_law_beside" 2 (sp0 K mg 2 F__law_beside)) (h__law_bits_product : FnAt P w K mg base 4 "_law_bits_product" 1 (sp0 K mg 1 F__law_bits_product)) (h__law_changed : FnAt P w K mg base 4 "_law_changed" 2 (sp0 K mg 2 F__law_changed)) (h__law_over : FnAt P w K mg base 4 "_law_over" 1 (sp0 K mg 1 F__law_over)) (h__law_pair : FnAt P w K mg base 4 "_law_pair" 2 (sp0 K mg 2 F__law_pair)) (h__law_power : FnAt P w K mg base 4 "_law_power" 1 (sp0 K mg 1 F__law_power)) (h__law_same : FnAt P w K mg base 4 "_law_same" 2 (sp0 K mg 2 F__law_same)) (h__law_turned_pair : FnAt P w K mg base 4 "_law_turned_pair" 2 (sp0 K mg 2 F__law_turned_pair)) (h_pair_beside_square : FnAt P w K mg base 4 "pair_beside_square" 4 (sp0 K mg 4 F_pair_beside_square)) (kw_pair_beside_square_3210 : FnKw P w K mg base 4 "pair_beside_square" 4 ["one", "high", "kind", "low"] [3, 2, 1, 0] (sp0 K mg 4 F_pair_beside_square)) (z_int : mg "int" = none) : Body P w K mg base N__law_second_right "_law_second_right" s__law_second_right fa 4 [] m__law_second_right := fun cdv A outer s H hr hgd =>
  (s_cons (s_asg sc__law_second_right.nd rfl (.inl rfl) (by decide) (g_fz (g_sub (g_p p_int) (g_mul (g_call h__law_power hr hgd (by rfl) (g_acons (g_p (p_sub (p_var (pv 2)) (p_var (pv 1)))) g_anil)) (g_o (o_var (pv 3)))))))
    (s_cons (s_asg sc__law_second_right.nd rfl (.inl rfl) (by decide) (g_fz (g_lst (g_acons (g_lst (g_acons (g_p p_int) (g_acons (g_p p_int) (g_acons (g_p p_int) g_anil)))) (g_acons (g_lst (g_acons (g_p p_int) (g_acons (g_p p_int) (g_acons (g_p p_int) g_anil)))) (g_acons (g_lst (g_acons (g_o (o_var (pv 5))) (g_acons (g_o (o_var (pv 5))) (g_acons (g_p (p_add p_int (p_var (pv 4)))) g_anil)))) g_anil))))))
    (s_cons (s_asgT (tc_tup rfl (tc_cons (tc_name sc__law_second_right.nd rfl (.inl rfl)) (tc_cons (tc_name sc__law_second_right.nd rfl (.inl rfl)) tc_nil))) (g_call h_pair_beside_square hr hgd (by rfl) (g_acons (g_o (o_var (pv 1))) (g_acons (g_o (o_var (pv 4))) (g_acons (g_o (o_var (pv 2))) (g_acons (g_o (o_var (pv 3))) g_anil))))) (by decide))
    (s_cons (s_asg sc__law_second_right.nd rfl (.inl rfl) (by decide) (g_fz (g_call h__law_beside hr hgd (by rfl) (g_acons (g_call h__law_pair hr hgd (by rfl) (g_acons (g_o (o_var (pv 1))) (g_acons (g_o (o_var (pv 4))) g_anil))) (g_acons (g_lst (g_acons (g_lst (g_acons (g_mul (g_call h__law_power hr hgd (by rfl) (g_acons (g_o (o_var (pv 2))) g_anil)) (g_o (o_var (pv 3)))) g_anil)) g_anil)) g_anil)))))
    (s_cons (s_if (gt_not (gt_thaw (gt_truth (g_call h__law_same hr hgd (by rfl) (g_acons (g_lst (g_acons (g_o (o_var (pv 7))) (g_acons (g_o (o_var (pv 8))) g_anil))) (g_acons (g_lst (g_acons (g_call h__law_over hr hgd (by rfl) (g_acons (g_o (o_var (pv 6))) g_anil)) (g_acons (g_call h__law_changed hr hgd (by rfl) (g_acons (g_o (o_var (pv 9))) (g_acons (g_call h__law_over hr hgd (by rfl) (g_acons (g_o (o_var (pv 6))) g_anil)) g_anil))) g_anil))) g_anil)))))) (s_one (s_ret (g_p p_bl))) s_nil)
    (s_cons (s_if (PW.pt (gt_or (gt_thaw (gt_cmp (op_neD (hu64 hr)) w_ne (g_slice (g_o (o_ix (o_var (pv 8)) p_int (fun _ _ => rfl))) go_none (go_some (g_p p_int))) (g_lst (g_acons (g_p p_int) (g_acons (g_p p_int) g_anil))) (nomark _))) (gt_or1 (gt_thaw (gt_cmp (op_neD (hu64 hr)) w_ne (g_call h__law_bits_product hr hgd (by rfl) (g_acons (g_o (o_var (pv 7))) g_anil)) (g_p p_int) (nomark _)))))) (s_one (s_ret (g_p p_bl))) s_nil)
    (s_cons (s_if (gt_p (t_cmp (op_eqD (hu64 hr)) w_eq (p_var (pv 2)) (p_add (p_var (pv 1)) p_int) (nomark _))) (s_cons (s_if (gt_cmp (op_neD (hu64 hr)) w_ne (g_mod (g_callTy call_int1 (w_of w_int) (by rfl) z_int PyProof.Rows.boot_int (g_acons (g_sub (g_div (g_o (o_ix (o_ix (o_var (pv 8)) p_int (fun _ _ => rfl)) p_int (fun _ _ => rfl))) (g_call h__law_power hr hgd (by rfl) (g_acons (g_o (o_var (pv 2))) g_anil))) (g_p (p_mul p_int (p_var (pv 3))))) g_anil)) (g_p p_int)) (g_p p_int) (nomark _)) (s_one (s_ret (g_p p_bl))) s_nil)
    (s_one (s_if (gt_thaw (gt_cmp (op_neD (hu64 hr)) w_ne (g_call h__law_turned_pair hr hgd (by rfl) (g_acons (g_comp (own := [("_law_row", 11)]) rfl sc__law_second_right.nd (i_seq (g_slice (g_o (o_var (pv 8))) go_none (go_some (g_p p_int)))) (blkOk_by (N := N__law_second_right) (sc := (defScope s__law_second_right)) (own := [("_law_row", 11)]) (by decide +kernel)) (fun _ _ _ _ _ => (tg_name sc__law_second_right.nd rfl (.inl rfl))) (fun _ _ _ _ _ => (g_slice (g_o (o_var (pv 11))) go_none (go_some (g_p p_int)))) (by decide)) (g_acons (g_o (o_var (pv 1))) g_anil))) (g_p (p_if (t_cmp (op_eqD (hu64 hr)) w_eq (p_var (pv 4)) p_int (nomark _)) p_int p_int)) (nomark _))) (s_one (s_ret (g_p p_bl))) s_nil))) s_nil)
    (s_cons (s_asg sc__law_second_right.nd rfl (.inl rfl) (by decide) (g_fz (g_tup (g_acons (g_call h__law_over hr hgd (by rfl) (g_acons (g_o (o_var (pv 6))) g_anil)) (g_acons (g_call h__law_changed hr hgd (by rfl) (g_acons (g_o (o_var (pv 9))) (g_acons (g_call h__law_over hr hgd (by rfl) (g_acons (g_o (o_var (pv 6))) g_anil)) g_anil))) g_anil)))))
    (s_cons (s_app (pl_ix (pl_var (pv 7)) p_int (fun _ _ => rfl)) (g_p p_int))
    (s_cons (s_app (pl_ix (pl_var (pv 8)) p_int (fun _ _ => rfl)) (g_p p_int))
    (s_cons (s_app0 (pv 8) (g_p p_int))
    (s_one (s_ret (g_call h__law_same hr hgd (by rfl) (g_acons (g_callKw kw_pair_beside_square_3210 hr hgd (by rfl) (gk_cons (g_o (o_var (pv 3))) (gk_cons (g_o (o_var (pv 2))) (gk_cons (g_o (o_var (pv 4))) (gk_cons (g_o (o_var (pv 1))) gk_nil)))) (len_cons (len_cons (len_cons (len_cons len_nil))))) (g_acons (g_o (o_var (pv 10))) g_anil))))))))))))))))
/-! _law_pairs_right -/
abbrev s__law_pairs_right : Stmt := topS 40
abbrev N__law_pairs_right : List Str := ["_law_scale", "_law_columns", "_law_form", "_law_due", "_law_told", "_law_first", "_law_block", "_law_row"]
theorem sc__law_pairs_right : FnScope N__law_pairs_right ["_law_scale"] (defScope s__law_pairs_right) := ⟨rfl, rfl, rfl, by decide +kernel, rfl, by decide +kernel, by decide +kernel⟩
noncomputable def m__law_pairs_right : Mn.Env → Option Out :=
  (sSeq (sAsg 1 (mFz (mLst 0 (mCons 0 (mLst 0 (mCons 0 (mP (pC (.int 1))) (mCons 0 (mP (pC (.int 0))) (mCons 0 (mP (pC (.int 1))) (mCons 0 (mP (pC (.int 0))) mNil))))) (mCons 0 (mLst 0 (mCons 0 (mP (pC (.int 0))) (mCons 0 (mP (pC (.int 1))) (mCons 0 (mP (pC (.int 0))) (mCons 0 (mP (pC (.int 0))) mNil))))) (mCons 0 (mLst 0 (mCons 0 (mP (pUn dNeg (pC (.int 2)))) (mCons 0 (mP (pC (.int 1))) (mCons 0 (mP (pC (.int 0))) (mCons 0 (mP (pC (.int 3))) mNil))))) (mCons 0 (mLst 0 (mCons 0 (mP (pC (.int 0))) (mCons 0 (mP (pC (.int 0))) (mCons 0 (mP (pC (.int 1))) (mCons 0 (mP (pUn dNeg (pC (.int 2)))) mNil))))) mNil)))))))
    (sSeq (sAsg 2 (mFz (mCall 2 F__law_beside (mCons 0 (mCall 2 F__law_pair (mCons 0 (mO (oVar 0)) (mCons 0 (mP (pC (.int 2))) mNil))) (mCons 0 (mCall 2 F__law_pair (mCons 0 (mO (oVar 0)) (mCons 0 (mP (pC (.int 2))) mNil))) mNil)))))
    (sSeq (sAsg 3 (mFz (mTup 0 (mCons 0 (mCall 1 F__law_over (mCons 0 (mO (oVar 1)) mNil)) (mCons 0 (mCall 2 F__law_changed (mCons 0 (mO (oVar 2)) (mCons 0 (mCall 1 F__law_over (mCons 0 (mO (oVar 1)) mNil)) mNil))) mNil)))))
    (sSeq (sAsg 4 (mCall 1 F_pairs_turned (mCons 0 (mO (oVar 0)) mNil)))
    (sSeq (sIf (mtOr (mtNot (mtThaw (mtTr (mCall 2 F__law_same (mCons 0 (mO (oVar 4)) (mCons 0 (mO (oVar 3)) mNil)))))) (mtThaw (mtV (mBin dNe (mCall 1 F__law_bits_product (mCons 0 (mO (oIx (oVar 4) (pC (.int 0)))) mNil)) (mP (pC (.int 1))))))) (sRet (mP (pC (.bl false)))) sNx)
    (sSeq (sFor (iSeq (mLst 0 (mCons 0 (mP (pC (.int 0))) (mCons 0 (mP (pC (.int 2))) mNil)))) (tName 5) (sSeq (sAsg 6 (mFz (mThaw (mComp 1 (iSeq (mSl (mO (oIx (oVar 4) (pC (.int 1)))) (some (mP (pVar 5))) (some (mP (pBin dAdd (pVar 5) (pC (.int 2))))))) (tName 7) tYesM (mSl (mO (oVar 7)) (some (mP (pVar 5))) (some (mP (pBin dAdd (pVar 5) (pC (.int 2)))))) [7]))))
    (sIf (mtOr (mtV (mBin dNe (mCall 2 F__law_turned_pair (mCons 0 (mO (oVar 6)) (mCons 0 (mO (oVar 0)) mNil))) (mP (pC (.int 7))))) (mtThaw (mtV (mBin dNe (mSl (mO (oIx (oIx (oVar 4) (pC (.int 1))) (pVar 5))) (some (mP (pBin dSub (pC (.int 2)) (pVar 5)))) (some (mP (pBin dSub (pC (.int 4)) (pVar 5))))) (mLst 0 (mCons 0 (mP (pC (.int 0))) (mCons 0 (mP (pC (.int 0))) mNil))))))) (sRet (mP (pC (.bl false)))) sNx)))
    (sSeq (sApp 4 (plIx 4 (plIx 4 plNil (pC (.int 0))) (pC (.int 0))) (mP (pC (.int 1))))
    (sSeq (sApp 4 (plIx 4 plNil (pC (.int 0))) (mP (pC (.int 1))))
    (sSeq (sApp 4 (plIx 4 plNil (pC (.int 1))) (mP (pC (.int 1))))
    (sRet (mCall 2 F__law_same (mCons 0 (mCallKw 1 1 F_pairs_turned [0] (mCons 0 (mO (oVar 0)) mNil)) (mCons 0 (mO (oVar 3)) mNil)))))))))))))
noncomputable def F__law_pairs_right : Fp0 := run0 8 m__law_pairs_right
theorem b__law_pairs_right {P : Program} {w : World} {K : PySem.W.Frag} {mg : Str → Option Value} {base : Heap} {fa : Addr} (h__law_beside : FnAt P w K mg base 4 "_law_beside" 2 (sp0 K mg 2 F__law_beside)) (h__law_bits_product : FnAt P w K mg base 4 "_law_bits_product" 1 (sp0 K mg 1 F__law_bits_product)) (h__law_changed : FnAt P w K mg base 4 "_law_changed" 2 (sp0 K mg 2 F__law_changed)) (h__law_over : FnAt P w K mg base 4 "_law_over" 1 (sp0 K mg 1 F__law_over)) (h__law_pair : FnAt P w K mg base 4 "_law_pair" 2 (sp0 K mg 2 F__law_pair)) (h__law_same : FnAt P w K mg base 4 "_law_same" 2 (sp0 K mg 2 F__law_same)) (h__law_turned_pair : FnAt P w K mg base 4 "_law_turned_pair" 2 (sp0 K mg 2 F__law_turned_pair)) (h_pairs_turned : FnAt P w K mg base 4 "pairs_turned" 1 (sp0 K mg 1 F_pairs_turned)) (kw_pairs_turned_0 : FnKw P w K mg base 4 "pairs_turned" 1 ["scale"] [0] (sp0 K mg 1 F_pairs_turned)) : Body P w K mg base N__law_pairs_right "_law_pairs_right" s__law_pairs_right fa 4 [] m__law_pairs_right := fun cdv A outer s H hr hgd =>
  (s_cons (s_asg sc__law_pairs_right.nd rfl (.inl rfl) (by decide) (g_fz (g_lst (g_acons (g_lst (g_acons (g_p p_int) (g_acons (g_p p_int) (g_acons (g_p p_int) (g_acons (g_p p_int) g_anil))))) (g_acons (g_lst (g_acons (g_p p_int) (g_acons (g_p p_int) (g_acons (g_p p_int) (g_acons (g_p p_int) g_anil))))) (g_acons (g_lst (g_acons (g_p (p_neg p_int)) (g_acons (g_p p_int) (g_acons (g_p p_int) (g_acons (g_p p_int) g_anil))))) (g_acons (g_lst (g_acons (g_p p_int) (g_acons (g_p p_int) (g_acons (g_p p_int) (g_acons (g_p (p_neg p_int)) g_anil))))) g_anil)))))))
    (s_cons (s_asg sc__law_pairs_right.nd rfl (.inl rfl) (by decide) (g_fz (g_call h__law_beside hr hgd (by rfl) (g_acons (g_call h__law_pair hr hgd (by rfl) (g_acons (g_o (o_var (pv 0))) (g_acons (g_p p_int) g_anil))) (g_acons (g_call h__law_pair hr hgd (by rfl) (g_acons (g_o (o_var (pv 0))) (g_acons (g_p p_int) g_anil))) g_anil)))))
    (s_cons (s_asg sc__law_pairs_right.nd rfl (.inl rfl) (by decide) (g_fz (g_tup (g_acons (g_call h__law_over hr hgd (by rfl) (g_acons (g_o (o_var (pv 1))) g_anil)) (g_acons (g_call h__law_changed hr hgd (by rfl) (g_acons (g_o (o_var (pv 2))) (g_acons (g_call h__law_over hr hgd (by rfl) (g_acons (g_o (o_var (pv 1))) g_anil)) g_anil))) g_anil)))))
    (s_cons (s_asg sc__law_pairs_right.nd rfl (.inl rfl) (by decide) (g_call h_pairs_turned hr hgd (by rfl) (g_acons (g_o (o_var (pv 0))) g_anil)))
    (s_cons (s_if (PW.pt (gt_or (gt_not (gt_thaw (gt_truth (g_call h__law_same hr hgd (by rfl) (g_acons (g_o (o_var (pv 4))) (g_acons (g_o (o_var (pv 3))) g_anil)))))) (gt_or1 (gt_thaw (gt_cmp (op_neD (hu64 hr)) w_ne (g_call h__law_bits_product hr hgd (by rfl) (g_acons (g_o (o_ix (o_var (pv 4)) p_int (fun _ _ => rfl))) g_anil)) (g_p p_int) (nomark _)))))) (s_one (s_ret (g_p p_bl))) s_nil)
    (s_cons (s_for PassesOwn.never rfl (i_seq (g_lst (g_acons (g_p p_int) (g_acons (g_p p_int) g_anil)))) (tg_name sc__law_pairs_right.nd rfl (.inr rfl)) (s_cons (s_setComp0T (own := [("_law_row", 7)]) rfl sc__law_pairs_right.nd rfl rfl (by decide) (by rfl) (i_seq (g_slice (g_o (o_ix (o_var (pv 4)) p_int (fun _ _ => rfl))) (go_some (g_p (p_var (pv 5)))) (go_some (g_p (p_add (p_var (pv 5)) p_int))))) (blkOk_by (N := N__law_pairs_right) (sc := (defScope s__law_pairs_right)) (own := [("_law_row", 7)]) (by decide +kernel)) (fun _ _ _ _ _ => (tg_name sc__law_pairs_right.nd rfl (.inl rfl))) (fun _ _ _ _ _ => (g_slice (g_o (o_var (pv 7))) (go_some (g_p (p_var (pv 5)))) (go_some (g_p (p_add (p_var (pv 5)) p_int))))) (by decide))
    (s_one (s_if (PW.pt (gt_or (gt_cmp (op_neD (hu64 hr)) w_ne (g_call h__law_turned_pair hr hgd (by rfl) (g_acons (g_o (o_var (pv 6))) (g_acons (g_o (o_var (pv 0))) g_anil))) (g_p p_int) (nomark _)) (gt_or1 (gt_thaw (gt_cmp (op_neD (hu64 hr)) w_ne (g_slice (g_o (o_ix (o_ix (o_var (pv 4)) p_int (fun _ _ => rfl)) (p_var (pv 5)) (fun _ _ => rfl))) (go_some (g_p (p_sub p_int (p_var (pv 5))))) (go_some (g_p (p_sub p_int (p_var (pv 5)))))) (g_lst (g_acons (g_p p_int) (g_acons (g_p p_int) g_anil))) (nomark _)))))) (s_one (s_ret (g_p p_bl))) s_nil))) (by decide))
    (s_cons (s_app (pl_ix (pl_ix (pl_var (pv 4)) p_int (fun _ _ => rfl)) p_int (fun _ _ => rfl)) (g_p p_int))
    (s_cons (s_app (pl_ix (pl_var (pv 4)) p_int (fun _ _ => rfl)) (g_p p_int))
    (s_cons (s_app (pl_ix (pl_var (pv 4)) p_int (fun _ _ => rfl)) (g_p p_int))
    (s_one (s_ret (g_call h__law_same hr hgd (by rfl) (g_acons (g_callKw kw_pairs_turned_0 hr hgd (by rfl) (gk_cons (g_o (o_var (pv 0))) gk_nil) (len_cons len_nil)) (g_acons (g_o (o_var (pv 3))) g_anil))))))))))))))
/-! _law_right -/
abbrev s__law_right : Stmt := topS 41
abbrev N__law_right : List Str := ["_law_generator_here", "_law_low", "_law_one", "_law_kind", "_law_high"]
theorem sc__law_right : FnScope N__law_right ["_law_generator_here"] (defScope s__law_right) := ⟨rfl, rfl, rfl, by decide +kernel, rfl, by decide +kernel, by decide +kernel⟩
noncomputable def m__law_right : Mn.Env → Option Out :=
  (sSeq (sIf (mtOr (mtNot (mtTr (mCallI 1 F__law_squares_right 0 mNil))) (mtNot (mtTr (mCall 1 F__law_pairs_right (mCons 0 (mCallI 2 F__law_random 0 (mCons 0 (mP (pC (.int 65))) mNil)) mNil))))) (sRet (mP (pC (.bl false)))) sNx)
    (sSeq (sPar2 1 2 (mFz (mCallI 2 F__law_random 0 (mCons 0 (mP (pC (.int 65))) mNil))) (mFz (mCallI 2 F__law_odd 0 (mCons 0 (mIx (mLst 0 (mCons 0 (mP (pC (.int 10))) (mCons 0 (mP (pBin dPow (pC (.int 10)) (pC (.int 28)))) mNil))) (mCallI 2 F__law_random 0 (mCons 0 (mP (pC (.int 2))) mNil))) mNil))))
    (sSeq (sFor (iSeq (mLst 0 (mCons 0 (mP (pC (.int 0))) (mCons 0 (mP (pC (.int 2))) mNil)))) (tName 3) (sFor (iSeq (mLst 0 (mCons 0 (mO (oVar 1)) (mCons 0 (mP (pCall dMinL (pCons (pBin dAdd (pVar 1) (pC (.int 1))) (pCons (pC (.int 64)) pNil)))) (mCons 0 (mBinF dAddG (mO (oVar 1)) (mCallI 2 F__law_random 0 (mCons 0 (mP (pBin dSub (pC (.int 65)) (pVar 1))) mNil))) (mCons 0 (mP (pC (.int 64))) mNil)))))) (tName 4) (sSeq (sIf (mtNot (mtThaw (mtTr (mCall 5 F__law_first_right (mCons 0 (mO (oVar 0)) (mCons 0 (mO (oVar 1)) (mCons 0 (mO (oVar 4)) (mCons 0 (mO (oVar 2)) (mCons 0 (mO (oVar 3)) mNil))))))))) (sRet (mP (pC (.bl false)))) sNx)
    (sIf (mtAnd (mtP (pB (pBin dGt (pVar 4) (pVar 1)))) (mtNot (mtThaw (mtTr (mCall 5 F__law_second_right (mCons 0 (mO (oVar 0)) (mCons 0 (mO (oVar 1)) (mCons 0 (mO (oVar 4)) (mCons 0 (mO (oVar 2)) (mCons 0 (mO (oVar 3)) mNil)))))))))) (sRet (mP (pC (.bl false)))) sNx))))
    (sRet (mP (pC (.bl true)))))))
noncomputable def F__law_right : Fp1 := run1 5 m__law_right
theorem b__law_right {P : Program} {w : World} {K : PySem.W.Frag} {mg : Str → Option Value} {base : Heap} {fa : Addr} (h__law_first_right : FnAt P w K mg base 5 "_law_first_right" 5 (sp0 K mg 5 F__law_first_right)) (h__law_odd : FnAt P w K mg base 5 "_law_odd" 2 (sp1 K mg 2 F__law_odd)) (h__law_pairs_right : FnAt P w K mg base 5 "_law_pairs_right" 1 (sp0 K mg 1 F__law_pairs_right)) (h__law_random : FnAt P w K mg base 5 "_law_random" 2 (sp1 K mg 2 F__law_random)) (h__law_second_right : FnAt P w K mg base 5 "_law_second_right" 5 (sp0 K mg 5 F__law_second_right)) (h__law_squares_right : FnAt P w K mg base 5 "_law_squares_right" 1 (sp1 K mg 1 F__law_squares_right)) (z_min : mg "min" = none) : Body P w K mg base N__law_right "_law_right" s__law_right fa 5 [0] m__law_right := fun cdv A outer s H hr hgd =>
  (s_cons (s_if (PW.pt (gt_or (gt_not (gt_truth (g_callI h__law_squares_right hr hgd (by rfl) (pv 0) g_anil))) (gt_or1 (gt_not (gt_truth (g_call h__law_pairs_right hr hgd (by rfl) (g_acons (g_callI h__law_random hr hgd (by rfl) (pv 0) (g_acons (g_p p_int) g_anil)) g_anil))))))) (s_one (s_ret (g_p p_bl))) s_nil)
    (s_cons (s_par2 rfl sc__law_right.nd rfl rfl (by decide) rfl rfl (by decide) (by decide) (g_fz (g_callI h__law_random hr hgd (by rfl) (pv 0) (g_acons (g_p p_int) g_anil))) (g_fz (g_callI h__law_odd hr hgd (by rfl) (pv 0) (g_acons (g_ix (g_lst (g_acons (g_p p_int) (g_acons (g_p (p_pow p_int p_int)) g_anil))) (g_callI h__law_random hr hgd (by rfl) (pv 0) (g_acons (g_p p_int) g_anil)) (fun _ _ => rfl)) g_anil))) (by rfl))
    (s_cons (s_for PassesOwn.never rfl (i_seq (g_lst (g_acons (g_p p_int) (g_acons (g_p p_int) g_anil)))) (tg_name sc__law_right.nd rfl (.inl rfl)) (s_one (s_for PassesOwn.never rfl (i_seq (g_lst (g_acons (g_o (o_var (pv 1))) (g_acons (g_p (p_callB (call_minG rfl) w_minL (by rfl) z_min PyProof.Rows.boot_min (p_acons (p_add (p_var (pv 1)) p_int) (p_acons p_int p_anil)))) (g_acons (g_add (g_o (o_var (pv 1))) (g_callI h__law_random hr hgd (by rfl) (pv 0) (g_acons (g_p (p_sub p_int (p_var (pv 1)))) g_anil))) (g_acons (g_p p_int) g_anil)))))) (tg_name sc__law_right.nd rfl (.inl rfl)) (s_cons (s_if (gt_not (gt_thaw (gt_truth (g_call h__law_first_right hr hgd (by rfl) (g_acons (g_o (o_var (pv 0))) (g_acons (g_o (o_var (pv 1))) (g_acons (g_o (o_var (pv 4))) (g_acons (g_o (o_var (pv 2))) (g_acons (g_o (o_var (pv 3))) g_anil))))))))) (s_one (s_ret (g_p p_bl))) s_nil)
    (s_one (s_if (PW.pt (gt_and (gt_p (t_cmp op_gt w_cmp2 (p_var (pv 4)) (p_var (pv 1)) (nomark _))) (gt_and1 (gt_not (gt_thaw (gt_truth (g_call h__law_second_right hr hgd (by rfl) (g_acons (g_o (o_var (pv 0))) (g_acons (g_o (o_var (pv 1))) (g_acons (g_o (o_var (pv 4))) (g_acons (g_o (o_var (pv 2))) (g_acons (g_o (o_var (pv 3))) g_anil)))))))))))) (s_one (s_ret (g_p p_bl))) s_nil))) (by decide))) (by decide))
    (s_one (s_ret (g_p p_bl))))))
/-! law -/
abbrev s_law : Stmt := topS 42
abbrev N_law : List Str := ["_law_script", "_law_index", "_law_due"]
theorem sc_law : FnScope N_law ["_law_script"] (defScope s_law) := ⟨rfl, rfl, rfl, by decide +kernel, rfl, by decide +kernel, by decide +kernel⟩
noncomputable def m_law : Mn.Env → Option Out :=
  (sSeq (sFor (iRange (mCons 0 (mP (pC (.int 3))) mNil)) (tName 1) (sIf (mtNot (mtTr (mCallT 1 F__law_right (mCall 2 F__law_generator (mCons 0 (mO (oVar 0)) (mCons 0 (mO (oVar 1)) mNil))) mNil))) (sRet (mP (pC (.bl false)))) sNx))
    (sSeq (sIf (mtNot (mtTr (mCall 2 F__law_same (mCons 0 (mCall 5 F_squares_turned (mCons 0 (mP (pC (.int 0))) (mCons 0 (mP (pC (.int 1))) (mCons 0 (mP (pC (.int 0))) (mCons 0 (mP (pC (.int 3))) (mCons 0 (mP (pC (.int 2))) mNil)))))) (mCons 0 (mTup 0 (mCons 0 (mLst 0 (mCons 0 (mLst 0 (mCons 0 (mP (pC (.int 1))) (mCons 0 (mP (pUn dNeg (pC (.int 6)))) mNil))) (mCons 0 (mLst 0 (mCons 0 (mP (pC (.int 2))) (mCons 0 (mP (pC (.int 1))) mNil))) mNil))) (mCons 0 (mP (pC (.int 13))) (mCons 0 (mP (pC (.int 39))) mNil)))) mNil))))) (sRet (mP (pC (.bl false)))) sNx)
    (sSeq (sIf (mtV (mBin dNe (mCall 5 F_squares_turned (mCons 0 (mP (pC (.int 64))) (mCons 0 (mP (pUn dNeg (pC (.int 1)))) (mCons 0 (mP (pC (.int 64))) (mCons 0 (mP (pC (.int 1))) (mCons 0 (mP (pC (.int 0))) mNil)))))) (mTup 0 (mCons 0 (mLst 0 (mCons 0 (mLst 0 (mCons 0 (mP (pC (.int 1))) (mCons 0 (mP (pC (.int 0))) mNil))) (mCons 0 (mLst 0 (mCons 0 (mP (pC (.int 0))) (mCons 0 (mP (pUn dNeg (pC (.int 1)))) mNil))) mNil))) (mCons 0 (mP (pUn dNeg (pC (.int 1)))) (mCons 0 (mP (pC (.int 1))) mNil)))))) (sRet (mP (pC (.bl false)))) sNx)
    (sSeq (sAsg 2 (mFz (mTup 0 (mCons 0 (mLst 0 (mCons 0 (mLst 0 (mCons 0 (mP (pC (.int 1))) (mCons 0 (mP (pUn dNeg (pC (.int 2)))) (mCons 0 (mP (pUn dNeg (pC (.int 2)))) mNil)))) (mCons 0 (mLst 0 (mCons 0 (mP (pC (.int 1))) (mCons 0 (mP (pC (.int 1))) (mCons 0 (mP (pC (.int 0))) mNil)))) (mCons 0 (mLst 0 (mCons 0 (mP (pC (.int 1))) (mCons 0 (mP (pC (.int 0))) (mCons 0 (mP (pC (.int 1))) mNil)))) mNil)))) (mCons 0 (mLst 0 (mCons 0 (mLst 0 (mCons 0 (mP (pC (.int 5))) (mCons 0 (mP (pC (.int 0))) (mCons 0 (mP (pC (.int 0))) mNil)))) (mCons 0 (mLst 0 (mCons 0 (mP (pC (.int 0))) (mCons 0 (mP (pC (.int 4))) (mCons 0 (mP (pC (.int 6))) mNil)))) (mCons 0 (mLst 0 (mCons 0 (mP (pC (.int 0))) (mCons 0 (mP (pC (.int 6))) (mCons 0 (mP (pC (.int 4))) mNil)))) mNil)))) mNil)))))
    (sSeq (sIf (mtV (mBin dNe (mCall 4 F_square_beside_pair (mCons 0 (mP (pC (.int 0))) (mCons 0 (mP (pC (.int 1))) (mCons 0 (mP (pC (.int 1))) (mCons 0 (mP (pC (.int 0))) mNil))))) (mO (oVar 2)))) (sRet (mP (pC (.bl false)))) sNx)
    (sRet (mBin dEq (mCall 4 F_pair_beside_square (mCons 0 (mP (pC (.int 0))) (mCons 0 (mP (pC (.int 0))) (mCons 0 (mP (pC (.int 1))) (mCons 0 (mP (pC (.int 1))) mNil))))) (mTup 0 (mCons 0 (mLst 0 (mCons 0 (mLst 0 (mCons 0 (mP (pC (.int 1))) (mCons 0 (mP (pC (.int 0))) (mCons 0 (mP (pUn dNeg (pC (.int 2)))) mNil)))) (mCons 0 (mLst 0 (mCons 0 (mP (pC (.int 0))) (mCons 0 (mP (pC (.int 1))) (mCons 0 (mP (pUn dNeg (pC (.int 2)))) mNil)))) (mCons 0 (mLst 0 (mCons 0 (mP (pC (.int 1))) (mCons 0 (mP (pC (.int 1))) (mCons 0 (mP (pC (.int 1))) mNil)))) mNil)))) (mCons 0 (mLst 0 (mCons 0 (mLst 0 (mCons 0 (mP (pC (.int 2))) (mCons 0 (mP (pC (.int 3))) (mCons 0 (mP (pC (.int 0))) mNil)))) (mCons 0 (mLst 0 (mCons 0 (mP (pC (.int 3))) (mCons 0 (mP (pC (.int 2))) (mCons 0 (mP (pC (.int 0))) mNil)))) (mCons 0 (mLst 0 (mCons 0 (mP (pC (.int 0))) (mCons 0 (mP (pC (.int 0))) (mCons 0 (mP (pC (.int 10))) mNil)))) mNil)))) mNil))))))))))
noncomputable def F_law : Fp0 := run0 3 m_law
theorem b_law {P : Program} {w : World} {K : PySem.W.Frag} {mg : Str → Option Value} {base : Heap} {fa : Addr} (h__law_generator : FnAt P w K mg base 6 "_law_generator" 2 (sp0 K mg 2 F__law_generator)) (h__law_right : FnAt P w K mg base 6 "_law_right" 1 (sp1 K mg 1 F__law_right)) (h__law_same : FnAt P w K mg base 6 "_law_same" 2 (sp0 K mg 2 F__law_same)) (h_pair_beside_square : FnAt P w K mg base 6 "pair_beside_square" 4 (sp0 K mg 4 F_pair_beside_square)) (h_square_beside_pair : FnAt P w K mg base 6 "square_beside_pair" 4 (sp0 K mg 4 F_square_beside_pair)) (h_squares_turned : FnAt P w K mg base 6 "squares_turned" 5 (sp0 K mg 5 F_squares_turned)) (z_range : mg "range" = none) : Body P w K mg base N_law "law" s_law fa 6 [] m_law := fun cdv A outer s H hr hgd =>
  (s_cons (s_for PassesOwn.never rfl (i_range1 (by rfl) z_range (g_acons (g_p p_int) g_anil) (h1 := (len_cons len_nil))) (tg_name sc_law.nd rfl (.inl rfl)) (s_one (s_if (gt_not (gt_truth (g_callT h__law_right hr hgd (by rfl) (g_call h__law_generator hr hgd (by rfl) (g_acons (g_o (o_var (pv 0))) (g_acons (g_o (o_var (pv 1))) g_anil))) g_anil))) (s_one (s_ret (g_p p_bl))) s_nil)) (by decide))
    (s_cons (s_if (gt_not (gt_truth (g_call h__law_same hr hgd (by rfl) (g_acons (g_call h_squares_turned hr hgd (by rfl) (g_acons (g_p p_int) (g_acons (g_p p_int) (g_acons (g_p p_int) (g_acons (g_p p_int) (g_acons (g_p p_int) g_anil)))))) (g_acons (g_tup (g_acons (g_lst (g_acons (g_lst (g_acons (g_p p_int) (g_acons (g_p (p_neg p_int)) g_anil))) (g_acons (g_lst (g_acons (g_p p_int) (g_acons (g_p p_int) g_anil))) g_anil))) (g_acons (g_p p_int) (g_acons (g_p p_int) g_anil)))) g_anil))))) (s_one (s_ret (g_p p_bl))) s_nil)
    (s_cons (s_if (gt_cmp (op_neD (hu64 hr)) w_ne (g_call h_squares_turned hr hgd (by rfl) (g_acons (g_p p_int) (g_acons (g_p (p_neg p_int)) (g_acons (g_p p_int) (g_acons (g_p p_int) (g_acons (g_p p_int) g_anil)))))) (g_tup (g_acons (g_lst (g_acons (g_lst (g_acons (g_p p_int) (g_acons (g_p p_int) g_anil))) (g_acons (g_lst (g_acons (g_p p_int) (g_acons (g_p (p_neg p_int)) g_anil))) g_anil))) (g_acons (g_p (p_neg p_int)) (g_acons (g_p p_int) g_anil)))) (nomark _)) (s_one (s_ret (g_p p_bl))) s_nil)
    (s_cons (s_asg sc_law.nd rfl (.inl rfl) (by decide) (g_fz (g_tup (g_acons (g_lst (g_acons (g_lst (g_acons (g_p p_int) (g_acons (g_p (p_neg p_int)) (g_acons (g_p (p_neg p_int)) g_anil)))) (g_acons (g_lst (g_acons (g_p p_int) (g_acons (g_p p_int) (g_acons (g_p p_int) g_anil)))) (g_acons (g_lst (g_acons (g_p p_int) (g_acons (g_p p_int) (g_acons (g_p p_int) g_anil)))) g_anil)))) (g_acons (g_lst (g_acons (g_lst (g_acons (g_p p_int) (g_acons (g_p p_int) (g_acons (g_p p_int) g_anil)))) (g_acons (g_lst (g_acons (g_p p_int) (g_acons (g_p p_int) (g_acons (g_p p_int) g_anil)))) (g_acons (g_lst (g_acons (g_p p_int) (g_acons (g_p p_int) (g_acons (g_p p_int) g_anil)))) g_anil)))) g_anil)))))
    (s_cons (s_if (gt_cmp (op_neD (hu64 hr)) w_ne (g_call h_square_beside_pair hr hgd (by rfl) (g_acons (g_p p_int) (g_acons (g_p p_int) (g_acons (g_p p_int) (g_acons (g_p p_int) g_anil))))) (g_o (o_var (pv 2))) (nomark _)) (s_one (s_ret (g_p p_bl))) s_nil)
    (s_one (s_ret (g_cmp (op_eqD (hu64 hr)) w_eq (g_call h_pair_beside_square hr hgd (by rfl) (g_acons (g_p p_int) (g_acons (g_p p_int) (g_acons (g_p p_int) (g_acons (g_p p_int) g_anil))))) (g_tup (g_acons (g_lst (g_acons (g_lst (g_acons (g_p p_int) (g_acons (g_p p_int) (g_acons (g_p (p_neg p_int)) g_anil)))) (g_acons (g_lst (g_acons (g_p p_int) (g_acons (g_p p_int) (g_acons (g_p (p_neg p_int)) g_anil)))) (g_acons (g_lst (g_acons (g_p p_int) (g_acons (g_p p_int) (g_acons (g_p p_int) g_anil)))) g_anil)))) (g_acons (g_lst (g_acons (g_lst (g_acons (g_p p_int) (g_acons (g_p p_int) (g_acons (g_p p_int) g_anil)))) (g_acons (g_lst (g_acons (g_p p_int) (g_acons (g_p p_int) (g_acons (g_p p_int) g_anil)))) (g_acons (g_lst (g_acons (g_p p_int) (g_acons (g_p p_int) (g_acons (g_p p_int) g_anil)))) g_anil)))) g_anil))) (nomark _)))))))))
/-! ### the law's own numbers -/
abbrev I (x : Int) : D := .int x
abbrev IL (xs : List Int) : D := .lst (xs.map D.int)
abbrev IM (xs : List (List Int)) : D := .lst (xs.map IL)
theorem okMul_small {i j : Int} (h1 : i.natAbs < 2 ^ 100) (h2 : j.natAbs < 2 ^ 100) : okMul i j = true := okMul_of h1 h2 (by decide) (by decide) (by decide)
theorem hash_ok (s i : Int) (h1 : 0 ≤ s) (h2 : s < 2147483647) (h3 : 0 ≤ i) (h4 : i ≤ 10 ^ 18) : ∃ r, F__law_hash [I s, I i] = some (0, .int r) ∧ 0 ≤ r ∧ r < 2147483647 := by
  have a1 : okMul s 1140671 = true := okMul_small (by omega) (by omega)
  have a2 : okMul 27644437 i = true := okMul_small (by omega) (by omega)
  have a3 : okMul (27644437 * i) i = true := okMul_small (by omega) (by omega)
  have a4 : okMul 131 i = true := okMul_small (by omega) (by omega)
  have a5 : okMul 62089 i = true := okMul_small (by omega) (by omega)
  have b1 := Int.emod_nonneg (s * 1140671 + 27644437 * i * i + 131 * i + 19) (b := 2147483629) (by omega)
  have b2 := Int.emod_lt_of_pos (s * 1140671 + 27644437 * i * i + 131 * i + 19) (b := 2147483629) (by omega)
  generalize hm : (s * 1140671 + 27644437 * i * i + 131 * i + 19) % 2147483629 = m at b1 b2
  have a6 : okMul m m = true := okMul_small (by omega) (by omega)
  have b3 := Int.emod_nonneg (m * m + 62089 * i + 32416187) (b := 2147483587) (by omega)
  have b4 := Int.emod_lt_of_pos (m * m + 62089 * i + 32416187) (b := 2147483587) (by omega)
  generalize hk : (m * m + 62089 * i + 32416187) % 2147483587 = k at b3 b4
  have a7 : okMul k 48271 = true := okMul_small (by omega) (by omega)
  refine ⟨k * 48271 % 2147483647, ?_, Int.emod_nonneg _ (by omega), Int.emod_lt_of_pos _ (by omega)⟩
  simp [F__law_hash, m__law_hash, a1, a2, a3, a4, a5, hm, a6, hk, a7]
/-- a generator's cell: its counter is at most n -/
def Gn (n : Nat) (c : Cell) : Prop := ∃ x y z : Int, c = (1, .lst [I x, I y, I z]) ∧ 0 ≤ x ∧ 0 ≤ y ∧ y < 2147483647 ∧ 0 ≤ z ∧ z ≤ n
theorem Gn.up {n m : Nat} {c : Cell} (h : Gn n c) (hm : n ≤ m) : Gn m c := by
  obtain ⟨x, y, z, e, h1, h3, h4, h5, h6⟩ := h
  exact ⟨x, y, z, e, h1, h3, h4, h5, by omega⟩
theorem random_ok {n : Nat} {c : Cell} (h : Gn n c) (hn : n ≤ 10 ^ 15) (m : Int) (h1 : 0 < m) (h2 : m.natAbs.log2 < 3000) : ∃ r c', F__law_random c [I m] = some ((0, I r), c') ∧ 0 ≤ r ∧ r < m ∧ Gn (n + 101) c' := by
  obtain ⟨x, y, z, rfl, x1, y1, y2, z1, z2⟩ := h
  by_cases hx : 0 < x
  · refine ⟨x % m, (1, .lst [I (x / m), I y, I z]), ?_, Int.emod_nonneg _ (by omega), Int.emod_lt_of_pos _ h1, x / m, y, z, rfl, Int.ediv_nonneg x1 (by omega), y1, y2, z1, by omega⟩
    have hd : okDiv m = true := by
      unfold okDiv
      rw [Bool.and_eq_true, decide_eq_true_eq, decide_eq_true_eq]
      exact ⟨by omega, by omega⟩
    have hf : fd x m = x / m := fd_pos h1
    simp [F__law_random, m__law_random, hx, h1, atI, ixN, plAt, D.at, D.put, hd, hf]
  · obtain ⟨tn, htn, htn2⟩ : ∃ tn : Nat, (1 : Int) + fd ((Builtin.Int.intBits m : Nat) : Int) 30 = tn ∧ tn ≤ 101 := by
      have : Builtin.Int.intBits m ≤ 3000 := by
        unfold Builtin.Int.intBits
        split <;> omega
      refine ⟨1 + Builtin.Int.intBits m / 30, ?_, by omega⟩
      rw [fd_pos (by omega)]
      omega
    have loop := mLoop_inv (tg := tName 3) (body := sSeq (sSet 0 plNil (pC (.int 2)) (mP (pBin dAdd (pBin dIx (pVar 0) (pC (.int 2))) (pC (.int 1)))))
        (sAsg 2 (mFz (mBinF dAddG (mP (pBin dMul (pVar 2) (pC (.int 2147483587)))) (mCall 2 F__law_hash (mCons 0 (mO (oIx (oVar 0) (pC (.int 1)))) (mCons 0 (mO (oIx (oVar 0) (pC (.int 2)))) mNil)))))))
      (fun i ρ => ∃ (dr : Int) (o : Option Cell), ρ = [some (1, .lst [I x, I y, I (z + i)]), some (0, I m), some (0, I dr), o] ∧ 0 ≤ dr ∧ dr.natAbs < 2 ^ (64 * i + 1)) (rng 0 1 tn) 0
      [some (1, .lst [I x, I y, I z]), some (0, I m), some (0, I 0), none] ⟨0, none, by simp, by omega, by decide⟩ (by
        rintro i d ρ hd ⟨dr, o, rfl, d1, d2⟩
        rw [rng0] at hd
        have hi : i < tn := by
          by_cases q : i < tn
          · exact q
          · simp [q] at hd
        simp [hi] at hd
        subst hd
        rw [Nat.zero_add] at d2 ⊢
        obtain ⟨r, er, r1, r2⟩ := hash_ok y (z + i + 1) y1 (by omega) (by omega) (by omega)
        have am : okMul dr 2147483587 = true := okMul_of d2 (show (2147483587 : Int).natAbs < 2 ^ 40 by decide) (by omega) (by decide) (by omega)
        refine ⟨_, _, rfl, ?_, dr * 2147483587 + r, some (0, I i), rfl, by omega, ?_⟩
        · simp [atI, ixN, plAt, D.at, D.put, am, er]
          omega
        · have e : 2 ^ (64 * (i + 1) + 1) = 2 ^ (64 * i + 1) * 2 ^ 64 := by
            rw [← Nat.pow_add]
            congr 1
          rw [e]
          generalize 2 ^ (64 * i + 1) = P at d2
          omega)
    obtain ⟨ρ', el, dr, o, rfl, d1, d2⟩ := loop
    refine ⟨dr % m, (1, .lst [I x, I y, I (z + ((0 + (rng 0 1 tn).length : Nat) : Int))]), ?_, Int.emod_nonneg _ (by omega), Int.emod_lt_of_pos _ h1, x, y, _, rfl, x1, y1, y2, by omega, by simp [rng]; omega⟩
    have hr : iRange (mCons 0 (mP (pBin dAdd (pC (.int 1)) (pBin dDiv (pUn dBits (pVar 1)) (pC (.int 30))))) mNil) [some (1, .lst [I x, I y, I z]), some (0, I m), some (0, I 0), none] = some (rng 0 1 tn, [some (1, .lst [I x, I y, I z]), some (0, I m), some (0, I 0), none]) := by
      rw [e_rg1 (j := tn) (ρ1 := [some (1, .lst [I x, I y, I z]), some (0, I m), some (0, I 0), none]) (by
        have hk : okDiv 30 = true := by decide
        simp [hk, htn])]
      rw [okRng_nat (by omega)]
      simp
    refine run1_rt (ρ := [some (1, .lst [I x, I y, I z]), some (0, I m), none, none]) (ρ' := [some (1, .lst [I x, I y, I (z + ((0 + (rng 0 1 tn).length : Nat) : Int))]), some (0, I m), some (0, I dr), o]) rfl ?_ rfl
    unfold m__law_random
    rw [seq_nx (ρ1 := [some (1, .lst [I x, I y, I z]), some (0, I m), none, none]) (by simp [hx, atI, ixN])]
    rw [seq_nx (ρ1 := [some (1, .lst [I x, I y, I z]), some (0, I m), some (0, I 0), none]) (by simp)]
    rw [seq_nx (for_nx hr el)]
    simp [h1]
theorem cell_ok (ns : List Int) (i : Nat) : ∃ v : Int, F__law_cell [IL ns, I i] = some (0, I v) := by
  by_cases h : i < ns.length
  · refine ⟨ns[i], ?_⟩
    refine run0_rt (ρ := [some (0, IL ns), some (0, I i)]) (ρ' := [some (0, IL ns), some (0, I i)]) rfl ?_
    unfold m__law_cell
    rw [seq_rt (c := (0, I ns[i])) (ρ1 := [some (0, IL ns), some (0, I i)]) (by simp [h, atI_nat'])]
  · refine ⟨(ns.take 1).sum % 1000003, ?_⟩
    refine run0_rt (ρ := [some (0, IL ns), some (0, I i)]) (ρ' := [some (0, IL ns), some (0, I i)]) rfl ?_
    unfold m__law_cell
    rw [seq_nx (ρ1 := [some (0, IL ns), some (0, I i)]) (by simp [h])]
    have hs : dSum [.lst (cutD (ns.map D.int) none (some 1))] = some (.int (ns.take 1).sum) := by
      have e : cutD (ns.map D.int) none (some 1) = (ns.take 1).map D.int := by
        unfold cutD
        cases ns with
        | nil => rfl
        | cons a r => simp [HT.sIx]
      rw [e, e_sum]
    simp [hs]
theorem generator_ok (ns : List Int) (i : Nat) (hi : i ≤ 1000) : ∃ c, F__law_generator [IL ns, I i] = some c ∧ Gn (1000 * i) c := by
  obtain ⟨v, ev⟩ := cell_ok ns i
  have p1 : okPow 10 18 = true := by decide +kernel
  have p2 : okPow 10 60 = true := by decide +kernel
  have p3 : okPow (10 ^ 60) 10 = true := by decide +kernel
  have am : okMul 1000 i = true := okMul_small (by decide) (by omega)
  generalize hx : (if 0 > v - 10 ^ 18 then (0 : Int) else v - 10 ^ 18) = x
  have hp : (0 : Int) < (10 ^ 60) ^ 10 := Int.pow_pos (by decide)
  refine ⟨(1, .lst [I (x % (10 ^ 60) ^ 10), I (v % 2147483647), I (1000 * i)]), ?_, _, _, _, rfl, Int.emod_nonneg _ (by omega), Int.emod_nonneg _ (by omega), Int.emod_lt_of_pos _ (by omega), by omega, by omega⟩
  refine run0_rt (ρ := [some (0, IL ns), some (0, I i), none]) (ρ' := [some (0, IL ns), some (0, I i), some (0, I v)]) rfl ?_
  unfold m__law_generator
  rw [seq_nx (ρ1 := [some (0, IL ns), some (0, I i), some (0, I v)]) (by simp [ev])]
  have e1 : pBin dPow (pBin dPow (pC (.int 10)) (pC (.int 60))) (pC (.int 10)) [some (0, IL ns), some (0, I i), some (0, I v)] = some (.int ((10 ^ 60) ^ 10)) := by
    show (dPow (.int 10) (.int 60)).bind (fun x => dPow x (.int 10)) = _
    rw [okPow_of' p2, show (60 : Int).toNat = 60 from rfl, Option.bind_some, okPow_of' p3, show (10 : Int).toNat = 10 from rfl]
  have e2 : pBin dPow (pC (.int 10)) (pC (.int 18)) [some (0, IL ns), some (0, I i), some (0, I v)] = some (.int (10 ^ 18)) := by
    show dPow (.int 10) (.int 18) = _
    rw [okPow_of' p1, show (18 : Int).toNat = 18 from rfl]
  generalize pBin dPow (pBin dPow (pC (.int 10)) (pC (.int 60))) (pC (.int 10)) = f1 at e1
  generalize pBin dPow (pC (.int 10)) (pC (.int 18)) = f2 at e2
  generalize ((10 : Int) ^ 60) ^ 10 = B at e1 hp
  generalize (10 : Int) ^ 18 = C at e2 hx
  simp only [e_sRet, e_mLst, e_mCons, e_mP, e_pBin, e1, e2, e_pCall, e_pCons, e_pNil, e_pVar, e_pC, List.getElem?_cons_succ, List.getElem?_cons_zero, Option.bind_some, e_int2, if_true, e_max2, e_dint1, hx, hp, decide_true, e_sc1, am]
  simp [hp, am, hx]
/-! ### the program's kinds -/
theorem is_whole_I (x : Int) : F_is_whole [I x] = some (0, .bl true) := rfl
theorem is_between_I (x a b : Int) : F_is_between [I x, I a, I b] = some (0, .bl (decide (a ≤ x) && decide (x ≤ b))) := by
  by_cases h : a ≤ x <;> simp [F_is_between, m_is_between, is_whole_I, h]
theorem power_I (k : Int) (h : 0 ≤ k) (h2 : k ≤ 100000) : F_power_of_two [I k] = some (0, .int (2 ^ k.toNat)) := by
  have h3 : okShl 1 k = true := by
    unfold okShl
    rw [Bool.and_eq_true, decide_eq_true_eq, decide_eq_true_eq]
    have : (1 : Int).natAbs.log2 = 0 := by decide
    omega
  simp [F_power_of_two, m_power_of_two, h3]
/-! ### tables and values -/

/-! ### matrices by their items (k26) -/
theorem turned_over_mat (n : Nat) (f : Nat → Nat → Int) (h1 : 1 ≤ n) (h2 : n ≤ 8) : F_turned_over [IM (mat n f)] = some (2, IM (mat n fun i j => f j i)) := by
  have e := over_any 1 n f (by omega) h1 (by omega)
  refine run0_rt (ρ := [some (0, IM (mat n f)), none, none]) (ρ' := [some (0, IM (mat n f)), none, none]) rfl ?_
  unfold m_turned_over
  rw [e_sRet, e]
theorem law_over_mat (n : Nat) (f : Nat → Nat → Int) (h1 : 1 ≤ n) (h2 : n ≤ 8) : F__law_over [IM (mat n f)] = some (1, IM (mat n fun i j => f j i)) := by
  have e := over_any 0 n f (by omega) h1 (by omega)
  refine run0_rt (ρ := [some (0, IM (mat n f)), none, none]) (ρ' := [some (0, IM (mat n f)), none, none]) rfl ?_
  unfold m__law_over
  rw [e_sRet, e]
theorem product_of_mat (n a b : Nat) (f g : Nat → Nat → Int) (h1 : 1 ≤ n) (h2 : n ≤ 8) (hf : smallM n a f) (hg : smallM n b g) (hab : a + b ≤ 900000) : F_product_of [IM (mat n f), IM (mat n g)] = some (2, IM (mat n (pr n f g))) := by
  have e := prod_zs n a b f g (some (0, IM (mat n g))) none h2 hf hg hab
  refine run0_rt (ρ := [some (0, IM (mat n f)), some (0, IM (mat n g)), none, none, none, none, none]) (ρ' := [some (0, IM (mat n f)), some (0, IM (mat n g)), some (0, IM (mat n fun i j => g j i)), none, none, none, none]) rfl ?_
  unfold m_product_of
  rw [seq_nx (ρ1 := [some (0, IM (mat n f)), some (0, IM (mat n g)), some (0, IM (mat n fun i j => g j i)), none, none, none, none]) (by simp [turned_over_mat n g h1 h2])]
  rw [e_sRet, e]
theorem changed_by_mat (n a b : Nat) (f c : Nat → Nat → Int) (h1 : 1 ≤ n) (h2 : n ≤ 8) (hf : smallM n a f) (hc : smallM n b c) (hab : a + b + b ≤ 800000) : F_changed_by [IM (mat n f), IM (mat n c)] = some (2, IM (mat n (pr n (pr n (fun i j => c j i) f) c))) := by
  have e1 := product_of_mat n b a (fun i j => c j i) f h1 h2 hc.tr hf (by omega)
  have e2 := product_of_mat n (b + a + 4) b (pr n (fun i j => c j i) f) c h1 h2 (hc.tr.pr hf h2) hc (by omega)
  simp [F_changed_by, m_changed_by, turned_over_mat n c h1 h2, e1, e2]
def bs (n : Nat) (f g : Nat → Nat → Int) (i j : Nat) : Int := if i < n then (if j < n then f i j else 0) else (if j < n then 0 else g (i - n) (j - n))
theorem bs_rows (n m : Nat) (f g : Nat → Nat → Int) : ((mat n f).map fun r => r ++ List.replicate m 0) ++ ((mat m g).map fun r => List.replicate n 0 ++ r) = mat (n + m) (bs n f g) := by
  refine List.ext_getElem? fun i => ?_
  by_cases h : i < n + m
  · rw [mat_get h]
    by_cases h1 : i < n
    · rw [List.getElem?_append_left (by simpa using h1), List.getElem?_map, mat_get h1]
      simp only [Option.map_some, Option.some.injEq]
      refine List.ext_getElem? fun j => ?_
      by_cases h2 : j < n
      · rw [List.getElem?_append_left (by simpa using h2)]
        simp [h2, bs, h1, show j < n + m by omega]
      · rw [List.getElem?_append_right (by simpa using h2)]
        by_cases h3 : j < n + m
        · simp [h2, h3, bs, h1, show j - n < m by omega]
        · rw [List.getElem?_eq_none (by simp; omega), List.getElem?_eq_none (by simp; omega)]
    · rw [List.getElem?_append_right (by simpa using h1), List.getElem?_map, List.length_map, mat_length, mat_get (show i - n < m by omega)]
      simp only [Option.map_some, Option.some.injEq]
      refine List.ext_getElem? fun j => ?_
      by_cases h2 : j < n
      · rw [List.getElem?_append_left (by simpa using h2)]
        simp [h2, bs, h1, show j < n + m by omega]
      · rw [List.getElem?_append_right (by simpa using h2)]
        by_cases h3 : j < n + m
        · simp [h2, h3, bs, h1, show j - n < m by omega]
        · rw [List.getElem?_eq_none (by simp; omega), List.getElem?_eq_none (by simp; omega)]
  · rw [List.getElem?_eq_none (by simp; omega), List.getElem?_eq_none (by simp; omega)]
theorem block_sum_mat (n m : Nat) (f g : Nat → Nat → Int) (hn : n ≤ 6) (hm : m ≤ 6) : F_block_sum [IM (mat n f), IM (mat m g)] = some (1, IM (mat (n + m) (bs n f g))) := by
  have ea : okIx (m : Int) = true := okIx_nat (by omega)
  have eb : okIx (n : Int) = true := okIx_nat (by omega)
  have h1 := comp_map1 (kc := 0) (it := iSeq (mO (oVar 0))) (tg := tName 4) (x := mBinF dAddG (mO (oVar 4)) (mBinF dMulG (mLst 0 (mCons 0 (mP (pC (.int 0))) mNil)) (mO (oVar 3)))) (own := [4])
    (ρ := [some (0, IM (mat n f)), some (0, IM (mat m g)), some (0, I n), some (0, I m), none]) (ρ1 := [some (0, IM (mat n f)), some (0, IM (mat m g)), some (0, I n), some (0, I m), none]) (ρ0 := [some (0, IM (mat n f)), some (0, IM (mat m g)), some (0, I n), some (0, I m), none])
    (mat n f) IL (fun r => IL (r ++ List.replicate m 0)) (by simp) (by simp; omega) rfl fun r hr => ⟨[some (0, IM (mat n f)), some (0, IM (mat m g)), some (0, I n), some (0, I m), some (0, IL r)], rfl, rfl, 1, by
      have hl := mat_row hr
      simp [ea, rep_flat, show m ≤ 16777216 by omega, hl, show n + m ≤ 16777216 by omega], by simp⟩
  have h2 := comp_map1 (kc := 0) (it := iSeq (mO (oVar 1))) (tg := tName 4) (x := mBinF dAddG (mBinF dMulG (mLst 0 (mCons 0 (mP (pC (.int 0))) mNil)) (mO (oVar 2))) (mO (oVar 4))) (own := [4])
    (ρ := [some (0, IM (mat n f)), some (0, IM (mat m g)), some (0, I n), some (0, I m), none]) (ρ1 := [some (0, IM (mat n f)), some (0, IM (mat m g)), some (0, I n), some (0, I m), none]) (ρ0 := [some (0, IM (mat n f)), some (0, IM (mat m g)), some (0, I n), some (0, I m), none])
    (mat m g) IL (fun r => IL (List.replicate n 0 ++ r)) (by simp) (by simp; omega) rfl fun r hr => ⟨[some (0, IM (mat n f)), some (0, IM (mat m g)), some (0, I n), some (0, I m), some (0, IL r)], rfl, rfl, 1, by
      have hl := mat_row hr
      simp [eb, rep_flat, show n ≤ 16777216 by omega, hl, show n + m ≤ 16777216 by omega], by simp⟩
  have e := bs_rows n m f g
  refine run0_rt (ρ := [some (0, IM (mat n f)), some (0, IM (mat m g)), none, none, none]) (ρ' := [some (0, IM (mat n f)), some (0, IM (mat m g)), some (0, I n), some (0, I m), none]) rfl ?_
  unfold m_block_sum
  rw [seq_nx (ρ1 := [some (0, IM (mat n f)), some (0, IM (mat m g)), some (0, I n), some (0, I m), none]) (by simp)]
  rw [e_sRet, e_mBinF, h1]
  simp only [h2]
  rw [← e]
  simp [show n + m ≤ 16777216 by omega, Function.comp_def]
theorem law_beside_mat (n m : Nat) (f g : Nat → Nat → Int) (hn : n ≤ 6) (hm : m ≤ 6) : F__law_beside [IM (mat n f), IM (mat m g)] = some (1, IM (mat (n + m) (bs n f g))) := by
  have ea : okIx (m : Int) = true := okIx_nat (by omega)
  have eb : okIx (n : Int) = true := okIx_nat (by omega)
  have h1 := comp_map1 (kc := 0) (it := iSeq (mO (oVar 0))) (tg := tName 3) (x := mBinF dAddG (mO (oVar 3)) (mBinF dMulG (mLst 0 (mCons 0 (mP (pC (.int 0))) mNil)) (mP (pCall dLen (pCons (pVar 1) pNil))))) (own := [3])
    (ρ := [some (0, IM (mat n f)), some (0, IM (mat m g)), none, none]) (ρ1 := [some (0, IM (mat n f)), some (0, IM (mat m g)), none, none]) (ρ0 := [some (0, IM (mat n f)), some (0, IM (mat m g)), none, none])
    (mat n f) IL (fun r => IL (r ++ List.replicate m 0)) (by simp) (by simp; omega) rfl fun r hr => ⟨[some (0, IM (mat n f)), some (0, IM (mat m g)), none, some (0, IL r)], rfl, rfl, 1, by
      have hl := mat_row hr
      simp [ea, rep_flat, show m ≤ 16777216 by omega, hl, show n + m ≤ 16777216 by omega], by simp⟩
  have h2 := comp_map1 (kc := 0) (it := iSeq (mO (oVar 1))) (tg := tName 3) (x := mBinF dAddG (mBinF dMulG (mLst 0 (mCons 0 (mP (pC (.int 0))) mNil)) (mP (pCall dLen (pCons (pVar 0) pNil)))) (mO (oVar 3))) (own := [3])
    (ρ := [some (0, IM (mat n f)), some (0, IM (mat m g)), some (0, .lst ((mat n f).map fun r => IL (r ++ List.replicate m 0))), none]) (ρ1 := [some (0, IM (mat n f)), some (0, IM (mat m g)), some (0, .lst ((mat n f).map fun r => IL (r ++ List.replicate m 0))), none]) (ρ0 := [some (0, IM (mat n f)), some (0, IM (mat m g)), some (0, .lst ((mat n f).map fun r => IL (r ++ List.replicate m 0))), none])
    (mat m g) IL (fun r => IL (List.replicate n 0 ++ r)) (by simp) (by simp; omega) rfl fun r hr => ⟨[some (0, IM (mat n f)), some (0, IM (mat m g)), some (0, .lst ((mat n f).map fun r => IL (r ++ List.replicate m 0))), some (0, IL r)], rfl, rfl, 1, by
      have hl := mat_row hr
      simp [eb, rep_flat, show n ≤ 16777216 by omega, hl, show n + m ≤ 16777216 by omega], by simp⟩
  have e := bs_rows n m f g
  refine run0_rt (ρ := [some (0, IM (mat n f)), some (0, IM (mat m g)), none, none]) (ρ' := [some (0, IM (mat n f)), some (0, IM (mat m g)), some (0, .lst ((mat n f).map fun r => IL (r ++ List.replicate m 0))), none]) rfl ?_
  unfold m__law_beside
  rw [seq_nx (ρ1 := [some (0, IM (mat n f)), some (0, IM (mat m g)), some (0, .lst ((mat n f).map fun r => IL (r ++ List.replicate m 0))), none]) (by rw [e_sAsg, e_mFz, h1]; simp)]
  have e0 : mO (oVar 2) [some (0, IM (mat n f)), some (0, IM (mat m g)), some (0, D.lst ((mat n f).map fun r => IL (r ++ List.replicate m 0))), none] = some ((0, D.lst ((mat n f).map fun r => IL (r ++ List.replicate m 0))), [some (0, IM (mat n f)), some (0, IM (mat m g)), some (0, D.lst ((mat n f).map fun r => IL (r ++ List.replicate m 0))), none]) := rfl
  rw [e_sRet, e_mBinF, e0]
  simp only [h2]
  rw [← e]
  simp [show n + m ≤ 16777216 by omega, Function.comp_def]
theorem law_power_ok (k : Nat) (hk : k ≤ 1000) : F__law_power [I k] = some (0, I (2 ^ k)) := by
  obtain ⟨ρ', el, o, rfl⟩ := loopR (tg := tName 2) (body := sAsg 1 (mP (pBin dMul (pVar 1) (pC (.int 2))))) k (fun i ρ => ∃ o : Option Cell, ρ = [some (0, I k), some (0, I (2 ^ i)), o]) (ρ := [some (0, I k), some (0, I 1), none]) ⟨none, rfl⟩ (by
    rintro i ρ hi ⟨o, rfl⟩
    have am : okMul ((2 : Int) ^ i) 2 = true := okMul_of (a := i + 1) (b := 2) (by
      rw [Int.natAbs_pow]
      exact Nat.pow_lt_pow_right (by decide) (by omega)) (by decide) (by omega) (by decide) (by omega)
    refine ⟨[some (0, I k), some (0, I (2 ^ i)), some (0, I i)], _, rfl, ?_, some (0, I i), rfl⟩
    simp [am, Int.pow_succ])
  have hr : iRange (mCons 0 (mO (oVar 0)) mNil) [some (0, I k), some (0, I 1), none] = some (rng 0 1 k, [some (0, I k), some (0, I 1), none]) := by
    rw [e_rg1 (j := k) (ρ1 := [some (0, I k), some (0, I 1), none]) (by simp), okRng_nat (by omega)]
    simp
  refine run0_rt (ρ := [some (0, I k), none, none]) (ρ' := [some (0, I k), some (0, I (2 ^ k)), o]) rfl ?_
  unfold m__law_power
  rw [seq_nx (ρ1 := [some (0, I k), some (0, I 1), none]) (by simp), seq_nx (for_nx hr el)]
  simp
theorem law_same_ok {k n : Nat} {d : D} (hk : 0 < k) (hk2 : k ≤ 1920) (hn : n ≤ 4) (h : Rok k n d) : F__law_same [d, d] = some (0, .bl true) := by
  obtain ⟨e1, e2⟩ := repr_Rok hk hk2 hn h
  simp [F__law_same, m__law_same, e1, eq_S e2]
theorem law_product_mat (n a b : Nat) (f g : Nat → Nat → Int) (h1 : 1 ≤ n) (h2 : n ≤ 8) (hf : smallM n a f) (hg : smallM n b g) (hab : a + b ≤ 900000) : F__law_product [IM (mat n f), IM (mat n g)] = some (1, IM (mat n (pr n f g))) := by
  have hdot : ∀ i, i < n → ∀ j, j < n → ∀ x y : Option Cell, mComp 0 (iZipM (mCons 0 (mO (oVar 3)) (mCons 0 (mO (oVar 1)) mNil))) (tTupT 2 (tsCons (tName 6) (tsCons (tName 7) tsNil))) tYesM (mP (pBin dMul (pVar 6) (pBin dIx (pVar 7) (pVar 5)))) [6, 7]
      [some (0, IM (mat n f)), some (0, IM (mat n g)), x, some (0, IL ((List.range n).map fun k => f i k)), y, some (0, I j), none, none]
      = some ((1, IL ((List.range n).map fun k => f i k * g k j)), [some (0, IM (mat n f)), some (0, IM (mat n g)), x, some (0, IL ((List.range n).map fun k => f i k)), y, some (0, I j), none, none]) := fun i hi j hj x y => by
    have hc := comp_map1 (kc := 0) (it := iZipM (mCons 0 (mO (oVar 3)) (mCons 0 (mO (oVar 1)) mNil))) (tg := tTupT 2 (tsCons (tName 6) (tsCons (tName 7) tsNil))) (x := mP (pBin dMul (pVar 6) (pBin dIx (pVar 7) (pVar 5)))) (own := [6, 7])
      (ρ := [some (0, IM (mat n f)), some (0, IM (mat n g)), x, some (0, IL ((List.range n).map fun k => f i k)), y, some (0, I j), none, none])
      (ρ1 := [some (0, IM (mat n f)), some (0, IM (mat n g)), x, some (0, IL ((List.range n).map fun k => f i k)), y, some (0, I j), none, none])
      (ρ0 := [some (0, IM (mat n f)), some (0, IM (mat n g)), x, some (0, IL ((List.range n).map fun k => f i k)), y, some (0, I j), none, none])
      (List.range n) (fun k => .tup [I (f i k), IL ((List.range n).map fun j => g k j)]) (fun k => I (f i k * g k j)) (by
        rw [e_iZipM]
        simp only [e_mCons, e_mO, e_oVar, e_mNil]
        have hz := zip_range n (fun k => I (f i k)) (fun k => IL ((List.range n).map fun j => g k j))
        simp [mat, Function.comp_def] at hz ⊢
        exact hz) (by simp; omega) rfl fun k hk => ⟨[some (0, IM (mat n f)), some (0, IM (mat n g)), x, some (0, IL ((List.range n).map fun k => f i k)), y, some (0, I j), some (0, I (f i k)), some (0, IL ((List.range n).map fun j => g k j))], rfl, rfl, 0, by
        have hk' := List.mem_range.mp hk
        have am : okMul (f i k) (g k j) = true := okMul_of (a := a + 1) (b := b + 1) (sm_up (hf i hi k hk') (by omega)) (sm_up (hg k hk' j hj) (by omega)) (by omega) (by omega) (by omega)
        simp [am, atI_nat', hj], by simp⟩
    rw [hc]
    simp
  let Fr : Nat → Option Cell → Option Cell → Option Cell → Mn.Env := fun i r m p => [some (0, IM (mat n f)), some (0, IM (mat n g)), some (1, .lst ((List.range i).map fun i => IL ((List.range n).map fun j => pr n f g i j))), r, m, p, none, none]
  obtain ⟨ρ', el, r', m', p', rfl⟩ := loopL (tg := tName 3) (body := sSeq (sAsg 4 (mLst 0 mNil))
    (sSeq (sFor (iRange (mCons 0 (mP (pCall dLen (pCons (pBin dIx (pVar 1) (pC (.int 0))) pNil))) mNil)) (tName 5) (sApp0 4 (mCallF (ofN dSum) (mCons 0 (mComp 0 (iZipM (mCons 0 (mO (oVar 3)) (mCons 0 (mO (oVar 1)) mNil))) (tTupT 2 (tsCons (tName 6) (tsCons (tName 7) tsNil))) tYesM (mP (pBin dMul (pVar 6) (pBin dIx (pVar 7) (pVar 5)))) [6, 7]) mNil))))
    (sApp0 2 (mSh 4)))) (List.range n) (fun i => IL ((List.range n).map fun k => f i k)) (fun i ρ => ∃ r m p, ρ = Fr i r m p) (ρ := Fr 0 none none none) ⟨none, none, none, rfl⟩ (by
    rintro i a ρ ha ⟨r, m, p, rfl⟩
    have hi : i < n := by
      by_cases q : i < n
      · exact q
      · rw [List.getElem?_eq_none (by simpa using q)] at ha; cases ha
    rw [List.getElem?_range hi] at ha
    cases ha
    let F2 : Nat → Option Cell → Mn.Env := fun j p => [some (0, IM (mat n f)), some (0, IM (mat n g)), some (1, .lst ((List.range i).map fun i => IL ((List.range n).map fun j => pr n f g i j))), some (0, IL ((List.range n).map fun k => f i k)), some (1, IL ((List.range j).map fun j => pr n f g i j)), p, none, none]
    obtain ⟨ρ2, e2, p2, rfl⟩ := loopR (tg := tName 5) (body := sApp0 4 (mCallF (ofN dSum) (mCons 0 (mComp 0 (iZipM (mCons 0 (mO (oVar 3)) (mCons 0 (mO (oVar 1)) mNil))) (tTupT 2 (tsCons (tName 6) (tsCons (tName 7) tsNil))) tYesM (mP (pBin dMul (pVar 6) (pBin dIx (pVar 7) (pVar 5)))) [6, 7]) mNil))) n (fun j ρ => ∃ p, ρ = F2 j p) (ρ := F2 0 p) ⟨p, rfl⟩ (by
      rintro j ρ hj ⟨p, rfl⟩
      refine ⟨F2 j (some (0, I j)), F2 (j + 1) (some (0, I j)), rfl, ?_, _, rfl⟩
      have hd := hdot i hi j hj (some (1, .lst ((List.range i).map fun i => IL ((List.range n).map fun j => pr n f g i j)))) (some (1, IL ((List.range j).map fun j => pr n f g i j)))
      have hx : mCallF (ofN dSum) (mCons 0 (mComp 0 (iZipM (mCons 0 (mO (oVar 3)) (mCons 0 (mO (oVar 1)) mNil))) (tTupT 2 (tsCons (tName 6) (tsCons (tName 7) tsNil))) tYesM (mP (pBin dMul (pVar 6) (pBin dIx (pVar 7) (pVar 5)))) [6, 7]) mNil) (F2 j (some (0, I j))) = some ((0, I (pr n f g i j)), F2 j (some (0, I j))) := by
        simp only [F2, e_mCallF, e_mCons, hd]
        simp [pr, sm, -List.map_map]
      unfold sApp0
      rw [hx]
      have hlen : j < 16777216 := by omega
      simp [F2, List.range_succ, hlen])
    refine ⟨Fr i (some (0, IL ((List.range n).map fun k => f i k))) m p, Fr (i + 1) (some (0, IL ((List.range n).map fun k => f i k))) (some (0, IL ((List.range n).map fun j => pr n f g i j))) p2, rfl, ?_, _, _, _, rfl⟩
    rw [seq_nx (ρ1 := F2 0 p) (by simp [Fr, F2])]
    have hr : iRange (mCons 0 (mP (pCall dLen (pCons (pBin dIx (pVar 1) (pC (.int 0))) pNil))) mNil) (F2 0 p) = some (rng 0 1 n, F2 0 p) := by
      rw [e_rg1 (j := n) (ρ1 := F2 0 p) (by
        have : atI (List.map IL (mat n g)) 0 = some (IL ((List.range n).map fun j => g 0 j)) := by
          rw [show (0 : Int) = ((0 : Nat) : Int) from rfl, atI_nat', List.getElem?_map, mat_get (by omega)]
          rfl
        simp [F2, this]), okRng_nat (by omega)]
      simp
    rw [seq_nx (for_nx hr e2)]
    have hlen : i < 16777216 := by omega
    unfold sApp0
    simp [Fr, F2, List.range_succ, hlen])
  simp only [List.length_range] at el
  refine run0_rt (ρ := [some (0, IM (mat n f)), some (0, IM (mat n g)), none, none, none, none, none, none]) (ρ' := (Fr n r' m' p').set 2 none) rfl ?_
  unfold m__law_product
  rw [seq_nx (ρ1 := Fr 0 none none none) (by simp [Fr])]
  have hit : iSeq (mO (oVar 0)) (Fr 0 none none none) = some ((List.range n).map fun i => IL ((List.range n).map fun k => f i k), Fr 0 none none none) := by
    simp [Fr, mat, Function.comp_def]
  rw [seq_nx (for_nx hit el)]
  simp [Fr, mat, Function.comp_def]
theorem law_changed_mat (n a b : Nat) (f c : Nat → Nat → Int) (h1 : 1 ≤ n) (h2 : n ≤ 8) (hf : smallM n a f) (hc : smallM n b c) (hab : a + b + b ≤ 800000) : F__law_changed [IM (mat n f), IM (mat n c)] = some (1, IM (mat n (pr n (pr n (fun i j => c j i) f) c))) := by
  have e1 := law_product_mat n b a (fun i j => c j i) f h1 h2 hc.tr hf (by omega)
  have e2 := law_product_mat n (b + a + 4) b (pr n (fun i j => c j i) f) c h1 h2 (hc.tr.pr hf h2) hc (by omega)
  simp [F__law_changed, m__law_changed, law_over_mat n c h1 h2, e1, e2]

/-! ### the program's two squares -/
theorem power_N (k : Nat) (h : k ≤ 100000) : F_power_of_two [I k] = some (0, I (2 ^ k)) := by
  have := power_I (k : Int) (by omega) (by omega)
  simpa using this
theorem p2_bd (k : Nat) : ((2 : Int) ^ k).natAbs < 2 ^ (k + 1) := by
  rw [Int.natAbs_pow]
  exact Nat.pow_lt_pow_right (by decide) (by omega)
theorem p2_pos (k : Nat) : (0 : Int) < 2 ^ k := Int.pow_pos (by decide)
theorem check_number_I (x a b : Int) (h1 : a ≤ x) (h2 : x ≤ b) : F_check_number [I x, I a, I b] = some (0, .non) := by
  simp [F_check_number, m_check_number, is_between_I, h1, h2]
theorem check_odd_I (x : Int) (h : x % 2 = 1) : F_check_odd [I x] = some (0, .non) := by
  simp [F_check_odd, m_check_odd, is_whole_I, h]
theorem check_kind_I (x : Int) (h : x = 0 ∨ x = 2) : F_check_kind [I x] = some (0, .non) := by
  have e : dNotInG (I x) (.lst [.int 0, .int 2]) = some (.bl false) := by
    have := notIn_IL x [0, 2]
    rw [show (decide (x ∈ [(0 : Int), 2])) = true by rcases h with rfl | rfl <;> decide] at this
    exact this
  simp [F_check_kind, m_check_kind, is_whole_I, e]
theorem okMul_b {x y : Int} {a b : Nat} (h1 : x.natAbs < 2 ^ a) (h2 : y.natAbs < 2 ^ b) (h : a + b ≤ 900000) : okMul x y = true :=
  okMul_of (a := a + 1) (b := b + 1) (sm_up h1 (by omega)) (sm_up h2 (by omega)) (by omega) (by omega) (by omega)
/-- what is told of two squares -/
def sqD (s o r n : Int) : D := .tup [IM [[1, 0 - s * r * n], [n, o]], I (o + s * r * n * n), I (o * r * (o + s * r * n * n))]
theorem sq_bd {e k : Nat} {o r n : Int} (he : e ≤ 64) (hk : 0 < k) (bo : o.natAbs < 2 ^ k) (br : r.natAbs < 2 ^ k) (bn : n.natAbs < 2 ^ k) :
    ((2 : Int) ^ e * r).natAbs < 2 ^ (65 + k) ∧ ((2 : Int) ^ e * r * n).natAbs < 2 ^ (65 + 2 * k) ∧ ((2 : Int) ^ e * r * n * n).natAbs < 2 ^ (65 + 3 * k) ∧ (o + (2 : Int) ^ e * r * n * n).natAbs < 2 ^ (66 + 3 * k) ∧ (o * r).natAbs < 2 ^ (2 * k) ∧ (o * r * (o + (2 : Int) ^ e * r * n * n)).natAbs < 2 ^ (66 + 5 * k) := by
  have b0 := sm_up (p2_bd e) (show e + 1 ≤ 65 by omega)
  have b1 := sm_mul b0 br
  have b2 := sm_mul b1 bn
  have b3 := sm_mul b2 bn
  have b4 := sm_add (sm_up bo (show k ≤ 65 + 3 * k by omega)) (sm_up b3 (show 65 + k + k + k ≤ 65 + 3 * k by omega))
  have b5 := sm_mul bo br
  exact ⟨b1, sm_up b2 (by omega), sm_up b3 (by omega), sm_up b4 (by omega), sm_up b5 (by omega), sm_up (sm_mul b5 b4) (by omega)⟩
theorem squares_turned_ok (l h : Nat) (o r n : Int) (hl : l ≤ h) (hh : h ≤ 64) (ho : o % 2 = 1) (hr : r % 2 = 1) (hn : h = l → n % 2 = 0) (bo : o.natAbs < 2 ^ 200) (br : r.natAbs < 2 ^ 200) (bn : n.natAbs < 2 ^ 200) :
    F_squares_turned [I l, I o, I h, I r, I n] = some (3, sqD (2 ^ (h - l)) o r n) := by
  obtain ⟨b1, b2, b3, b4, b5, b6⟩ := sq_bd (e := h - l) (k := 200) (by omega) (by omega) bo br bn
  have b0 := p2_bd (h - l)
  have hc : (h : Int) - l = ((h - l : Nat) : Int) := by omega
  have c1 := check_number_I l 0 64 (by omega) (by omega)
  have c2 := check_number_I h l 64 (by omega) (by omega)
  have c3 := check_odd_I o ho
  have c4 := check_odd_I r hr
  have c5 : ¬ ((h : Int) = l ∧ n % 2 = 1) := fun ⟨a, b⟩ => by have := hn (by omega); omega
  have c6 : ((!decide (n % 2 = 1)) || !decide ((h : Int) = l)) = true := by
    by_cases a : (h : Int) = l
    · by_cases b : n % 2 = 1
      · exact absurd ⟨a, b⟩ c5
      · simp [b]
    · simp [a]
  have hw := power_N (h - l) (by omega)
  generalize (2 : Int) ^ (h - l) = s at *
  refine run0_rt (ρ := [some (0, I l), some (0, I o), some (0, I h), some (0, I r), some (0, I n), none, none]) (ρ' := [some (0, I l), some (0, I o), some (0, I h), some (0, I r), some (0, I n), some (0, I (s * r * n)), some (0, I (o + s * r * n * n))]) rfl ?_
  unfold m_squares_turned
  rw [seq_nx (ρ1 := [some (0, I l), some (0, I o), some (0, I h), some (0, I r), some (0, I n), none, none]) (by simp [c1])]
  rw [seq_nx (ρ1 := [some (0, I l), some (0, I o), some (0, I h), some (0, I r), some (0, I n), none, none]) (by simp [c3])]
  rw [seq_nx (ρ1 := [some (0, I l), some (0, I o), some (0, I h), some (0, I r), some (0, I n), none, none]) (by simp [c2])]
  rw [seq_nx (ρ1 := [some (0, I l), some (0, I o), some (0, I h), some (0, I r), some (0, I n), none, none]) (by simp [c4])]
  rw [seq_nx (ρ1 := [some (0, I l), some (0, I o), some (0, I h), some (0, I r), some (0, I n), none, none]) (by
    by_cases a : (h : Int) = l
    · have hn2 := hn (by omega)
      simp [is_whole_I, a, hn2]
    · simp [is_whole_I, a])]
  rw [seq_nx (ρ1 := [some (0, I l), some (0, I o), some (0, I h), some (0, I r), some (0, I n), some (0, I (s * r * n)), none]) (by
    have m1 : okMul s r = true := okMul_b b0 br (by omega)
    have m2 : okMul (s * r) n = true := okMul_b b1 bn (by omega)
    simp [hc, hw, m1, m2])]
  rw [seq_nx (ρ1 := [some (0, I l), some (0, I o), some (0, I h), some (0, I r), some (0, I n), some (0, I (s * r * n)), some (0, I (o + s * r * n * n))]) (by
    have m1 : okMul (s * r * n) n = true := okMul_b b2 bn (by omega)
    simp [m1])]
  have m1 : okMul o r = true := okMul_b bo br (by omega)
  have m2 : okMul (o * r) (o + s * r * n * n) = true := okMul_b b5 b4 (by omega)
  simp [m1, m2, sqD]
/-- matrices by their rows -/
def lm (M : List (List Int)) (i j : Nat) : Int := (M.getD i []).getD j 0
theorem smallM_lm {n k : Nat} {M : List (List Int)} (h : ∀ r ∈ M, ∀ x ∈ r, x.natAbs < 2 ^ k) : smallM n k (lm M) := fun i hi j hj => by
  have hp : 0 < 2 ^ k := Nat.pow_pos (by decide)
  unfold lm
  simp only [List.getD_eq_getElem?_getD]
  cases e : M[i]? with
  | none => simpa using hp
  | some r =>
    simp only [Option.getD_some]
    cases e2 : r[j]? with
    | none => simpa using hp
    | some x => simpa using h r (List.mem_of_getElem? e) x (List.mem_of_getElem? e2)
theorem mat2 (f : Nat → Nat → Int) : mat 2 f = [[f 0 0, f 0 1], [f 1 0, f 1 1]] := rfl
theorem mat3 (f : Nat → Nat → Int) : mat 3 f = [[f 0 0, f 0 1, f 0 2], [f 1 0, f 1 1, f 1 2], [f 2 0, f 2 1, f 2 2]] := rfl
theorem mat4 (f : Nat → Nat → Int) : mat 4 f = [[f 0 0, f 0 1, f 0 2, f 0 3], [f 1 0, f 1 1, f 1 2, f 1 3], [f 2 0, f 2 1, f 2 2, f 2 3], [f 3 0, f 3 1, f 3 2, f 3 3]] := rfl
theorem sm2 (g : Nat → Int) : sm 2 g = g 0 + (g 1 + 0) := rfl
theorem sm3 (g : Nat → Int) : sm 3 g = g 0 + (g 1 + (g 2 + 0)) := rfl
theorem sm4 (g : Nat → Int) : sm 4 g = g 0 + (g 1 + (g 2 + (g 3 + 0))) := rfl
theorem sq_made (L s o r n : Int) : mat 2 (pr 2 (pr 2 (fun i j => lm [[1, 0 - s * r * n], [n, o]] j i) (lm [[L * o, 0], [0, L * s * r]])) (lm [[1, 0 - s * r * n], [n, o]])) = [[L * (o + s * r * n * n), 0], [0, L * s * (o * r * (o + s * r * n * n))]] := by
  simp [mat2, pr, sm2, lm]
  grind

/-! ### draws -/
theorem signed_ok {n : Nat} {c : Cell} (h : Gn n c) (hn : n ≤ 10 ^ 14) (m : Int) (h1 : 0 ≤ m) (h2 : m ≤ 10 ^ 29) : ∃ r c', F__law_signed c [I m] = some ((0, I r), c') ∧ r.natAbs ≤ 10 ^ 29 ∧ Gn (n + 101) c' := by
  obtain ⟨b, c2, e2, b1, b2, g2⟩ := random_ok h (by omega) (2 * m + 1) (by omega) (by
    have h2 : (2 * m + 1).natAbs < 2 ^ 110 := by omega
    exact Nat.lt_of_lt_of_le (log2_lt h2 (by decide)) (by decide))
  refine ⟨b - m, c2, ?_, by omega, g2⟩
  have am : okMul 2 m = true := okMul_small (by decide) (by omega)
  refine run1_rt (ρ := [some c, some (0, I m)]) (ρ' := [some c2, some (0, I m)]) rfl ?_ rfl
  simp [m__law_signed, am, e2]
theorem odd_ok {n : Nat} {c : Cell} (h : Gn n c) (hn : n ≤ 10 ^ 14) (m : Int) (h1 : 0 ≤ m) (h2 : m ≤ 10 ^ 29) : ∃ r c', F__law_odd c [I m] = some ((0, I r), c') ∧ r.natAbs < 2 ^ 100 ∧ r % 2 = 1 ∧ Gn (n + 101) c' := by
  obtain ⟨b, c2, e2, b1, g2⟩ := signed_ok h hn m h1 h2
  refine ⟨2 * b + 1, c2, ?_, by omega, by omega, g2⟩
  have am : okMul 2 b = true := okMul_small (by decide) (by omega)
  refine run1_rt (ρ := [some c, some (0, I m)]) (ρ' := [some c2, some (0, I m)]) rfl ?_ rfl
  have e3 : dMulG (.int 2) (.int b) = some (0, .int (2 * b)) := by simp [dMulG, am]
  simp [m__law_odd, e2, e3]
theorem pick2 {a b r : Int} (h1 : 0 ≤ r) (h2 : r < 2) : ∃ m, atI [D.int a, D.int b] r = some (.int m) ∧ (m = a ∨ m = b) := by
  have : r = 0 ∨ r = 1 := by omega
  rcases this with rfl | rfl
  · exact ⟨a, rfl, .inl rfl⟩
  · exact ⟨b, rfl, .inr rfl⟩
theorem Rok_sq {k : Nat} {s o r n : Int} (b2 : (s * r * n).natAbs < 2 ^ k) (bo : o.natAbs < 2 ^ k) (bn : n.natAbs < 2 ^ k) (b4 : (o + s * r * n * n).natAbs < 2 ^ k) (b6 : (o * r * (o + s * r * n * n)).natAbs < 2 ^ k) (hk : 0 < k) : Rok k 3 (sqD s o r n) := by
  have h1 : (1 : Int).natAbs < 2 ^ k := Nat.one_lt_two_pow (by omega)
  have hz : (0 - s * r * n).natAbs < 2 ^ k := by omega
  simp [sqD, Rok, b4, b6, bo, bn, h1]
  omega
theorem sq_changed (l e : Nat) (o r n : Int) (hl : l ≤ 64) (he : e ≤ 64) (bo : o.natAbs < 2 ^ 200) (br : r.natAbs < 2 ^ 200) (bn : n.natAbs < 2 ^ 200) :
    F__law_changed [IM [[2 ^ l * o, 0], [0, 2 ^ (l + e) * r]], IM [[1, 0 - 2 ^ e * r * n], [n, o]]] = some (1, IM [[2 ^ l * (o + 2 ^ e * r * n * n), 0], [0, 2 ^ (l + e) * (o * r * (o + 2 ^ e * r * n * n))]]) := by
  obtain ⟨b1, b2, b3, b4, b5, b6⟩ := sq_bd (e := e) (k := 200) he (by omega) bo br bn
  have z : (0 : Int).natAbs < 2 ^ 500 := by decide +kernel
  have z1 : (0 : Int).natAbs < 2 ^ 700 := by decide +kernel
  have o1 : (1 : Int).natAbs < 2 ^ 700 := by decide +kernel
  have q1 : ((2 : Int) ^ l * o).natAbs < 2 ^ 500 := sm_up (sm_mul (p2_bd l) bo) (by omega)
  have q2 : ((2 : Int) ^ (l + e) * r).natAbs < 2 ^ 500 := sm_up (sm_mul (p2_bd (l + e)) br) (by omega)
  have q3 : (0 - (2 : Int) ^ e * r * n).natAbs < 2 ^ 700 := by
    have := sm_up b2 (show 65 + 2 * 200 ≤ 700 by omega)
    omega
  have hm := law_changed_mat 2 500 700 (lm [[2 ^ l * o, 0], [0, 2 ^ (l + e) * r]]) (lm [[1, 0 - 2 ^ e * r * n], [n, o]]) (by omega) (by omega)
    (smallM_lm (by simp only [List.mem_cons, List.not_mem_nil, or_false]; rintro _ (rfl | rfl) x hx <;> simp only [List.mem_cons, List.not_mem_nil, or_false] at hx <;> rcases hx with rfl | rfl <;> assumption))
    (smallM_lm (by simp only [List.mem_cons, List.not_mem_nil, or_false]; rintro _ (rfl | rfl) x hx <;> simp only [List.mem_cons, List.not_mem_nil, or_false] at hx <;> rcases hx with rfl | rfl <;> first | assumption | exact sm_up bn (by omega) | exact sm_up bo (by omega))) (by omega)
  rw [Int.pow_add, sq_made] at hm
  rw [Int.pow_add]
  exact hm
theorem squares_right_ok {n : Nat} {c : Cell} (h : Gn n c) (hn : n ≤ 10 ^ 13) : ∃ c', F__law_squares_right c [] = some ((0, .bl true), c') ∧ Gn (n + 1100) c' := by
  obtain ⟨a, c1, e1, a1, a2, g1⟩ := random_ok h (by omega) 65 (by omega) (by decide)
  obtain ⟨p, c2, e2, p1, p2, g2⟩ := random_ok g1 (by omega) 2 (by omega) (by decide)
  have k28 : (10 : Int) ^ 28 = 10000000000000000000000000000 := by decide
  have k2 : (10 : Int) ^ 2 = 100 := by decide
  have k3 : (10 : Int) ^ 3 = 1000 := by decide
  obtain ⟨m, em, hm⟩ := pick2 (a := 10 ^ 2) (b := 10 ^ 28) p1 p2
  obtain ⟨w, c3, e3, w1, g3⟩ := signed_ok g2 (by omega) m (by omega) (by omega)
  obtain ⟨p', c4, e4, p1', p2', g4⟩ := random_ok g3 (by omega) 2 (by omega) (by decide)
  obtain ⟨q, eq, hq⟩ := pick2 (a := 4) (b := 65) p1' p2'
  generalize hb : (if q < 65 - a then q else 65 - a) = b
  have hb1 : 0 < b ∧ b ≤ 65 - a := by subst hb; split <;> omega
  obtain ⟨d, c5, e5, d1, d2, g5⟩ := random_ok g4 (by omega) b hb1.1 (Nat.lt_of_lt_of_le (log2_lt (k := 10) (by omega) (by decide)) (by decide))
  obtain ⟨p'', c6, e6, p1'', p2'', g6⟩ := random_ok g5 (by omega) 2 (by omega) (by decide)
  obtain ⟨m', em', hm'⟩ := pick2 (a := 10) (b := 10 ^ 28) p1'' p2''
  obtain ⟨o, c7, e7, bo, o1, g7⟩ := odd_ok g6 (by omega) m' (by omega) (by omega)
  obtain ⟨r0, c8, e8, br0, r01, g8⟩ := odd_ok g7 (by omega) (10 ^ 3) (by omega) (by omega)
  obtain ⟨f, c9, e9, f1, f2, g9⟩ := random_ok g8 (by omega) 4 (by omega) (by decide)
  obtain ⟨r1, c10, e10, br1, r11, g10⟩ := odd_ok g9 (by omega) (10 ^ 28) (by omega) (by omega)
  obtain ⟨r, cz, ez, br, ro, gz⟩ : ∃ r cz, ((f = 0 ∧ r = r1 ∧ cz = c10) ∨ (f ≠ 0 ∧ r = r0 ∧ cz = c9)) ∧ r.natAbs < 2 ^ 100 ∧ r % 2 = 1 ∧ Gn (n + 1100) cz := by
    by_cases hf : f = 0
    · exact ⟨r1, c10, .inl ⟨hf, rfl, rfl⟩, br1, r11, g10.up (by omega)⟩
    · exact ⟨r0, c9, .inr ⟨hf, rfl, rfl⟩, br0, r01, g9.up (by omega)⟩
  obtain ⟨l, rfl⟩ : ∃ l : Nat, a = l := ⟨a.toNat, by omega⟩
  obtain ⟨e, rfl⟩ : ∃ e : Nat, d = e := ⟨d.toNat, by omega⟩
  obtain ⟨N, hN, bN, eN⟩ : ∃ N : Int, (N = if e = 0 then 2 * w else w) ∧ N.natAbs < 2 ^ 200 ∧ (e = 0 → N % 2 = 0) := by
    refine ⟨_, rfl, ?_, fun he => ?_⟩
    · split <;> omega
    · rw [if_pos he]; omega
  have bo' := sm_up bo (show 100 ≤ 200 by omega)
  have br' := sm_up br (show 100 ≤ 200 by omega)
  have hle : e ≤ 64 ∧ l + e ≤ 64 := by omega
  obtain ⟨b1, b2, b3, b4, b5, b6⟩ := sq_bd (e := e) (k := 200) hle.1 (by omega) bo' br' bN
  have ht := squares_turned_ok l (l + e) o r N (by omega) hle.2 o1 ro (fun h => eN (by omega)) bo' br' bN
  rw [Nat.add_sub_cancel_left, Int.natCast_add] at ht
  have hs : F__law_same [sqD (2 ^ e) o r N, sqD (2 ^ e) o r N] = some (0, .bl true) := law_same_ok (k := 1800) (n := 3) (by omega) (by omega) (by omega)
    (Rok_sq (sm_up b2 (by omega)) (sm_up bo' (by omega)) (sm_up bN (by omega)) (sm_up b4 (by omega)) (sm_up b6 (by omega)) (by omega))
  have hch := sq_changed l e o r N (by omega) hle.1 bo' br' bN
  have hpe := law_power_ok e (by omega)
  have hpl := law_power_ok l (by omega)
  have hph := law_power_ok (l + e) (by omega)
  rw [Int.natCast_add] at hph
  have q0 := p2_bd e
  have q1 := p2_bd l
  have q2 := p2_bd (l + e)
  have hc : (l : Int) + e - l = e := by omega
  generalize (2 : Int) ^ e = S at *
  generalize (2 : Int) ^ (l + e) = Hh at *
  generalize (2 : Int) ^ l = Ll at *
  refine ⟨cz, ?_, gz⟩
  have x1 : okPow 10 28 = true := by decide +kernel
  have x2 : okPow 10 2 = true := by decide +kernel
  have x3 : okPow 10 3 = true := by decide +kernel
  have y1 : ∀ ρ, pBin dPow (pC (.int 10)) (pC (.int 28)) ρ = some (.int (10 ^ 28)) := fun ρ => by
    show dPow (.int 10) (.int 28) = _
    rw [okPow_of' x1, show (28 : Int).toNat = 28 from rfl]
  have y2 : ∀ ρ, pBin dPow (pC (.int 10)) (pC (.int 2)) ρ = some (.int (10 ^ 2)) := fun ρ => by
    show dPow (.int 10) (.int 2) = _
    rw [okPow_of' x2, show (2 : Int).toNat = 2 from rfl]
  have y3 : ∀ ρ, pBin dPow (pC (.int 10)) (pC (.int 3)) ρ = some (.int (10 ^ 3)) := fun ρ => by
    show dPow (.int 10) (.int 3) = _
    rw [okPow_of' x3, show (3 : Int).toNat = 3 from rfl]
  have mm1 : okMul S r = true := okMul_b q0 br (by omega)
  have mm2 : okMul (S * r) N = true := okMul_b b1 bN (by omega)
  have mm3 : okMul (S * r * N) N = true := okMul_b b2 bN (by omega)
  have mm4 : okMul o r = true := okMul_b bo br (by omega)
  have mm5 : okMul (o * r) (o + S * r * N * N) = true := okMul_b b5 b4 (by omega)
  have mm6 : okMul 2 w = true := okMul_small (by decide) (by omega)
  have mm7 : okMul Ll o = true := okMul_b q1 bo (by omega)
  have mm8 : okMul Hh r = true := okMul_b q2 br (by omega)
  have mm9 : okMul Ll (o + S * r * N * N) = true := okMul_b q1 b4 (by omega)
  have mm10 : okMul Hh (o * r * (o + S * r * N * N)) = true := okMul_b q2 b6 (by omega)
  have dm : ∀ {x y : Int}, okMul x y = true → dMulG (.int x) (.int y) = some (0, .int (x * y)) := fun h => by simp [dMulG, h]
  unfold F__law_squares_right
  unfold m__law_squares_right
  generalize pBin dPow (pC (.int 10)) (pC (.int 28)) = P28 at y1
  generalize pBin dPow (pC (.int 10)) (pC (.int 2)) = P2 at y2
  generalize pBin dPow (pC (.int 10)) (pC (.int 3)) = P3 at y3
  generalize (10 : Int) ^ 28 = K28 at *
  generalize (10 : Int) ^ 2 = K2 at *
  generalize (10 : Int) ^ 3 = K3 at *
  refine run1_rt (ρ := [some c, none, none, none, none, none, none, none, none, none, none])
    (ρ' := [some cz, some (0, I l), some (0, I N), some (0, I (l + e)), some (0, I o), some (0, I r), some (0, I (S * r)), some (0, I (o + S * r * N * N)), some (0, sqD S o r N), some (3, .tup [.lst [IL [1, 0 - S * r * N, 1], IL [N, o], .lst []], I (o + S * r * N * N), I (o * r * (o + S * r * N * N))]), some (0, IM [[Ll * o, 0], [0, Hh * r]])]) rfl ?_ rfl
  rw [seq_nx (ρ1 := [some c3, some (0, I l), some (0, I w), none, none, none, none, none, none, none, none]) (by simp [e1, e2, e3, y1, y2, em])]
  rw [seq_nx (ρ1 := [some c5, some (0, I l), some (0, I w), some (0, I (l + e)), none, none, none, none, none, none, none]) (by simp [e4, eq, hb, e5])]
  rw [seq_nx (ρ1 := [some c8, some (0, I l), some (0, I w), some (0, I (l + e)), some (0, I o), some (0, I r0), none, none, none, none, none]) (by simp [e6, em', e7, e8, y1, y3])]
  rw [seq_nx (ρ1 := [some cz, some (0, I l), some (0, I w), some (0, I (l + e)), some (0, I o), some (0, I r), none, none, none, none, none]) (by
    rcases ez with ⟨hf, rfl, rfl⟩ | ⟨hf, rfl, rfl⟩
    · simp [e9, hf, e10, y1]
    · simp [e9, hf])]
  rw [seq_nx (ρ1 := [some cz, some (0, I l), some (0, I N), some (0, I (l + e)), some (0, I o), some (0, I r), none, none, none, none, none]) (by
    by_cases he : e = 0
    · simp [he, hN, mm6]
    · have hne : ¬ ((l : Int) + e = l) := by omega
      simp [he, hN, hne])]
  rw [seq_nx (ρ1 := [some cz, some (0, I l), some (0, I N), some (0, I (l + e)), some (0, I o), some (0, I r), some (0, I (S * r)), none, none, none, none]) (by
    simp only [e_sAsg, e_mFz, e_mBinF, e_mCall, e_mCons, e_mP, e_pBin, e_pVar, List.getElem?_cons_succ, List.getElem?_cons_zero, Option.bind_some]
    simp [hc, hpe, dm mm1])]
  rw [seq_nx (ρ1 := [some cz, some (0, I l), some (0, I N), some (0, I (l + e)), some (0, I o), some (0, I r), some (0, I (S * r)), some (0, I (o + S * r * N * N)), none, none, none]) (by simp [mm2, mm3])]
  rw [seq_nx (ρ1 := [some cz, some (0, I l), some (0, I N), some (0, I (l + e)), some (0, I o), some (0, I r), some (0, I (S * r)), some (0, I (o + S * r * N * N)), some (0, sqD S o r N), none, none]) (by simp [mm2, mm4, mm5, sqD])]
  rw [seq_nx (ρ1 := [some cz, some (0, I l), some (0, I N), some (0, I (l + e)), some (0, I o), some (0, I r), some (0, I (S * r)), some (0, I (o + S * r * N * N)), some (0, sqD S o r N), some (3, sqD S o r N), none]) (by simp [ht])]
  have ty : tyNm (sqD S o r N) = some "tuple" := rfl
  rw [seq_nx (ρ1 := [some cz, some (0, I l), some (0, I N), some (0, I (l + e)), some (0, I o), some (0, I r), some (0, I (S * r)), some (0, I (o + S * r * N * N)), some (0, sqD S o r N), some (3, sqD S o r N), none]) (by simp [ty, isTy, hs])]
  rw [seq_nx (ρ1 := [some cz, some (0, I l), some (0, I N), some (0, I (l + e)), some (0, I o), some (0, I r), some (0, I (S * r)), some (0, I (o + S * r * N * N)), some (0, sqD S o r N), some (3, sqD S o r N), some (0, IM [[Ll * o, 0], [0, Hh * r]])]) (by simp [hpl, hph, dm mm7, dm mm8])]
  rw [seq_nx (ρ1 := [some cz, some (0, I l), some (0, I N), some (0, I (l + e)), some (0, I o), some (0, I r), some (0, I (S * r)), some (0, I (o + S * r * N * N)), some (0, sqD S o r N), some (3, sqD S o r N), some (0, IM [[Ll * o, 0], [0, Hh * r]])]) (by
    have hne : dNe (IM [[Ll * (o + S * r * N * N), 0], [0, Hh * (o * r * (o + S * r * N * N))]]) (.lst [.lst [.int (Ll * (o + S * r * N * N)), .int 0], .lst [.int 0, .int (Hh * (o * r * (o + S * r * N * N)))]]) = some (.bl false) :=
      (ne_IM [[Ll * (o + S * r * N * N), 0], [0, Hh * (o * r * (o + S * r * N * N))]] [[Ll * (o + S * r * N * N), 0], [0, Hh * (o * r * (o + S * r * N * N))]]).trans (by simp)
    simp only [List.map_cons, List.map_nil, Int.zero_sub] at hch
    simp [sqD, atI, ixN, itC, hch, hpl, hph, dm mm9, dm mm10, hne])]
  rw [seq_nx (ρ1 := [some cz, some (0, I l), some (0, I N), some (0, I (l + e)), some (0, I o), some (0, I r), some (0, I (S * r)), some (0, I (o + S * r * N * N)), some (0, sqD S o r N), some (3, .tup [.lst [IL [1, 0 - S * r * N, 1], IL [N, o]], I (o + S * r * N * N), I (o * r * (o + S * r * N * N))]), some (0, IM [[Ll * o, 0], [0, Hh * r]])]) (by
    simp [sApp, plAt, plIx, D.at, D.put, ixN, sqD])]
  rw [seq_nx (ρ1 := [some cz, some (0, I l), some (0, I N), some (0, I (l + e)), some (0, I o), some (0, I r), some (0, I (S * r)), some (0, I (o + S * r * N * N)), some (0, sqD S o r N), some (3, .tup [.lst [IL [1, 0 - S * r * N, 1], IL [N, o], .lst []], I (o + S * r * N * N), I (o * r * (o + S * r * N * N))]), some (0, IM [[Ll * o, 0], [0, Hh * r]])]) (by
    simp [sApp, plAt, plIx, D.at, D.put, ixN])]
  simp [permL, ht, hs]

/-! ### elimination by 2 -/
def remAt (B : List (List Int)) (r : List Int) : Option Nat := B.findIdx? fun x => decide (x = r)
theorem rem_IM (B : List (List Int)) (r : List Int) : dRemAt (B.map IL) (IL r) = remAt B r := by
  have e : toPL (B.map IL) = some (B.map fun r => .list (r.map PyData.int)) := toPL_mapL _ _ B fun r _ => toP_IL r
  unfold dRemAt
  rw [e, toP_IL]
  simp only [shaped_IM, shaped_IL, Bool.and_self, if_true]
  unfold SeqAt.dataPlace remAt
  rw [List.findIdx?_map]
  congr 1
  funext x
  show PyData.eqv (.list (x.map PyData.int)) (.list (r.map PyData.int)) = _
  simp only [PyData.eqv, eqv_IL]
def nextB (B : List (List Int)) (j : Nat) (f : List Int) : List (List Int) := (B.eraseIdx ((remAt B f).getD 0)).map fun row => (row.zip f).map fun p => (p.1 + p.2 * row.getD j 0) % 2
def elimB : List Nat → List (List Int) → Bool
  | [], _ => true
  | j :: js, B => match B.filter (fun r => decide (r.getD j 0 = 1)) with
    | [] => false
    | f :: _ => elimB js (nextB B j f)
def bitB (m : Nat) (B : List (List Int)) : Prop := B.length ≤ 8 ∧ ∀ r ∈ B, r.length = m ∧ ∀ x ∈ r, x.natAbs < 2
theorem bitB.next {m : Nat} {B : List (List Int)} (h : bitB m B) {f : List Int} (hf : f ∈ B) (j : Nat) : bitB m (nextB B j f) := by
  refine ⟨?_, fun r hr => ?_⟩
  · unfold nextB
    rw [List.length_map]
    exact Nat.le_trans (len_erase _ _) h.1
  · unfold nextB at hr
    rw [List.mem_map] at hr
    obtain ⟨row, hrow, rfl⟩ := hr
    have hB : row ∈ B := List.mem_of_mem_eraseIdx hrow
    refine ⟨by rw [List.length_map, List.length_zip, (h.2 row hB).1, (h.2 f hf).1]; omega, fun x hx => ?_⟩
    rw [List.mem_map] at hx
    obtain ⟨p, _, rfl⟩ := hx
    omega
theorem getD_mem {r : List Int} {j : Nat} (h : j < r.length) : r.getD j 0 ∈ r := by
  rw [List.getD_eq_getElem?_getD, List.getElem?_eq_getElem h]
  exact List.getElem_mem h
theorem er_map {α β : Type} (g : α → β) : ∀ (l : List α) (k : Nat), (l.map g).eraseIdx k = (l.eraseIdx k).map g
  | [], _ => by simp
  | _ :: _, 0 => rfl
  | x :: xs, k + 1 => congrArg (g x :: ·) (er_map g xs k)
theorem bits_step {m j : Nat} {B : List (List Int)} (h : bitB m B) (hj : j < m) (hm : m ≤ 8) {f : List Int} {rest : List (List Int)} (hf : B.filter (fun r => decide (r.getD j 0 = 1)) = f :: rest) (r0 a b : Option Cell) :
    (sSeq (sAsg 3 (mFz (mCompH 0 1 (tName 5) (mtP (pB (pBin dEq (pBin dIx (pVar 5) (pVar 2)) (pC (.int 1))))) (mO (oVar 5)) [5])))
    (sSeq (sIf (mtV (mBin dEq (mO (oVar 3)) (mLst 0 mNil))) (sRet (mP (pC (.int 0)))) sNx)
    (sSeq (sAsg 4 (mO (oIx (oVar 3) (pC (.int 0)))))
    (sSeq (sRem0 1 (mO (oVar 4)))
    (sAsg 1 (mCompH 0 1 (tName 5) tYesM (mComp 0 (iZipM (mCons 0 (mO (oVar 5)) (mCons 0 (mO (oVar 4)) mNil))) (tTupT 2 (tsCons (tName 6) (tsCons (tName 7) tsNil))) tYesM (mP (pBin dMod (pCall dInt (pCons (pBin dAdd (pVar 6) (pBin dMul (pVar 7) (pBin dIx (pVar 5) (pVar 2)))) pNil)) (pC (.int 2)))) [6, 7]) [5])))))) [r0, some (1, IM B), some (0, I j), a, b, none, none, none]
    = some (.nx [r0, some (1, IM (nextB B j f)), some (0, I j), some (0, IM (f :: rest)), some (0, IL f), none, none, none]) := by
  have hfm : f ∈ B := (List.mem_filter.mp (hf ▸ List.mem_cons_self)).1
  have ix : ∀ r ∈ B, atI (r.map D.int) (j : Int) = some (.int (r.getD j 0)) := fun r hr => by
    rw [atI_nat', List.getElem?_map, List.getD_eq_getElem?_getD, List.getElem?_eq_getElem (by rw [(h.2 r hr).1]; exact hj)]
    rfl
  have c1 := comp_map (kc := 0) (it := fun ρ => some (B.map IL, ρ.set 1 none)) (tg := tName 5) (t := mtP (pB (pBin dEq (pBin dIx (pVar 5) (pVar 2)) (pC (.int 1))))) (x := mO (oVar 5)) (own := [5])
    (ρ := [r0, some (1, IM B), some (0, I j), a, b, none, none, none]) (ρ1 := [r0, none, some (0, I j), a, b, none, none, none]) (ρ0 := [r0, none, some (0, I j), a, b, none, none, none])
    B IL (fun r => decide (r.getD j 0 = 1)) IL rfl (by have := h.1; omega) rfl fun r hr => ⟨[r0, none, some (0, I j), a, b, some (0, IL r), none, none], rfl, by simp [ix r hr, -List.getD_eq_getElem?_getD], rfl, fun _ => ⟨0, by simp, by simp⟩⟩
  rw [hf] at c1
  rw [seq_nx (ρ1 := [r0, some (1, IM B), some (0, I j), some (0, IM (f :: rest)), b, none, none, none]) (by
    rw [e_sAsg, e_mFz, compH_of rfl c1 rfl]
    simp)]
  rw [seq_nx (ρ1 := [r0, some (1, IM B), some (0, I j), some (0, IM (f :: rest)), b, none, none, none]) (by
    have e0 : dEq (IM (f :: rest)) (.lst []) = some (.bl false) := (eq_IM0 (f :: rest)).trans (by simp)
    simp [e0])]
  rw [seq_nx (ρ1 := [r0, some (1, IM B), some (0, I j), some (0, IM (f :: rest)), some (0, IL f), none, none, none]) (by simp [atI, ixN, itC])]
  obtain ⟨k, hk⟩ : ∃ k, remAt B f = some k := by
    cases e : remAt B f with
    | some k => exact ⟨k, rfl⟩
    | none =>
      unfold remAt at e
      rw [List.findIdx?_eq_none_iff] at e
      have := e f hfm
      simp at this
  have hrem : dRemAt (B.map IL) (IL f) = some k := by rw [rem_IM, hk]
  rw [seq_nx (ρ1 := [r0, some (1, IM (B.eraseIdx k)), some (0, I j), some (0, IM (f :: rest)), some (0, IL f), none, none, none]) (by
    have hm := er_map IL B k
    simp [sRem0, hrem, hm])]
  have hin : ∀ row ∈ B.eraseIdx k, mComp 0 (iZipM (mCons 0 (mO (oVar 5)) (mCons 0 (mO (oVar 4)) mNil))) (tTupT 2 (tsCons (tName 6) (tsCons (tName 7) tsNil))) tYesM (mP (pBin dMod (pCall dInt (pCons (pBin dAdd (pVar 6) (pBin dMul (pVar 7) (pBin dIx (pVar 5) (pVar 2)))) pNil)) (pC (.int 2)))) [6, 7]
      [r0, none, some (0, I j), some (0, IM (f :: rest)), some (0, IL f), some (0, IL row), none, none]
      = some ((1, IL ((row.zip f).map fun p => (p.1 + p.2 * row.getD j 0) % 2)), [r0, none, some (0, I j), some (0, IM (f :: rest)), some (0, IL f), some (0, IL row), none, none]) := fun row hrow => by
    have hB : row ∈ B := List.mem_of_mem_eraseIdx hrow
    have hc := comp_map1 (kc := 0) (it := iZipM (mCons 0 (mO (oVar 5)) (mCons 0 (mO (oVar 4)) mNil))) (tg := tTupT 2 (tsCons (tName 6) (tsCons (tName 7) tsNil))) (x := mP (pBin dMod (pCall dInt (pCons (pBin dAdd (pVar 6) (pBin dMul (pVar 7) (pBin dIx (pVar 5) (pVar 2)))) pNil)) (pC (.int 2)))) (own := [6, 7])
      (ρ := [r0, none, some (0, I j), some (0, IM (f :: rest)), some (0, IL f), some (0, IL row), none, none])
      (ρ1 := [r0, none, some (0, I j), some (0, IM (f :: rest)), some (0, IL f), some (0, IL row), none, none])
      (ρ0 := [r0, none, some (0, I j), some (0, IM (f :: rest)), some (0, IL f), some (0, IL row), none, none])
      (row.zip f) (fun p => .tup [I p.1, I p.2]) (fun p => I ((p.1 + p.2 * row.getD j 0) % 2)) (by
        rw [e_iZipM]
        simp [zipD_map]) (by rw [List.length_zip, (h.2 row hB).1]; omega) rfl fun p hp => ⟨[r0, none, some (0, I j), some (0, IM (f :: rest)), some (0, IL f), some (0, IL row), some (0, I p.1), some (0, I p.2)], rfl, rfl, 0, by
        have hp2 := (h.2 f hfm).2 p.2 (List.of_mem_zip hp).2
        have hg := (h.2 row hB).2 _ (getD_mem (r := row) (j := j) (by rw [(h.2 row hB).1]; exact hj))
        have am : okMul p.2 (row.getD j 0) = true := okMul_small (by omega) (by omega)
        simp [ix row hB, am, -List.getD_eq_getElem?_getD], by simp⟩
    rw [hc]
    simp
  have hc := comp_map1 (kc := 0) (it := fun ρ => some ((B.eraseIdx k).map IL, ρ.set 1 none)) (tg := tName 5) (x := mComp 0 (iZipM (mCons 0 (mO (oVar 5)) (mCons 0 (mO (oVar 4)) mNil))) (tTupT 2 (tsCons (tName 6) (tsCons (tName 7) tsNil))) tYesM (mP (pBin dMod (pCall dInt (pCons (pBin dAdd (pVar 6) (pBin dMul (pVar 7) (pBin dIx (pVar 5) (pVar 2)))) pNil)) (pC (.int 2)))) [6, 7]) (own := [5])
    (ρ := [r0, some (1, IM (B.eraseIdx k)), some (0, I j), some (0, IM (f :: rest)), some (0, IL f), none, none, none])
    (ρ1 := [r0, none, some (0, I j), some (0, IM (f :: rest)), some (0, IL f), none, none, none])
    (ρ0 := [r0, none, some (0, I j), some (0, IM (f :: rest)), some (0, IL f), none, none, none])
    (B.eraseIdx k) IL (fun row => IL ((row.zip f).map fun p => (p.1 + p.2 * row.getD j 0) % 2)) rfl (by have := len_erase B k; have := h.1; omega) rfl fun row hrow => ⟨[r0, none, some (0, I j), some (0, IM (f :: rest)), some (0, IL f), some (0, IL row), none, none], rfl, rfl, 1, hin row hrow, by simp⟩
  rw [e_sAsg, compH_of rfl hc rfl]
  simp [nextB, hk, -List.getD_eq_getElem?_getD, Function.comp_def]
theorem bits_product_ok {m : Nat} {M : List (List Int)} (hM : M.length = m) (hr : ∀ r ∈ M, r.length = m) (hm : m ≤ 8) (he : elimB (List.range m) (M.map fun r => r.map (· % 2)) = true) : F__law_bits_product [IM M] = some (0, I 1) := by
  have loop : ∀ (js : List Nat) (B : List (List Int)) (o a b : Option Cell), bitB m B → (∀ j ∈ js, j < m) → elimB js B = true → ∃ B' o' a' b', mLoop (tName 2) (sSeq (sAsg 3 (mFz (mCompH 0 1 (tName 5) (mtP (pB (pBin dEq (pBin dIx (pVar 5) (pVar 2)) (pC (.int 1))))) (mO (oVar 5)) [5])))
    (sSeq (sIf (mtV (mBin dEq (mO (oVar 3)) (mLst 0 mNil))) (sRet (mP (pC (.int 0)))) sNx)
    (sSeq (sAsg 4 (mO (oIx (oVar 3) (pC (.int 0)))))
    (sSeq (sRem0 1 (mO (oVar 4)))
    (sAsg 1 (mCompH 0 1 (tName 5) tYesM (mComp 0 (iZipM (mCons 0 (mO (oVar 5)) (mCons 0 (mO (oVar 4)) mNil))) (tTupT 2 (tsCons (tName 6) (tsCons (tName 7) tsNil))) tYesM (mP (pBin dMod (pCall dInt (pCons (pBin dAdd (pVar 6) (pBin dMul (pVar 7) (pBin dIx (pVar 5) (pVar 2)))) pNil)) (pC (.int 2)))) [6, 7]) [5])))))) (js.map fun j : Nat => D.int (j : Int)) [some (0, IM M), some (1, IM B), o, a, b, none, none, none] = some (.nx [some (0, IM M), some (1, IM B'), o', a', b', none, none, none]) := by
    intro js
    induction js with
    | nil => exact fun B o a b _ _ _ => ⟨B, o, a, b, rfl⟩
    | cons j js ih =>
      intro B o a b hB hj he
      unfold elimB at he
      split at he
      · cases he
      · rename_i f rest hf
        have hfm : f ∈ B := (List.mem_filter.mp (hf ▸ List.mem_cons_self)).1
        obtain ⟨B', o', a', b', e⟩ := ih (nextB B j f) (some (0, I j)) (some (0, IM (f :: rest))) (some (0, IL f)) (hB.next hfm j) (fun i hi => hj i (List.mem_cons_of_mem _ hi)) he
        refine ⟨B', o', a', b', ?_⟩
        rw [List.map_cons]
        simp only [mLoop, e_tName, List.set_cons_succ, List.set_cons_zero]
        rw [bits_step hB (hj j List.mem_cons_self) hm hf]
        exact e
  have c0 := comp_map1 (kc := 0) (it := iSeq (mO (oVar 0))) (tg := tName 5) (x := mComp 0 (iSeq (mO (oVar 5))) (tName 6) tYesM (mP (pBin dMod (pCall dInt (pCons (pVar 6) pNil)) (pC (.int 2)))) [6]) (own := [5])
    (ρ := [some (0, IM M), none, none, none, none, none, none, none]) (ρ1 := [some (0, IM M), none, none, none, none, none, none, none]) (ρ0 := [some (0, IM M), none, none, none, none, none, none, none])
    M IL (fun r => IL (r.map (· % 2))) (by simp) (by omega) rfl fun r hrm => ⟨[some (0, IM M), none, none, none, none, some (0, IL r), none, none], rfl, rfl, 1, by
      have hc := comp_map1 (kc := 0) (it := iSeq (mO (oVar 5))) (tg := tName 6) (x := mP (pBin dMod (pCall dInt (pCons (pVar 6) pNil)) (pC (.int 2)))) (own := [6])
        (ρ := [some (0, IM M), none, none, none, none, some (0, IL r), none, none]) (ρ1 := [some (0, IM M), none, none, none, none, some (0, IL r), none, none]) (ρ0 := [some (0, IM M), none, none, none, none, some (0, IL r), none, none])
        r D.int (fun x => I (x % 2)) (by simp) (by have := hr r hrm; omega) rfl fun x hx => ⟨[some (0, IM M), none, none, none, none, some (0, IL r), some (0, I x), none], rfl, rfl, 0, by simp, by simp⟩
      rw [hc]
      simp [Function.comp_def], by simp⟩
  have hb : bitB m (M.map fun r => r.map (· % 2)) := by
    refine ⟨by rw [List.length_map]; omega, fun r hrm => ?_⟩
    rw [List.mem_map] at hrm
    obtain ⟨r, hrm, rfl⟩ := hrm
    refine ⟨by rw [List.length_map, hr r hrm], fun x hx => ?_⟩
    rw [List.mem_map] at hx
    obtain ⟨y, _, rfl⟩ := hx
    omega
  obtain ⟨B', o', a', b', el⟩ := loop (List.range m) _ none none none hb (fun j hj => List.mem_range.mp hj) he
  refine run0_rt (ρ := [some (0, IM M), none, none, none, none, none, none, none]) (ρ' := [some (0, IM M), some (1, IM B'), o', a', b', none, none, none]) rfl ?_
  unfold m__law_bits_product
  rw [seq_nx (ρ1 := [some (0, IM M), some (1, IM (M.map fun r => r.map (· % 2))), none, none, none, none, none, none]) (by
    rw [e_sAsg, c0]
    simp [Function.comp_def])]
  have hit : iRange (mCons 0 (mP (pCall dLen (pCons (pVar 0) pNil))) mNil) [some (0, IM M), some (1, IM (M.map fun r => r.map (· % 2))), none, none, none, none, none, none] = some ((List.range m).map fun j : Nat => D.int (j : Int), [some (0, IM M), some (1, IM (M.map fun r => r.map (· % 2))), none, none, none, none, none, none]) := by
    rw [e_rg1 (j := m) (ρ1 := [some (0, IM M), some (1, IM (M.map fun r => r.map (· % 2))), none, none, none, none, none, none]) (by simp [hM]), okRng_nat (by omega)]
    simp [rng0]
  rw [seq_nx (for_nx hit el)]
  simp

/-! ### a square and a pair -/
def cl1 (s o k : Int) : List (List Int) := if k = 2 then [[1, 1, 0], [0 - s, 0, o], [0 - 2 * s, o, 0]] else [[1, 1, 1], [0 - s, o, 0], [0 - s, 0, o]]
def cl2 (b k : Int) : List (List Int) := [[1, 0, 1], [0, 1, 1], [b, b, 1 + k]]
def pm (p k : Int) : List (List Int) := [[p * k, p], [p, p * k]]
def ov (M : List (List Int)) (i j : Nat) : Int := lm M j i
def fm1 (L H o k : Int) : Nat → Nat → Int := bs 1 (lm [[L * o]]) (lm (pm H k))
def fm2 (L H o k : Int) : Nat → Nat → Int := bs 2 (lm (pm L k)) (lm [[H * o]])
/-- the form by a change -/
def chg (n : Nat) (f c : Nat → Nat → Int) : Nat → Nat → Int := pr n (pr n (fun i j => c j i) f) c
theorem form_of_pair (h : Nat) (k : Int) (hh : h ≤ 100) (hk : k = 0 ∨ k = 2) : F_form_of_piece [.tup [I h, I k]] = some (1, IM (pm (2 ^ h) k)) := by
  have e := power_N h (by omega)
  have b := p2_bd h
  have am : okMul (2 ^ h) k = true := okMul_b b (show k.natAbs < 2 ^ 3 by omega) (by omega)
  have hk2 : ¬ (k % 2 = 1) := by omega
  generalize (2 : Int) ^ h = p at *
  refine run0_rt (ρ := [some (0, .tup [I h, I k]), none]) (ρ' := [some (0, .tup [I h, I k]), some (0, I p)]) rfl ?_
  unfold m_form_of_piece
  rw [seq_nx (ρ1 := [some (0, .tup [I h, I k]), some (0, I p)]) (by simp [atI, ixN, itC, e])]
  rw [seq_nx (ρ1 := [some (0, .tup [I h, I k]), some (0, I p)]) (by simp [atI, ixN, itC, hk2])]
  simp [atI, ixN, itC, am, pm]
theorem law_pair_ok (h : Nat) (k : Int) (hh : h ≤ 100) (hk : k = 0 ∨ k = 2) : F__law_pair [I h, I k] = some (1, IM (pm (2 ^ h) k)) := by
  have e := law_power_ok h (by omega)
  have b := p2_bd h
  have am : okMul (2 ^ h) k = true := okMul_b b (show k.natAbs < 2 ^ 3 by omega) (by omega)
  generalize (2 : Int) ^ h = p at *
  simp [F__law_pair, m__law_pair, e, am, pm]
theorem mem_bd {k : Nat} {M : List (List Int)} (h : (M.all fun r => r.all fun x => decide (x.natAbs < 2 ^ k)) = true) : ∀ r ∈ M, ∀ x ∈ r, x.natAbs < 2 ^ k := by
  simpa [List.all_eq_true] using h
theorem smallM.bs {n m k : Nat} {f g : Nat → Nat → Int} (h1 : smallM n k f) (h2 : smallM m k g) : smallM (n + m) k (bs n f g) := fun i hi j hj => by
  have hp : 0 < 2 ^ k := Nat.pow_pos (by decide)
  unfold Mn.bs
  split
  · split
    · exact h1 i (by omega) j (by omega)
    · simpa using hp
  · split
    · simpa using hp
    · exact h2 (i - n) (by omega) (j - n) (by omega)
theorem cl1_bd {s o k : Int} (bs : s.natAbs < 2 ^ 70) (bo : o.natAbs < 2 ^ 200) : smallM 3 210 (ov (cl1 s o k)) := by
  refine smallM.tr (smallM_lm fun r hr x hx => ?_)
  unfold cl1 at hr
  split at hr <;> simp only [List.mem_cons, List.not_mem_nil, or_false] at hr <;> rcases hr with rfl | rfl | rfl <;> simp only [List.mem_cons, List.not_mem_nil, or_false] at hx <;> rcases hx with rfl | rfl | rfl <;> omega
theorem cl2_bd {b k : Int} (bb : b.natAbs < 2 ^ 280) (hk : k = 0 ∨ k = 2) : smallM 3 290 (ov (cl2 b k)) := by
  refine smallM.tr (smallM_lm fun r hr x hx => ?_)
  simp only [cl2, List.mem_cons, List.not_mem_nil, or_false] at hr
  rcases hr with rfl | rfl | rfl <;> simp only [List.mem_cons, List.not_mem_nil, or_false] at hx <;> rcases hx with rfl | rfl | rfl <;> omega
theorem pm_bd {h : Nat} {k : Int} (hh : h ≤ 64) (hk : k = 0 ∨ k = 2) : smallM 2 290 (lm (pm (2 ^ h) k)) := by
  have b := sm_up (p2_bd h) (show h + 1 ≤ 65 by omega)
  generalize (2 : Int) ^ h = p at *
  refine smallM_lm fun r hr x hx => ?_
  simp only [pm, List.mem_cons, List.not_mem_nil, or_false] at hr
  rcases hk with rfl | rfl <;> rcases hr with rfl | rfl <;> simp only [List.mem_cons, List.not_mem_nil, or_false] at hx <;> rcases hx with rfl | rfl <;> omega
theorem one_bd {h : Nat} {o : Int} (hh : h ≤ 64) (bo : o.natAbs < 2 ^ 200) : smallM 1 290 (lm [[2 ^ h * o]]) := by
  refine smallM_lm fun r hr x hx => ?_
  simp only [List.mem_cons, List.not_mem_nil, or_false] at hr
  subst hr
  simp only [List.mem_cons, List.not_mem_nil, or_false] at hx
  subst hx
  exact sm_up (sm_mul (p2_bd h) bo) (by omega)
theorem fm1_bd {l h : Nat} {o k : Int} (hl : l ≤ 64) (hh : h ≤ 64) (bo : o.natAbs < 2 ^ 200) (hk : k = 0 ∨ k = 2) : smallM 3 290 (fm1 (2 ^ l) (2 ^ h) o k) := smallM.bs (n := 1) (m := 2) (one_bd hl bo) (pm_bd hh hk)
theorem fm2_bd {l h : Nat} {o k : Int} (hl : l ≤ 64) (hh : h ≤ 64) (bo : o.natAbs < 2 ^ 200) (hk : k = 0 ∨ k = 2) : smallM 3 290 (fm2 (2 ^ l) (2 ^ h) o k) := smallM.bs (n := 2) (m := 1) (pm_bd hl hk) (one_bd hh bo)
theorem block1 {l h : Nat} {o k : Int} : F_block_sum [IM [[2 ^ l * o]], IM (pm (2 ^ h) k)] = some (1, IM (mat 3 (fm1 (2 ^ l) (2 ^ h) o k))) := block_sum_mat 1 2 (lm [[2 ^ l * o]]) (lm (pm (2 ^ h) k)) (by omega) (by omega)
theorem block2 {l h : Nat} {o k : Int} : F_block_sum [IM (pm (2 ^ l) k), IM [[2 ^ h * o]]] = some (1, IM (mat 3 (fm2 (2 ^ l) (2 ^ h) o k))) := block_sum_mat 2 1 (lm (pm (2 ^ l) k)) (lm [[2 ^ h * o]]) (by omega) (by omega)
theorem lblock1 {l h : Nat} {o k : Int} : F__law_beside [IM [[2 ^ l * o]], IM (pm (2 ^ h) k)] = some (1, IM (mat 3 (fm1 (2 ^ l) (2 ^ h) o k))) := law_beside_mat 1 2 (lm [[2 ^ l * o]]) (lm (pm (2 ^ h) k)) (by omega) (by omega)
theorem lblock2 {l h : Nat} {o k : Int} : F__law_beside [IM (pm (2 ^ l) k), IM [[2 ^ h * o]]] = some (1, IM (mat 3 (fm2 (2 ^ l) (2 ^ h) o k))) := law_beside_mat 2 1 (lm (pm (2 ^ l) k)) (lm [[2 ^ h * o]]) (by omega) (by omega)
theorem cl1_mat (s o k : Int) : mat 3 (lm (cl1 s o k)) = cl1 s o k := by
  unfold cl1
  split <;> rfl
theorem turned_cl1 (s o k : Int) : F_turned_over [IM (cl1 s o k)] = some (2, IM (mat 3 (ov (cl1 s o k)))) := by
  have := turned_over_mat 3 (lm (cl1 s o k)) (by omega) (by omega)
  rw [cl1_mat] at this
  exact this
theorem lturned_cl1 (s o k : Int) : F__law_over [IM (cl1 s o k)] = some (1, IM (mat 3 (ov (cl1 s o k)))) := by
  have := law_over_mat 3 (lm (cl1 s o k)) (by omega) (by omega)
  rw [cl1_mat] at this
  exact this
theorem turned_cl2 (b k : Int) : F_turned_over [IM (cl2 b k)] = some (2, IM (mat 3 (ov (cl2 b k)))) := turned_over_mat 3 (lm (cl2 b k)) (by omega) (by omega)
theorem lturned_cl2 (b k : Int) : F__law_over [IM (cl2 b k)] = some (1, IM (mat 3 (ov (cl2 b k)))) := law_over_mat 3 (lm (cl2 b k)) (by omega) (by omega)
theorem square_beside_pair_ok (l h : Nat) (o k : Int) (hl : l ≤ h) (hh : h ≤ 64) (ho : o % 2 = 1) (hk : k = 0 ∨ k = 2) (bo : o.natAbs < 2 ^ 200) :
    F_square_beside_pair [I l, I o, I h, I k] = some (3, .tup [IM (mat 3 (ov (cl1 (2 ^ (h - l)) o k))), IM (mat 3 (chg 3 (fm1 (2 ^ l) (2 ^ h) o k) (ov (cl1 (2 ^ (h - l)) o k))))]) := by
  have hc : (h : Int) - l = ((h - l : Nat) : Int) := by omega
  have c1 := check_number_I l 0 64 (by omega) (by omega)
  have c2 := check_number_I h l 64 (by omega) (by omega)
  have c3 := check_odd_I o ho
  have c4 := check_kind_I k hk
  have hw := power_N (h - l) (by omega)
  have hpl := power_N l (by omega)
  have b0 := sm_up (p2_bd (h - l)) (show h - l + 1 ≤ 70 by omega)
  have ml : okMul (2 ^ l) o = true := okMul_b (p2_bd l) bo (by omega)
  have hb := block1 (l := l) (h := h) (o := o) (k := k)
  have hf := form_of_pair h k (by omega) hk
  have hch := changed_by_mat 3 290 210 (fm1 (2 ^ l) (2 ^ h) o k) (ov (cl1 (2 ^ (h - l)) o k)) (by omega) (by omega) (fm1_bd (by omega) hh bo hk) (cl1_bd b0 bo) (by omega)
  have ht := turned_cl1 (2 ^ (h - l)) o k
  have m2 : okMul 2 (2 ^ (h - l)) = true := okMul_b (a := 3) (by omega) b0 (by omega)
  generalize hS : (2 : Int) ^ (h - l) = s at *
  generalize hL : (2 : Int) ^ l = L at *
  generalize hH : (2 : Int) ^ h = H at *
  let Fr : Mn.Env → Mn.Env := fun r => some (0, I l) :: some (0, I o) :: some (0, I h) :: some (0, I k) :: r
  refine run0_rt (ρ := Fr [none, none, none]) (ρ' := Fr [some (0, I s), some (0, IM (cl1 s o k)), none]) rfl ?_
  unfold m_square_beside_pair
  rw [seq_nx (ρ1 := Fr [none, none, none]) (by simp [Fr, c1])]
  rw [seq_nx (ρ1 := Fr [none, none, none]) (by simp [Fr, c3])]
  rw [seq_nx (ρ1 := Fr [none, none, none]) (by simp [Fr, c2])]
  rw [seq_nx (ρ1 := Fr [none, none, none]) (by simp [Fr, c4])]
  rw [seq_nx (ρ1 := Fr [some (0, I s), none, none]) (by simp [Fr, hc, hw])]
  rw [seq_nx (ρ1 := Fr [some (0, I s), some (0, IM (cl1 s o 0)), none]) (by simp [Fr, cl1])]
  rw [seq_nx (ρ1 := Fr [some (0, I s), some (0, IM (cl1 s o k)), none]) (by
    rcases hk with rfl | rfl
    · simp [Fr]
    · simp [Fr, cl1, m2])]
  rw [seq_nx (ρ1 := Fr [some (0, I s), some (0, IM (cl1 s o k)), some (2, IM (mat 3 (ov (cl1 s o k))))]) (by simp [Fr, ht])]
  have dm : dMulG (.int L) (.int o) = some (0, .int (L * o)) := by simp [dMulG, ml]
  have hb' : F_block_sum [.lst [.lst [.int (L * o)]], IM (pm H k)] = some (1, IM (mat 3 (fm1 L H o k))) := hb
  have e1 : mThaw (mCall 2 F_changed_by (mCons 0 (mCall 2 F_block_sum (mCons 0 (mLst 0 (mCons 0 (mLst 0 (mCons 0 (mBinF dMulG (mCall 1 F_power_of_two (mCons 0 (mO (oVar 0)) mNil)) (mO (oVar 1))) mNil)) mNil)) (mCons 0 (mCall 1 F_form_of_piece (mCons 0 (mTup 0 (mCons 0 (mO (oVar 2)) (mCons 0 (mO (oVar 3)) mNil))) mNil)) mNil))) (mCons 0 (mO (oVar 6)) mNil))) (Fr [some (0, I s), some (0, IM (cl1 s o k)), some (2, IM (mat 3 (ov (cl1 s o k))))])
      = some ((2, IM (mat 3 (chg 3 (fm1 L H o k) (ov (cl1 s o k))))), Fr [some (0, I s), some (0, IM (cl1 s o k)), some (2, IM (mat 3 (ov (cl1 s o k))))]) := by
    simp [Fr, hpl, dm, hf, hb', hch, chg]
  rw [e_sRet, e_mTup, e_mConsL]
  simp only [e_mCons, e1]
  simp [Fr]

theorem pair_beside_square_ok (l h : Nat) (o k : Int) (hl : l < h) (hh : h ≤ 64) (ho : o % 2 = 1) (hk : k = 0 ∨ k = 2) (bo : o.natAbs < 2 ^ 200) :
    F_pair_beside_square [I l, I k, I h, I o] = some (3, .tup [IM (mat 3 (ov (cl2 (0 - 2 ^ (h - l) * o) k))), IM (mat 3 (chg 3 (fm2 (2 ^ l) (2 ^ h) o k) (ov (cl2 (0 - 2 ^ (h - l) * o) k))))]) := by
  have hc : (h : Int) - l = ((h - l : Nat) : Int) := by omega
  have c1 := check_number_I l 0 64 (by omega) (by omega)
  have c2 := check_number_I h (l + 1) 64 (by omega) (by omega)
  have c3 := check_odd_I o ho
  have c4 := check_kind_I k hk
  have hw := power_N (h - l) (by omega)
  have hph := power_N h (by omega)
  have b0 := sm_up (p2_bd (h - l)) (show h - l + 1 ≤ 70 by omega)
  have b1 := sm_mul b0 bo
  have ml : okMul (2 ^ h) o = true := okMul_b (p2_bd h) bo (by omega)
  have ms : okMul (2 ^ (h - l)) o = true := okMul_b b0 bo (by omega)
  have hb := block2 (l := l) (h := h) (o := o) (k := k)
  have hf := form_of_pair l k (by omega) hk
  have bb : (0 - 2 ^ (h - l) * o).natAbs < 2 ^ 280 := by
    have := sm_up b1 (show 70 + 200 ≤ 280 by omega)
    omega
  have hch := changed_by_mat 3 290 290 (fm2 (2 ^ l) (2 ^ h) o k) (ov (cl2 (0 - 2 ^ (h - l) * o) k)) (by omega) (by omega) (fm2_bd (by omega) hh bo hk) (cl2_bd bb hk) (by omega)
  have ht := turned_cl2 (0 - 2 ^ (h - l) * o) k
  have hq : cl2 (0 - 2 ^ (h - l) * o) k = [[1, 0, 1], [0, 1, 1], [0 - 2 ^ (h - l) * o, 0 - 2 ^ (h - l) * o, k + 1]] := by
    unfold cl2
    rw [Int.add_comm 1 k]
  have ht' : F_turned_over [.lst [.lst [.int 1, .int 0, .int 1], .lst [.int 0, .int 1, .int 1], .lst [.int (0 - 2 ^ (h - l) * o), .int (0 - 2 ^ (h - l) * o), .int (k + 1)]]] = some (2, IM (mat 3 (ov (cl2 (0 - 2 ^ (h - l) * o) k)))) := by
    rw [← ht, hq]
    rfl
  generalize hS : (2 : Int) ^ (h - l) = s at *
  generalize hL : (2 : Int) ^ l = L at *
  generalize hH : (2 : Int) ^ h = H at *
  generalize hB : 0 - s * o = b at *
  let Fr : Mn.Env → Mn.Env := fun r => some (0, I l) :: some (0, I k) :: some (0, I h) :: some (0, I o) :: r
  refine run0_rt (ρ := Fr [none, none]) (ρ' := Fr [some (0, I b), none]) rfl ?_
  unfold m_pair_beside_square
  rw [seq_nx (ρ1 := Fr [none, none]) (by simp [Fr, c1])]
  rw [seq_nx (ρ1 := Fr [none, none]) (by simp [Fr, c4])]
  rw [seq_nx (ρ1 := Fr [none, none]) (by simp [Fr, c2])]
  rw [seq_nx (ρ1 := Fr [none, none]) (by simp [Fr, c3])]
  have dms : dMulG (.int s) (.int o) = some (0, .int (s * o)) := by simp [dMulG, ms]
  rw [Int.zero_sub] at hB
  rw [seq_nx (ρ1 := Fr [some (0, I b), none]) (by simp [Fr, hc, hw, dms, hB])]
  rw [seq_nx (ρ1 := Fr [some (0, I b), some (2, IM (mat 3 (ov (cl2 b k))))]) (by simp [Fr, ht'])]
  have dm : dMulG (.int H) (.int o) = some (0, .int (H * o)) := by simp [dMulG, ml]
  have hb' : F_block_sum [IM (pm L k), .lst [.lst [.int (H * o)]]] = some (1, IM (mat 3 (fm2 L H o k))) := hb
  have e1 : mThaw (mCall 2 F_changed_by (mCons 0 (mCall 2 F_block_sum (mCons 0 (mCall 1 F_form_of_piece (mCons 0 (mTup 0 (mCons 0 (mO (oVar 0)) (mCons 0 (mO (oVar 1)) mNil))) mNil)) (mCons 0 (mLst 0 (mCons 0 (mLst 0 (mCons 0 (mBinF dMulG (mCall 1 F_power_of_two (mCons 0 (mO (oVar 2)) mNil)) (mO (oVar 3))) mNil)) mNil)) mNil))) (mCons 0 (mO (oVar 5)) mNil))) (Fr [some (0, I b), some (2, IM (mat 3 (ov (cl2 b k))))])
      = some ((2, IM (mat 3 (chg 3 (fm2 L H o k) (ov (cl2 b k))))), Fr [some (0, I b), some (2, IM (mat 3 (ov (cl2 b k))))]) := by
    simp [Fr, hph, dm, hf, hb', hch, chg]
  rw [e_sRet, e_mTup, e_mConsL]
  simp only [e_mCons, e1]
  simp [Fr]
/-! ### what is made -/
def q1 (s o k : Int) : Int := if k = 2 then 6 * s * (o * o * o) + 3 * (o * o * (o * o)) else 0 - (2 * s * (o * o * o) + o * o * (o * o))
theorem made1 (L s o k : Int) (hk : k = 0 ∨ k = 2) : ∃ b c d, mat 3 (chg 3 (fm1 L (L * s) o k) (ov (cl1 s o k))) = [[L * (o + 2 * s), 0, 0], [0, b, c], [0, c, d]] ∧ b * d - c * c = L * s * (L * s) * q1 s o k := by
  rcases hk with rfl | rfl
  · refine ⟨s * s * (L * o), s * s * (L * o) + L * s * (o * o), s * s * (L * o), ?_, ?_⟩
    · simp [mat3, chg, pr, sm3, ov, lm, fm1, bs, pm, cl1]
      grind
    · simp [q1]
      grind
  · refine ⟨s * s * (L * o) + 2 * (L * s) * (o * o), 2 * (s * s) * (L * o) + L * s * (o * o), 4 * (s * s) * (L * o) + 2 * (L * s) * (o * o), ?_, ?_⟩
    · simp [mat3, chg, pr, sm3, ov, lm, fm1, bs, pm, cl1]
      grind
    · simp [q1]
      grind
def q2 (s o k : Int) : Int := if k = 2 then 3 + 2 * s * o else 0 - (1 + 2 * s * o)
def e2 (s o k : Int) : Int := if k = 2 then 6 * s * (o * o) + 9 * o else 2 * s * (o * o) + o
theorem made2 (L s o k : Int) (hk : k = 0 ∨ k = 2) : ∃ b c d, mat 3 (chg 3 (fm2 L (L * s) o k) (ov (cl2 (0 - s * o) k))) = [[b, c, 0], [c, d, 0], [0, 0, L * s * e2 s o k]] ∧ b * d - c * c = L * L * q2 s o k := by
  rcases hk with rfl | rfl
  · refine ⟨L * s * o, L + L * s * o, L * s * o, ?_, ?_⟩
    · simp [mat3, chg, pr, sm3, ov, lm, fm2, bs, pm, cl2, e2]
      grind
    · simp [q2]
      grind
  · refine ⟨2 * L + L * s * o, L + L * s * o, 2 * L + L * s * o, ?_, ?_⟩
    · simp [mat3, chg, pr, sm3, ov, lm, fm2, bs, pm, cl2, e2]
      grind
    · simp [q2]
      grind
theorem odd8 {o : Int} (h : o % 2 = 1) : ∃ t, o * o = 8 * t + 1 := by
  obtain ⟨m, rfl⟩ : ∃ m, o = 2 * m + 1 := ⟨o / 2, by omega⟩
  have : m * (m + 1) % 2 = 0 := by
    rcases (show m % 2 = 0 ∨ m % 2 = 1 by omega) with e | e
    · rw [Int.mul_emod, e]; simp
    · rw [Int.mul_emod, show (m + 1) % 2 = 0 by omega]; simp
  refine ⟨m * (m + 1) / 2, ?_⟩
  have e : (2 * m + 1) * (2 * m + 1) = 4 * (m * (m + 1)) + 1 := by grind
  rw [e]
  omega
theorem q1_8 {o k : Int} (h : o % 2 = 1) (hk : k = 0 ∨ k = 2) : q1 2 o k % 8 = if k = 0 then 3 else 7 := by
  obtain ⟨t, ht⟩ := odd8 h
  have e3 : o * o * o = 8 * (t * o) + o := by rw [ht]; grind
  have e4 : o * o * (o * o) = 64 * (t * t) + 16 * t + 1 := by rw [ht]; grind
  rcases hk with rfl | rfl
  · simp only [q1, e3, e4]
    simp
    omega
  · simp only [q1, e3, e4]
    simp
    omega
theorem q2_8 {o k : Int} (h : o % 2 = 1) (hk : k = 0 ∨ k = 2) : q2 2 o k % 8 = if k = 0 then 3 else 7 := by
  rcases hk with rfl | rfl
  · simp [q2]; omega
  · simp [q2]; omega
theorem e2_8 {o k : Int} (h : o % 2 = 1) (hk : k = 0 ∨ k = 2) : (e2 2 o k - 5 * o) % 8 = 0 := by
  obtain ⟨t, ht⟩ := odd8 h
  rcases hk with rfl | rfl
  · simp only [e2, ht]; simp; omega
  · simp only [e2, ht]; simp; omega
theorem turned_pair_ok (b c c' d q : Int) (h k : Nat) (hh : h ≤ 64) (hk : k ≤ 10000) (b1 : b.natAbs < 2 ^ k) (b2 : c.natAbs < 2 ^ k) (b3 : c'.natAbs < 2 ^ k) (b4 : d.natAbs < 2 ^ k) (e : b * d - c * c' = 2 ^ h * 2 ^ h * q) :
    F__law_turned_pair [IM [[b, c], [c', d]], I h] = some (0, I (q % 8)) := by
  have m1 : okMul b d = true := okMul_b b1 b4 (by omega)
  have m2 : okMul c c' = true := okMul_b b2 b3 (by omega)
  have m3 : okMul 2 (h : Int) = true := okMul_small (by decide) (by omega)
  have hp := law_power_ok (2 * h) (by omega)
  rw [show ((2 * h : Nat) : Int) = 2 * (h : Int) by omega, show (2 : Int) ^ (2 * h) = 2 ^ h * 2 ^ h by rw [← Int.pow_add]; congr 1; omega] at hp
  have p0 := p2_pos h
  have bp := p2_bd h
  generalize (2 : Int) ^ h = H at *
  have hH : 0 < H * H := Int.mul_pos p0 p0
  have bH := sm_mul bp bp
  have be : (H * H * q).natAbs < 2 ^ (k + k + 1) := by
    rw [← e]
    have x1 := sm_mul b1 b4
    have x2 := sm_mul b2 b3
    rw [Nat.pow_succ]
    generalize 2 ^ (k + k) = z at *
    omega
  have hd : okDiv (H * H) = true := by
    unfold okDiv
    rw [Bool.and_eq_true, decide_eq_true_eq, decide_eq_true_eq]
    exact ⟨by omega, Nat.lt_of_lt_of_le (log2_lt bH (by omega)) (by omega)⟩
  have hf : fd (H * H * q) (H * H) = q := by rw [fd_pos hH, Int.mul_ediv_cancel_left _ (by omega)]
  refine run0_rt (ρ := [some (0, IM [[b, c], [c', d]]), some (0, I h), none]) (ρ' := [some (0, IM [[b, c], [c', d]]), some (0, I h), some (0, I (H * H * q))]) rfl ?_
  unfold m__law_turned_pair
  rw [seq_nx (ρ1 := [some (0, IM [[b, c], [c', d]]), some (0, I h), some (0, I (H * H * q))]) (by simp [atI, ixN, m1, m2, e])]
  simp [m3, hp, hd, hf]
theorem Rok_mat {n k : Nat} {f : Nat → Nat → Int} (hn : n ≤ 8) (h : smallM n k f) : Rok k 2 (IM (mat n f)) := by
  refine ⟨by simpa using hn, fun d hd => ?_⟩
  rw [List.mem_map] at hd
  obtain ⟨r, hr, rfl⟩ := hd
  refine ⟨by have := mat_row hr; simp [this, hn], fun x hx => ?_⟩
  rw [List.mem_map] at hx
  obtain ⟨y, hy, rfl⟩ := hx
  simp only [mat, List.mem_map, List.mem_range] at hr
  obtain ⟨i, hi, rfl⟩ := hr
  simp only [List.mem_map, List.mem_range] at hy
  obtain ⟨j, hj, rfl⟩ := hy
  exact h i hi j hj
theorem chg_bd {n a b : Nat} {f c : Nat → Nat → Int} (hf : smallM n a f) (hc : smallM n b c) (hn : n ≤ 8) : smallM n (b + a + 4 + b + 4) (chg n f c) := (hc.tr.pr hf hn).pr hc hn

/-! ### the law's looks at these -/
theorem bits1 (s o k : Int) (ho : o % 2 = 1) (hk : k = 0 ∨ k = 2) : F__law_bits_product [IM (mat 3 (ov (cl1 s o k)))] = some (0, I 1) := by
  refine bits_product_ok (m := 3) (by simp) (fun r hr => mat_row hr) (by omega) ?_
  rcases hk with rfl | rfl
  · have e : (mat 3 (ov (cl1 s o 0))).map (fun r => r.map (· % 2)) = [[1, (-s) % 2, (-s) % 2], [1, 1, 0], [1, 0, 1]] := by
      simp [mat3, ov, lm, cl1, ho]
    rw [e]
    rcases (show (-s) % 2 = 0 ∨ (-s) % 2 = 1 by omega) with z | z <;> rw [z] <;> decide
  · have e : (mat 3 (ov (cl1 s o 2))).map (fun r => r.map (· % 2)) = [[1, (-s) % 2, 0], [1, 0, 1], [0, 1, 0]] := by
      simp [mat3, ov, lm, cl1, ho]
    rw [e]
    rcases (show (-s) % 2 = 0 ∨ (-s) % 2 = 1 by omega) with z | z <;> rw [z] <;> decide
theorem bits2 (b k : Int) (hb : b % 2 = 0) (hk : k = 0 ∨ k = 2) : F__law_bits_product [IM (mat 3 (ov (cl2 b k)))] = some (0, I 1) := by
  refine bits_product_ok (m := 3) (by simp) (fun r hr => mat_row hr) (by omega) ?_
  have e : (mat 3 (ov (cl2 b k))).map (fun r => r.map (· % 2)) = [[1, 0, 0], [0, 1, 0], [1, 1, 1]] := by
    have : (1 + k) % 2 = 1 := by omega
    simp [mat3, ov, lm, cl2, hb, this]
  rw [e]
  decide
theorem cut31 (x y z : D) : cutD [x, y, z] (some 1) none = [y, z] := rfl
theorem cut32 (x y z : D) : cutD [x, y, z] none (some 2) = [x, y] := rfl
theorem first_right_ok (d0 : D) (l h : Nat) (o k : Int) (hl : l ≤ h) (hh : h ≤ 64) (ho : o % 2 = 1) (hk : k = 0 ∨ k = 2) (bo : o.natAbs < 2 ^ 200) : F__law_first_right [d0, I l, I h, I o, I k] = some (0, .bl true) := by
  have hc : (h : Int) - l = ((h - l : Nat) : Int) := by omega
  have hpe := law_power_ok (h - l) (by omega)
  have hpl := law_power_ok l (by omega)
  have b0 := sm_up (p2_bd (h - l)) (show h - l + 1 ≤ 70 by omega)
  have bl := p2_bd l
  have ml : okMul (2 ^ l) o = true := okMul_b bl bo (by omega)
  have hp := law_pair_ok h k (by omega) hk
  have hb := lblock1 (l := l) (h := h) (o := o) (k := k)
  have fb := fm1_bd (l := l) (h := h) (o := o) (k := k) (by omega) hh bo hk
  have cb := cl1_bd (s := 2 ^ (h - l)) (o := o) (k := k) b0 bo
  have hch := law_changed_mat 3 290 210 (fm1 (2 ^ l) (2 ^ h) o k) (ov (cl1 (2 ^ (h - l)) o k)) (by omega) (by omega) fb cb (by omega)
  have ht := lturned_cl1 (2 ^ (h - l)) o k
  have hT := square_beside_pair_ok l h o k hl hh ho hk bo
  have m2 : okMul 2 (2 ^ (h - l)) = true := okMul_b (a := 3) (by omega) b0 (by omega)
  have mb := chg_bd fb cb (by omega)
  have hbits := bits1 (2 ^ (h - l)) o k ho hk
  have r1 := Rok_mat (k := 1800) (by omega) (cb.up (by omega))
  have r2 := Rok_mat (k := 1800) (by omega) (mb.up (by omega))
  have hsame : F__law_same [.lst [IM (mat 3 (ov (cl1 (2 ^ (h - l)) o k))), IM (mat 3 (chg 3 (fm1 (2 ^ l) (2 ^ h) o k) (ov (cl1 (2 ^ (h - l)) o k))))], .lst [IM (mat 3 (ov (cl1 (2 ^ (h - l)) o k))), IM (mat 3 (chg 3 (fm1 (2 ^ l) (2 ^ h) o k) (ov (cl1 (2 ^ (h - l)) o k))))]] = some (0, .bl true) :=
    law_same_ok (k := 1800) (n := 3) (by omega) (by omega) (by omega) ⟨by simp, fun d hd => by
      simp only [List.mem_cons, List.not_mem_nil, or_false] at hd
      rcases hd with rfl | rfl <;> assumption⟩
  have hsame2 : F__law_same [.tup [IM (mat 3 (ov (cl1 (2 ^ (h - l)) o k))), IM (mat 3 (chg 3 (fm1 (2 ^ l) (2 ^ h) o k) (ov (cl1 (2 ^ (h - l)) o k))))], .tup [IM (mat 3 (ov (cl1 (2 ^ (h - l)) o k))), IM (mat 3 (chg 3 (fm1 (2 ^ l) (2 ^ h) o k) (ov (cl1 (2 ^ (h - l)) o k))))]] = some (0, .bl true) :=
    law_same_ok (k := 1800) (n := 3) (by omega) (by omega) (by omega) ⟨by simp, fun d hd => by
      simp only [List.mem_cons, List.not_mem_nil, or_false] at hd
      rcases hd with rfl | rfl <;> assumption⟩
  have hLs : (2 : Int) ^ h = 2 ^ l * 2 ^ (h - l) := by rw [← Int.pow_add, show l + (h - l) = h by omega]
  obtain ⟨b, c, d, hM, hdet⟩ := made1 (2 ^ l) (2 ^ (h - l)) o k hk
  rw [← hLs] at hM hdet
  have bs : ∀ x ∈ [b, c, d], x.natAbs < 2 ^ 1800 := by
    have mb' := mb.up (show 210 + 290 + 4 + 210 + 4 ≤ 1800 by omega)
    have g : ∀ i, i < 3 → ∀ j, j < 3 → (chg 3 (fm1 (2 ^ l) (2 ^ h) o k) (ov (cl1 (2 ^ (h - l)) o k)) i j).natAbs < 2 ^ 1800 := mb'
    rw [mat3] at hM
    simp only [List.cons.injEq, and_true] at hM
    obtain ⟨_, ⟨_, h11, h12⟩, ⟨_, h21, h22⟩⟩ := hM
    intro x hx
    simp only [List.mem_cons, List.not_mem_nil, or_false] at hx
    rcases hx with rfl | rfl | rfl
    · rw [← h11]; exact g 1 (by omega) 1 (by omega)
    · rw [← h12]; exact g 1 (by omega) 2 (by omega)
    · rw [← h22]; exact g 2 (by omega) 2 (by omega)
  have htp := turned_pair_ok b c c d (q1 (2 ^ (h - l)) o k) h 1800 hh (by omega) (bs b (by simp)) (bs c (by simp)) (bs c (by simp)) (bs d (by simp)) hdet
  have hq : h = l + 1 → q1 (2 ^ (h - l)) o k % 8 = if k = 0 then 3 else 7 := fun e => by
    rw [show h - l = 1 by omega]
    exact q1_8 ho hk
  have hs2 : h = l + 1 → (2 : Int) ^ (h - l) = 2 := fun e => by rw [show h - l = 1 by omega]; rfl
  have p0 := p2_pos l
  have bl' := log2_lt (sm_up bl (show l + 1 ≤ 66 by omega)) (by decide)
  obtain ⟨C0, C1, C2, hC⟩ : ∃ C0 C1 C2 : List Int, mat 3 (ov (cl1 (2 ^ (h - l)) o k)) = [C0, C1, C2] := ⟨_, _, _, mat3 _⟩
  have c0l : C0.length = 3 := by
    have : C0 ∈ mat 3 (ov (cl1 (2 ^ (h - l)) o k)) := by rw [hC]; simp
    exact mat_row this
  have chg_eq : ∀ f c, pr 3 (pr 3 (fun i j => c j i) f) c = chg 3 f c := fun _ _ => rfl
  rw [chg_eq] at hch
  generalize hMM : mat 3 (chg 3 (fm1 (2 ^ l) (2 ^ h) o k) (ov (cl1 (2 ^ (h - l)) o k))) = M at *
  generalize hCC : mat 3 (ov (cl1 (2 ^ (h - l)) o k)) = C at *
  generalize hFF : mat 3 (fm1 (2 ^ l) (2 ^ h) o k) = Fm at *
  have hdv : fd (2 ^ l * (o + 2 * 2 ^ (h - l))) (2 ^ l) = o + 2 * 2 ^ (h - l) := by rw [fd_pos p0, Int.mul_ediv_cancel_left _ (by omega)]
  have okd : okDiv (2 ^ l) = true := by
    unfold okDiv
    rw [Bool.and_eq_true, decide_eq_true_eq, decide_eq_true_eq]
    exact ⟨by omega, by omega⟩
  generalize hSS : (2 : Int) ^ (h - l) = s at *
  generalize hLL : (2 : Int) ^ l = L at *
  generalize hHH : (2 : Int) ^ h = H at *
  subst hM hC
  have dm : dMulG (.int L) (.int o) = some (0, .int (L * o)) := by simp [dMulG, ml]
  have hb' : F__law_beside [.lst [.lst [.int (L * o)]], IM (pm H k)] = some (1, IM Fm) := hb
  let Fr : Option Cell → Option Cell → Option Cell → Mn.Env := fun x y z => [some (0, d0), some (0, I l), some (0, I h), some (0, I o), some (0, I k), some (0, I s), some (0, IM (cl1 s o k)), x, y, some (0, IM Fm), z, none]
  refine run0_rt (ρ := [some (0, d0), some (0, I l), some (0, I h), some (0, I o), some (0, I k), none, none, none, none, none, none, none])
    (ρ' := Fr (some (2, .lst [IL (C0 ++ [1]), IL C1, IL C2])) (some (2, .lst [IL [L * (o + 2 * s), 0, 0], IL [0, b, c], IL [0, c, d], I 1])) (some (0, .tup [IM [C0, C1, C2], IM [[L * (o + 2 * s), 0, 0], [0, b, c], [0, c, d]]]))) rfl ?_
  unfold m__law_first_right
  rw [seq_nx (ρ1 := [some (0, d0), some (0, I l), some (0, I h), some (0, I o), some (0, I k), some (0, I s), none, none, none, none, none, none]) (by simp [hc, hpe])]
  rw [seq_nx (ρ1 := [some (0, d0), some (0, I l), some (0, I h), some (0, I o), some (0, I k), some (0, I s), some (0, IM (cl1 s o 0)), none, none, none, none, none]) (by simp [cl1])]
  rw [seq_nx (ρ1 := [some (0, d0), some (0, I l), some (0, I h), some (0, I o), some (0, I k), some (0, I s), some (0, IM (cl1 s o k)), none, none, none, none, none]) (by
    rcases hk with rfl | rfl
    · simp
    · simp [cl1, m2])]
  rw [seq_nx (ρ1 := [some (0, d0), some (0, I l), some (0, I h), some (0, I o), some (0, I k), some (0, I s), some (0, IM (cl1 s o k)), some (2, IM [C0, C1, C2]), some (2, IM [[L * (o + 2 * s), 0, 0], [0, b, c], [0, c, d]]), none, none, none]) (by simp [hT])]
  rw [seq_nx (ρ1 := Fr (some (2, IM [C0, C1, C2])) (some (2, IM [[L * (o + 2 * s), 0, 0], [0, b, c], [0, c, d]])) none) (by simp [Fr, hpl, dm, hp, hb'])]
  rw [seq_nx (ρ1 := Fr (some (2, IM [C0, C1, C2])) (some (2, IM [[L * (o + 2 * s), 0, 0], [0, b, c], [0, c, d]])) none) (by simp [Fr, ht, hch, hsame])]
  rw [seq_nx (ρ1 := Fr (some (2, IM [C0, C1, C2])) (some (2, IM [[L * (o + 2 * s), 0, 0], [0, b, c], [0, c, d]])) none) (by
    have n0 : dNe (.lst [.int 0, .int 0]) (.lst [.int 0, .int 0]) = some (.bl false) := ne_IL [0, 0] [0, 0]
    simp [Fr, atI, ixN, itC, cut31, n0, hbits])]
  rw [seq_nx (ρ1 := Fr (some (2, IM [C0, C1, C2])) (some (2, IM [[L * (o + 2 * s), 0, 0], [0, b, c], [0, c, d]])) none) (by
    by_cases hn : h = l + 1
    · have hq' := hq hn
      have hs := hs2 hn
      subst hs
      have hm8 : (o + 4 - 5 * o) % 8 = 0 := by omega
      have hdv4 : fd (L * (o + 4)) L = o + 4 := hdv
      have e1 : ((h : Int) = l + 1) := by omega
      have mm5 : okMul 5 o = true := okMul_b (a := 4) (by omega) bo (by omega)
      rw [e_sIf]
      have t1 : mtP (pB (pBin dEq (pVar 2) (pBin dAdd (pVar 1) (pC (.int 1))))) (Fr (some (2, IM [C0, C1, C2])) (some (2, IM [[L * (o + 2 * 2), 0, 0], [0, b, c], [0, c, d]])) none) = some (true, Fr (some (2, IM [C0, C1, C2])) (some (2, IM [[L * (o + 2 * 2), 0, 0], [0, b, c], [0, c, d]])) none) := by
        simp [Fr, e1]
      simp only [t1]
      rw [seq_nx (ρ1 := Fr (some (2, IM [C0, C1, C2])) (some (2, IM [[L * (o + 2 * 2), 0, 0], [0, b, c], [0, c, d]])) none) (by
        simp [Fr, atI, ixN, itC, hpl, okd, hdv4, mm5, hm8])]
      have e3 : mComp 0 (iSeq (mSl (mO (oVar 8)) (some (mP (pC (.int 1)))) none)) (tName 11) tYesM (mSl (mO (oVar 11)) (some (mP (pC (.int 1)))) none) [11] (low (Fr (some (2, IM [C0, C1, C2])) (some (2, IM [[L * (o + 2 * 2), 0, 0], [0, b, c], [0, c, d]])) none))
          = some ((1, IM [[b, c], [c, d]]), low (Fr (some (2, IM [C0, C1, C2])) (some (2, IM [[L * (o + 2 * 2), 0, 0], [0, b, c], [0, c, d]])) none)) := by
        simp [Fr, mComp, mCompL, cut31]
      rw [e_sIf, e_mtThaw]
      simp only [e_mtV, e_mBin, e_mCall, e_mCons, e3]
      rcases hk with rfl | rfl
      · simp [Fr, htp, hq']
      · simp [Fr, htp, hq']
    · have e1 : ¬ ((h : Int) = l + 1) := by omega
      simp [Fr, e1])]
  rw [seq_nx (ρ1 := Fr (some (2, IM [C0, C1, C2])) (some (2, .lst [IL [L * (o + 2 * s), 0, 0], IL [0, b, c], IL [0, c, d], I 1])) none) (by simp [Fr, sApp0])]
  rw [seq_nx (ρ1 := Fr (some (2, .lst [IL (C0 ++ [1]), IL C1, IL C2])) (some (2, .lst [IL [L * (o + 2 * s), 0, 0], IL [0, b, c], IL [0, c, d], I 1])) none) (by simp [Fr, sApp, plAt, plIx, D.at, D.put, ixN, c0l])]
  rw [seq_nx (ρ1 := Fr (some (2, .lst [IL (C0 ++ [1]), IL C1, IL C2])) (some (2, .lst [IL [L * (o + 2 * s), 0, 0], IL [0, b, c], IL [0, c, d], I 1])) (some (0, .tup [IM [C0, C1, C2], IM [[L * (o + 2 * s), 0, 0], [0, b, c], [0, c, d]]]))) (by simp [Fr, ht, hch])]
  simp [Fr, permL, hT, hsame2]

theorem second_right_ok (d0 : D) (l h : Nat) (o k : Int) (hl : l < h) (hh : h ≤ 64) (ho : o % 2 = 1) (hk : k = 0 ∨ k = 2) (bo : o.natAbs < 2 ^ 200) : F__law_second_right [d0, I l, I h, I o, I k] = some (0, .bl true) := by
  have hc : (h : Int) - l = ((h - l : Nat) : Int) := by omega
  have hpe := law_power_ok (h - l) (by omega)
  have hph := law_power_ok h (by omega)
  have b0 := sm_up (p2_bd (h - l)) (show h - l + 1 ≤ 70 by omega)
  have b1 := sm_mul b0 bo
  have bh := p2_bd h
  have mh : okMul (2 ^ h) o = true := okMul_b bh bo (by omega)
  have ms : okMul (2 ^ (h - l)) o = true := okMul_b b0 bo (by omega)
  have bb : (0 - 2 ^ (h - l) * o).natAbs < 2 ^ 280 := by
    have := sm_up b1 (show 70 + 200 ≤ 280 by omega)
    omega
  have hev : (0 - 2 ^ (h - l) * o) % 2 = 0 := by
    have : (2 : Int) ^ (h - l) = 2 * 2 ^ (h - l - 1) := by rw [Int.mul_comm, ← Int.pow_succ, show (h - l - 1).succ = h - l by omega]
    rw [this, Int.mul_assoc]
    omega
  have hp := law_pair_ok l k (by omega) hk
  have hb := lblock2 (l := l) (h := h) (o := o) (k := k)
  have fb := fm2_bd (l := l) (h := h) (o := o) (k := k) (by omega) hh bo hk
  have cb := cl2_bd (b := 0 - 2 ^ (h - l) * o) (k := k) bb hk
  have hch := law_changed_mat 3 290 290 (fm2 (2 ^ l) (2 ^ h) o k) (ov (cl2 (0 - 2 ^ (h - l) * o) k)) (by omega) (by omega) fb cb (by omega)
  have ht := lturned_cl2 (0 - 2 ^ (h - l) * o) k
  have hT := pair_beside_square_ok l h o k hl hh ho hk bo
  have mb := chg_bd fb cb (by omega)
  have hbits := bits2 (0 - 2 ^ (h - l) * o) k hev hk
  have r1 := Rok_mat (k := 1800) (by omega) (cb.up (by omega))
  have r2 := Rok_mat (k := 1800) (by omega) (mb.up (by omega))
  have hsame : F__law_same [.lst [IM (mat 3 (ov (cl2 (0 - 2 ^ (h - l) * o) k))), IM (mat 3 (chg 3 (fm2 (2 ^ l) (2 ^ h) o k) (ov (cl2 (0 - 2 ^ (h - l) * o) k))))], .lst [IM (mat 3 (ov (cl2 (0 - 2 ^ (h - l) * o) k))), IM (mat 3 (chg 3 (fm2 (2 ^ l) (2 ^ h) o k) (ov (cl2 (0 - 2 ^ (h - l) * o) k))))]] = some (0, .bl true) :=
    law_same_ok (k := 1800) (n := 3) (by omega) (by omega) (by omega) ⟨by simp, fun d hd => by
      simp only [List.mem_cons, List.not_mem_nil, or_false] at hd
      rcases hd with rfl | rfl <;> assumption⟩
  have hsame2 : F__law_same [.tup [IM (mat 3 (ov (cl2 (0 - 2 ^ (h - l) * o) k))), IM (mat 3 (chg 3 (fm2 (2 ^ l) (2 ^ h) o k) (ov (cl2 (0 - 2 ^ (h - l) * o) k))))], .tup [IM (mat 3 (ov (cl2 (0 - 2 ^ (h - l) * o) k))), IM (mat 3 (chg 3 (fm2 (2 ^ l) (2 ^ h) o k) (ov (cl2 (0 - 2 ^ (h - l) * o) k))))]] = some (0, .bl true) :=
    law_same_ok (k := 1800) (n := 3) (by omega) (by omega) (by omega) ⟨by simp, fun d hd => by
      simp only [List.mem_cons, List.not_mem_nil, or_false] at hd
      rcases hd with rfl | rfl <;> assumption⟩
  have hLs : (2 : Int) ^ h = 2 ^ l * 2 ^ (h - l) := by rw [← Int.pow_add, show l + (h - l) = h by omega]
  obtain ⟨b, c, d, hM, hdet⟩ := made2 (2 ^ l) (2 ^ (h - l)) o k hk
  rw [← hLs] at hM
  have bs : ∀ x ∈ [b, c, d], x.natAbs < 2 ^ 1800 := by
    have mb' := mb.up (show 290 + 290 + 4 + 290 + 4 ≤ 1800 by omega)
    have g : ∀ i, i < 3 → ∀ j, j < 3 → (chg 3 (fm2 (2 ^ l) (2 ^ h) o k) (ov (cl2 (0 - 2 ^ (h - l) * o) k)) i j).natAbs < 2 ^ 1800 := mb'
    rw [mat3] at hM
    simp only [List.cons.injEq, and_true] at hM
    obtain ⟨⟨h00, h01, _⟩, ⟨_, h11, _⟩, _⟩ := hM
    intro x hx
    simp only [List.mem_cons, List.not_mem_nil, or_false] at hx
    rcases hx with rfl | rfl | rfl
    · rw [← h00]; exact g 0 (by omega) 0 (by omega)
    · rw [← h01]; exact g 0 (by omega) 1 (by omega)
    · rw [← h11]; exact g 1 (by omega) 1 (by omega)
  have htp := turned_pair_ok b c c d (q2 (2 ^ (h - l)) o k) l 1800 (by omega) (by omega) (bs b (by simp)) (bs c (by simp)) (bs c (by simp)) (bs d (by simp)) hdet
  have hs2 : h = l + 1 → (2 : Int) ^ (h - l) = 2 := fun e => by rw [show h - l = 1 by omega]; rfl
  have hq : h = l + 1 → q2 (2 ^ (h - l)) o k % 8 = if k = 0 then 3 else 7 := fun e => by
    rw [hs2 e]
    exact q2_8 ho hk
  have he8 : h = l + 1 → (e2 (2 ^ (h - l)) o k - 5 * o) % 8 = 0 := fun e => by
    rw [hs2 e]
    exact e2_8 ho hk
  have p0 := p2_pos h
  have bh' := log2_lt (sm_up bh (show h + 1 ≤ 66 by omega)) (by decide)
  obtain ⟨C0, C1, C2, hC⟩ : ∃ C0 C1 C2 : List Int, mat 3 (ov (cl2 (0 - 2 ^ (h - l) * o) k)) = [C0, C1, C2] := ⟨_, _, _, mat3 _⟩
  have c0l : C0.length = 3 := by
    have : C0 ∈ mat 3 (ov (cl2 (0 - 2 ^ (h - l) * o) k)) := by rw [hC]; simp
    exact mat_row this
  have chg_eq : ∀ f c, pr 3 (pr 3 (fun i j => c j i) f) c = chg 3 f c := fun _ _ => rfl
  rw [chg_eq] at hch
  generalize hMM : mat 3 (chg 3 (fm2 (2 ^ l) (2 ^ h) o k) (ov (cl2 (0 - 2 ^ (h - l) * o) k))) = M at *
  generalize hCC : mat 3 (ov (cl2 (0 - 2 ^ (h - l) * o) k)) = C at *
  generalize hFF : mat 3 (fm2 (2 ^ l) (2 ^ h) o k) = Fm at *
  have hdv : fd (2 ^ h * e2 (2 ^ (h - l)) o k) (2 ^ h) = e2 (2 ^ (h - l)) o k := by rw [fd_pos p0, Int.mul_ediv_cancel_left _ (by omega)]
  have okd : okDiv (2 ^ h) = true := by
    unfold okDiv
    rw [Bool.and_eq_true, decide_eq_true_eq, decide_eq_true_eq]
    exact ⟨by omega, by omega⟩
  generalize hEE : e2 (2 ^ (h - l)) o k = E at *
  generalize hQQ : q2 (2 ^ (h - l)) o k = Q at *
  generalize hSS : (2 : Int) ^ (h - l) = s at *
  generalize hLL : (2 : Int) ^ l = L at *
  generalize hHH : (2 : Int) ^ h = H at *
  subst hM hC
  have dm : dMulG (.int H) (.int o) = some (0, .int (H * o)) := by simp [dMulG, mh]
  have dms : dMulG (.int s) (.int o) = some (0, .int (s * o)) := by simp [dMulG, ms]
  have hb' : F__law_beside [IM (pm L k), .lst [.lst [.int (H * o)]]] = some (1, IM Fm) := hb
  generalize hBB : 0 - s * o = B at *
  have hBB' := hBB
  rw [Int.zero_sub] at hBB'
  let Fr : Option Cell → Option Cell → Option Cell → Mn.Env := fun x y z => [some (0, d0), some (0, I l), some (0, I h), some (0, I o), some (0, I k), some (0, I B), some (0, IM (cl2 B k)), x, y, some (0, IM Fm), z, none]
  refine run0_rt (ρ := [some (0, d0), some (0, I l), some (0, I h), some (0, I o), some (0, I k), none, none, none, none, none, none, none])
    (ρ' := Fr (some (2, .lst [IL (C0 ++ [1]), IL C1, IL C2])) (some (2, .lst [IL [b, c, 0, 1], IL [c, d, 0], IL [0, 0, H * E], I 1])) (some (0, .tup [IM [C0, C1, C2], IM [[b, c, 0], [c, d, 0], [0, 0, H * E]]]))) rfl ?_
  unfold m__law_second_right
  rw [seq_nx (ρ1 := [some (0, d0), some (0, I l), some (0, I h), some (0, I o), some (0, I k), some (0, I B), none, none, none, none, none, none]) (by simp [hc, hpe, dms, hBB'])]
  rw [seq_nx (ρ1 := [some (0, d0), some (0, I l), some (0, I h), some (0, I o), some (0, I k), some (0, I B), some (0, IM (cl2 B k)), none, none, none, none, none]) (by simp [cl2])]
  rw [seq_nx (ρ1 := [some (0, d0), some (0, I l), some (0, I h), some (0, I o), some (0, I k), some (0, I B), some (0, IM (cl2 B k)), some (2, IM [C0, C1, C2]), some (2, IM [[b, c, 0], [c, d, 0], [0, 0, H * E]]), none, none, none]) (by simp [hT])]
  rw [seq_nx (ρ1 := Fr (some (2, IM [C0, C1, C2])) (some (2, IM [[b, c, 0], [c, d, 0], [0, 0, H * E]])) none) (by simp [Fr, hph, dm, hp, hb'])]
  rw [seq_nx (ρ1 := Fr (some (2, IM [C0, C1, C2])) (some (2, IM [[b, c, 0], [c, d, 0], [0, 0, H * E]])) none) (by simp [Fr, ht, hch, hsame])]
  rw [seq_nx (ρ1 := Fr (some (2, IM [C0, C1, C2])) (some (2, IM [[b, c, 0], [c, d, 0], [0, 0, H * E]])) none) (by
    have n0 : dNe (.lst [.int 0, .int 0]) (.lst [.int 0, .int 0]) = some (.bl false) := ne_IL [0, 0] [0, 0]
    simp [Fr, atI, ixN, itC, cut32, n0, hbits])]
  rw [seq_nx (ρ1 := Fr (some (2, IM [C0, C1, C2])) (some (2, IM [[b, c, 0], [c, d, 0], [0, 0, H * E]])) none) (by
    by_cases hn : h = l + 1
    · have hq' := hq hn
      have hm8 := he8 hn
      have e1 : ((h : Int) = l + 1) := by omega
      have mm5 : okMul 5 o = true := okMul_b (a := 4) (by omega) bo (by omega)
      rw [e_sIf]
      have t1 : mtP (pB (pBin dEq (pVar 2) (pBin dAdd (pVar 1) (pC (.int 1))))) (Fr (some (2, IM [C0, C1, C2])) (some (2, IM [[b, c, 0], [c, d, 0], [0, 0, H * E]])) none) = some (true, Fr (some (2, IM [C0, C1, C2])) (some (2, IM [[b, c, 0], [c, d, 0], [0, 0, H * E]])) none) := by
        simp [Fr, e1]
      simp only [t1]
      rw [seq_nx (ρ1 := Fr (some (2, IM [C0, C1, C2])) (some (2, IM [[b, c, 0], [c, d, 0], [0, 0, H * E]])) none) (by
        simp [Fr, atI, ixN, itC, hph, okd, hdv, mm5, hm8])]
      have e3 : mComp 0 (iSeq (mSl (mO (oVar 8)) none (some (mP (pC (.int 2)))))) (tName 11) tYesM (mSl (mO (oVar 11)) none (some (mP (pC (.int 2))))) [11] (low (Fr (some (2, IM [C0, C1, C2])) (some (2, IM [[b, c, 0], [c, d, 0], [0, 0, H * E]])) none))
          = some ((1, IM [[b, c], [c, d]]), low (Fr (some (2, IM [C0, C1, C2])) (some (2, IM [[b, c, 0], [c, d, 0], [0, 0, H * E]])) none)) := by
        simp [Fr, mComp, mCompL, cut32]
      rw [e_sIf, e_mtThaw]
      simp only [e_mtV, e_mBin, e_mCall, e_mCons, e3]
      rcases hk with rfl | rfl
      · simp [Fr, htp, hq']
      · simp [Fr, htp, hq']
    · have e1 : ¬ ((h : Int) = l + 1) := by omega
      simp [Fr, e1])]
  rw [seq_nx (ρ1 := Fr (some (2, IM [C0, C1, C2])) (some (2, IM [[b, c, 0], [c, d, 0], [0, 0, H * E]])) (some (0, .tup [IM [C0, C1, C2], IM [[b, c, 0], [c, d, 0], [0, 0, H * E]]]))) (by simp [Fr, ht, hch])]
  rw [seq_nx (ρ1 := Fr (some (2, .lst [IL (C0 ++ [1]), IL C1, IL C2])) (some (2, IM [[b, c, 0], [c, d, 0], [0, 0, H * E]])) (some (0, .tup [IM [C0, C1, C2], IM [[b, c, 0], [c, d, 0], [0, 0, H * E]]]))) (by simp [Fr, sApp, plAt, plIx, D.at, D.put, ixN, c0l])]
  rw [seq_nx (ρ1 := Fr (some (2, .lst [IL (C0 ++ [1]), IL C1, IL C2])) (some (2, IM [[b, c, 0, 1], [c, d, 0], [0, 0, H * E]])) (some (0, .tup [IM [C0, C1, C2], IM [[b, c, 0], [c, d, 0], [0, 0, H * E]]]))) (by simp [Fr, sApp, plAt, plIx, D.at, D.put, ixN])]
  rw [seq_nx (ρ1 := Fr (some (2, .lst [IL (C0 ++ [1]), IL C1, IL C2])) (some (2, .lst [IL [b, c, 0, 1], IL [c, d, 0], IL [0, 0, H * E], I 1])) (some (0, .tup [IM [C0, C1, C2], IM [[b, c, 0], [c, d, 0], [0, 0, H * E]]]))) (by simp [Fr, sApp0])]
  simp [Fr, permL, hT, hsame2]
/-! ### two pairs -/
def clp : List (List Int) := [[1, 0, 1, 0], [0, 1, 0, 0], [-2, 1, 0, 3], [0, 0, 1, -2]]
def fmp (L : Int) : Nat → Nat → Int := bs 2 (lm (pm L 2)) (lm (pm L 2))
theorem fmp_bd {l : Nat} (hl : l ≤ 64) : smallM 4 290 (fmp (2 ^ l)) := smallM.bs (n := 2) (m := 2) (pm_bd hl (.inr rfl)) (pm_bd hl (.inr rfl))
theorem clp_bd : smallM 4 10 (ov clp) := (smallM_lm (mem_bd (by decide))).tr
theorem blockp {l : Nat} : F_block_sum [IM (pm (2 ^ l) 2), IM (pm (2 ^ l) 2)] = some (1, IM (mat 4 (fmp (2 ^ l)))) := block_sum_mat 2 2 (lm (pm (2 ^ l) 2)) (lm (pm (2 ^ l) 2)) (by omega) (by omega)
theorem lblockp {l : Nat} : F__law_beside [IM (pm (2 ^ l) 2), IM (pm (2 ^ l) 2)] = some (1, IM (mat 4 (fmp (2 ^ l)))) := law_beside_mat 2 2 (lm (pm (2 ^ l) 2)) (lm (pm (2 ^ l) 2)) (by omega) (by omega)
theorem madep (L : Int) : mat 4 (chg 4 (fmp L) (ov clp)) = [[4 * L, L, 0, 0], [L, 2 * L, 0, 0], [0, 0, 24 * L, -9 * L], [0, 0, -9 * L, 6 * L]] := by
  simp [mat4, chg, pr, sm4, ov, lm, fmp, bs, pm, clp]
  grind
theorem ovp : mat 4 (ov clp) = [[1, 0, -2, 0], [0, 1, 1, 0], [1, 0, 0, 1], [0, 0, 3, -2]] := by decide
theorem turned_clp : F_turned_over [.lst [.lst [.int 1, .int 0, .int 1, .int 0], .lst [.int 0, .int 1, .int 0, .int 0], .lst [.int (-2), .int 1, .int 0, .int 3], .lst [.int 0, .int 0, .int 1, .int (-2)]]] = some (2, IM [[1, 0, -2, 0], [0, 1, 1, 0], [1, 0, 0, 1], [0, 0, 3, -2]]) := by
  have := turned_over_mat 4 (lm clp) (by omega) (by omega)
  rw [← ovp]
  exact this
theorem lturned_clp : F__law_over [.lst [.lst [.int 1, .int 0, .int 1, .int 0], .lst [.int 0, .int 1, .int 0, .int 0], .lst [.int (-2), .int 1, .int 0, .int 3], .lst [.int 0, .int 0, .int 1, .int (-2)]]] = some (1, IM [[1, 0, -2, 0], [0, 1, 1, 0], [1, 0, 0, 1], [0, 0, 3, -2]]) := by
  have := law_over_mat 4 (lm clp) (by omega) (by omega)
  rw [← ovp]
  exact this
abbrev mdp (L : Int) : List (List Int) := [[4 * L, L, 0, 0], [L, 2 * L, 0, 0], [0, 0, 24 * L, -9 * L], [0, 0, -9 * L, 6 * L]]
abbrev chp : List (List Int) := [[1, 0, -2, 0], [0, 1, 1, 0], [1, 0, 0, 1], [0, 0, 3, -2]]
theorem pairs_turned_ok (l : Nat) (hl : l ≤ 64) : F_pairs_turned [I l] = some (3, .tup [IM chp, IM (mdp (2 ^ l))]) := by
  have c1 := check_number_I l 0 64 (by omega) (by omega)
  have hf := form_of_pair l 2 (by omega) (.inr rfl)
  have hb := blockp (l := l)
  have hch := changed_by_mat 4 290 10 (fmp (2 ^ l)) (ov clp) (by omega) (by omega) (fmp_bd hl) clp_bd (by omega)
  have chg_eq : ∀ f c, pr 4 (pr 4 (fun i j => c j i) f) c = chg 4 f c := fun _ _ => rfl
  rw [chg_eq, madep, ovp] at hch
  generalize (2 : Int) ^ l = L at *
  refine run0_rt (ρ := [some (0, I l), none, none]) (ρ' := [some (0, I l), none, some (0, IM (pm L 2))]) rfl ?_
  unfold m_pairs_turned
  rw [seq_nx (ρ1 := [some (0, I l), none, none]) (by simp [c1])]
  rw [seq_nx (ρ1 := [some (0, I l), some (2, IM chp), none]) (by
    have ht := turned_clp
    simp [ht])]
  rw [seq_nx (ρ1 := [some (0, I l), some (2, IM chp), some (0, IM (pm L 2))]) (by simp [hf])]
  have e1 : mThaw (mCall 2 F_changed_by (mCons 0 (mCall 2 F_block_sum (mCons 0 (mO (oVar 2)) (mCons 0 (mO (oVar 2)) mNil))) (mCons 0 (mO (oVar 1)) mNil))) [some (0, I l), some (2, IM chp), some (0, IM (pm L 2))] = some ((2, IM (mdp L)), [some (0, I l), some (2, IM chp), some (0, IM (pm L 2))]) := by
    simp [hb, hch]
  rw [e_sRet, e_mTup, e_mConsL]
  simp only [e_mCons, e1]
  simp
theorem bitsp : F__law_bits_product [IM chp] = some (0, I 1) := bits_product_ok (m := 4) (by simp) (by simp) (by omega) (by decide)
theorem pairs_right_ok (l : Nat) (hl : l ≤ 64) : F__law_pairs_right [I l] = some (0, .bl true) := by
  have hT := pairs_turned_ok l hl
  have hp := law_pair_ok l 2 (by omega) (.inr rfl)
  have hb := lblockp (l := l)
  have hch := law_changed_mat 4 290 10 (fmp (2 ^ l)) (ov clp) (by omega) (by omega) (fmp_bd hl) clp_bd (by omega)
  have chg_eq : ∀ f c, pr 4 (pr 4 (fun i j => c j i) f) c = chg 4 f c := fun _ _ => rfl
  have r1 := Rok_mat (k := 1800) (by omega) (clp_bd.up (by omega))
  have r2 := Rok_mat (k := 1800) (by omega) ((chg_bd (fmp_bd hl) clp_bd (by omega)).up (by omega))
  rw [chg_eq, madep, ovp] at hch
  rw [ovp] at r1
  rw [madep] at r2
  have hsame : F__law_same [.tup [IM chp, IM (mdp (2 ^ l))], .tup [IM chp, IM (mdp (2 ^ l))]] = some (0, .bl true) :=
    law_same_ok (k := 1800) (n := 3) (by omega) (by omega) (by omega) ⟨by simp, fun d hd => by
      simp only [List.mem_cons, List.not_mem_nil, or_false] at hd
      rcases hd with rfl | rfl <;> assumption⟩
  have bL := sm_up (p2_bd l) (show l + 1 ≤ 65 by omega)
  have htp1 := turned_pair_ok (4 * 2 ^ l) (2 ^ l) (2 ^ l) (2 * 2 ^ l) 7 l 80 hl (by omega) (by omega) (by omega) (by omega) (by omega) (by grind)
  have htp2 := turned_pair_ok (24 * 2 ^ l) (-9 * 2 ^ l) (-9 * 2 ^ l) (6 * 2 ^ l) 63 l 80 hl (by omega) (by omega) (by omega) (by omega) (by omega) (by grind)
  generalize hFF : mat 4 (fmp (2 ^ l)) = Fm at *
  generalize (2 : Int) ^ l = L at *
  let Fr : D → Option Cell → Option Cell → Mn.Env := fun t x y => [some (0, I l), some (0, IM clp), some (0, IM Fm), some (0, .tup [IM chp, IM (mdp L)]), some (3, t), x, y, none]
  refine run0_rt (ρ := [some (0, I l), none, none, none, none, none, none, none]) (ρ' := Fr (.tup [.lst [IL [1, 0, -2, 0, 1], IL [0, 1, 1, 0], IL [1, 0, 0, 1], IL [0, 0, 3, -2], I 1], .lst [IL [4 * L, L, 0, 0], IL [L, 2 * L, 0, 0], IL [0, 0, 24 * L, -9 * L], IL [0, 0, -9 * L, 6 * L], I 1]]) (some (0, I 2)) (some (0, IM [[24 * L, -9 * L], [-9 * L, 6 * L]]))) rfl ?_
  unfold m__law_pairs_right
  rw [seq_nx (ρ1 := [some (0, I l), some (0, IM clp), none, none, none, none, none, none]) (by simp [clp])]
  rw [seq_nx (ρ1 := [some (0, I l), some (0, IM clp), some (0, IM Fm), none, none, none, none, none]) (by simp [hp, hb])]
  rw [seq_nx (ρ1 := [some (0, I l), some (0, IM clp), some (0, IM Fm), some (0, .tup [IM chp, IM (mdp L)]), none, none, none, none]) (by
    have ht : F__law_over [IM clp] = some (1, IM chp) := lturned_clp
    simp [ht, hch])]
  rw [seq_nx (ρ1 := Fr (.tup [IM chp, IM (mdp L)]) none none) (by simp [Fr, hT])]
  rw [seq_nx (ρ1 := Fr (.tup [IM chp, IM (mdp L)]) none none) (by
    have hbits := bitsp
    simp [Fr, hsame, atI, ixN, itC, hbits])]
  have n0 : dNe (.lst [.int 0, .int 0]) (.lst [.int 0, .int 0]) = some (.bl false) := ne_IL [0, 0] [0, 0]
  have c1 : ∀ w x y z : D, cutD [w, x, y, z] (some 0) (some 2) = [w, x] := fun _ _ _ _ => rfl
  have c2 : ∀ w x y z : D, cutD [w, x, y, z] (some 2) (some 4) = [y, z] := fun _ _ _ _ => rfl
  rw [seq_nx (ρ1 := Fr (.tup [IM chp, IM (mdp L)]) (some (0, I 2)) (some (0, IM [[24 * L, -9 * L], [-9 * L, 6 * L]]))) (by
    rw [e_sFor]
    have hit : iSeq (mLst 0 (mCons 0 (mP (pC (.int 0))) (mCons 0 (mP (pC (.int 2))) mNil))) (Fr (.tup [IM chp, IM (mdp L)]) none none) = some ([.int 0, .int 2], Fr (.tup [IM chp, IM (mdp L)]) none none) := by simp
    rw [hit]
    simp only [mLoop, e_tName]
    have t0 : (Fr (.tup [IM chp, IM (mdp L)]) none none).set 5 (some (0, .int 0)) = Fr (.tup [IM chp, IM (mdp L)]) (some (0, I 0)) none := rfl
    rw [t0]
    have s1 : mComp 1 (iSeq (mSl (mO (oIx (oVar 4) (pC (.int 1)))) (some (mP (pVar 5))) (some (mP (pBin dAdd (pVar 5) (pC (.int 2))))))) (tName 7) tYesM (mSl (mO (oVar 7)) (some (mP (pVar 5))) (some (mP (pBin dAdd (pVar 5) (pC (.int 2)))))) [7] (low (Fr (.tup [IM chp, IM (mdp L)]) (some (0, I 0)) none))
        = some ((2, IM [[4 * L, L], [L, 2 * L]]), low (Fr (.tup [IM chp, IM (mdp L)]) (some (0, I 0)) none)) := by
      simp [Fr, mComp, mCompL, atI, ixN, itC, c1]
    rw [seq_nx (ρ1 := Fr (.tup [IM chp, IM (mdp L)]) (some (0, I 0)) (some (0, IM [[4 * L, L], [L, 2 * L]]))) (by
      rw [e_sAsg, e_mFz, e_mThaw, s1]
      simp [Fr])]
    have u1 : sIf (mtOr (mtV (mBin dNe (mCall 2 F__law_turned_pair (mCons 0 (mO (oVar 6)) (mCons 0 (mO (oVar 0)) mNil))) (mP (pC (.int 7))))) (mtThaw (mtV (mBin dNe (mSl (mO (oIx (oIx (oVar 4) (pC (.int 1))) (pVar 5))) (some (mP (pBin dSub (pC (.int 2)) (pVar 5)))) (some (mP (pBin dSub (pC (.int 4)) (pVar 5))))) (mLst 0 (mCons 0 (mP (pC (.int 0))) (mCons 0 (mP (pC (.int 0))) mNil))))))) (sRet (mP (pC (.bl false)))) sNx (Fr (.tup [IM chp, IM (mdp L)]) (some (0, I 0)) (some (0, IM [[4 * L, L], [L, 2 * L]]))) = some (.nx (Fr (.tup [IM chp, IM (mdp L)]) (some (0, I 0)) (some (0, IM [[4 * L, L], [L, 2 * L]])))) := by
      simp [Fr, htp1, atI, ixN, itC, c2, n0]
    rw [u1]
    simp only
    have t2 : (Fr (.tup [IM chp, IM (mdp L)]) (some (0, I 0)) (some (0, IM [[4 * L, L], [L, 2 * L]]))).set 5 (some (0, .int 2)) = Fr (.tup [IM chp, IM (mdp L)]) (some (0, I 2)) (some (0, IM [[4 * L, L], [L, 2 * L]])) := rfl
    rw [t2]
    have s2 : mComp 1 (iSeq (mSl (mO (oIx (oVar 4) (pC (.int 1)))) (some (mP (pVar 5))) (some (mP (pBin dAdd (pVar 5) (pC (.int 2))))))) (tName 7) tYesM (mSl (mO (oVar 7)) (some (mP (pVar 5))) (some (mP (pBin dAdd (pVar 5) (pC (.int 2)))))) [7] (low (Fr (.tup [IM chp, IM (mdp L)]) (some (0, I 2)) (some (0, IM [[4 * L, L], [L, 2 * L]]))))
        = some ((2, IM [[24 * L, -9 * L], [-9 * L, 6 * L]]), low (Fr (.tup [IM chp, IM (mdp L)]) (some (0, I 2)) (some (0, IM [[4 * L, L], [L, 2 * L]])))) := by
      simp [Fr, mComp, mCompL, atI, ixN, itC, c2]
    rw [seq_nx (ρ1 := Fr (.tup [IM chp, IM (mdp L)]) (some (0, I 2)) (some (0, IM [[24 * L, -9 * L], [-9 * L, 6 * L]]))) (by
      rw [e_sAsg, e_mFz, e_mThaw, s2]
      simp [Fr])]
    have u2 : sIf (mtOr (mtV (mBin dNe (mCall 2 F__law_turned_pair (mCons 0 (mO (oVar 6)) (mCons 0 (mO (oVar 0)) mNil))) (mP (pC (.int 7))))) (mtThaw (mtV (mBin dNe (mSl (mO (oIx (oIx (oVar 4) (pC (.int 1))) (pVar 5))) (some (mP (pBin dSub (pC (.int 2)) (pVar 5)))) (some (mP (pBin dSub (pC (.int 4)) (pVar 5))))) (mLst 0 (mCons 0 (mP (pC (.int 0))) (mCons 0 (mP (pC (.int 0))) mNil))))))) (sRet (mP (pC (.bl false)))) sNx (Fr (.tup [IM chp, IM (mdp L)]) (some (0, I 2)) (some (0, IM [[24 * L, -9 * L], [-9 * L, 6 * L]]))) = some (.nx (Fr (.tup [IM chp, IM (mdp L)]) (some (0, I 2)) (some (0, IM [[24 * L, -9 * L], [-9 * L, 6 * L]])))) := by
      simp [Fr, htp2, atI, ixN, itC, c1, n0]
    rw [u2])]
  rw [seq_nx (ρ1 := Fr (.tup [.lst [IL [1, 0, -2, 0, 1], IL [0, 1, 1, 0], IL [1, 0, 0, 1], IL [0, 0, 3, -2]], IM (mdp L)]) (some (0, I 2)) (some (0, IM [[24 * L, -9 * L], [-9 * L, 6 * L]]))) (by simp [Fr, sApp, plAt, plIx, D.at, D.put, ixN])]
  rw [seq_nx (ρ1 := Fr (.tup [.lst [IL [1, 0, -2, 0, 1], IL [0, 1, 1, 0], IL [1, 0, 0, 1], IL [0, 0, 3, -2], I 1], IM (mdp L)]) (some (0, I 2)) (some (0, IM [[24 * L, -9 * L], [-9 * L, 6 * L]]))) (by simp [Fr, sApp, plAt, plIx, D.at, D.put, ixN])]
  rw [seq_nx (ρ1 := Fr (.tup [.lst [IL [1, 0, -2, 0, 1], IL [0, 1, 1, 0], IL [1, 0, 0, 1], IL [0, 0, 3, -2], I 1], .lst [IL [4 * L, L, 0, 0], IL [L, 2 * L, 0, 0], IL [0, 0, 24 * L, -9 * L], IL [0, 0, -9 * L, 6 * L], I 1]]) (some (0, I 2)) (some (0, IM [[24 * L, -9 * L], [-9 * L, 6 * L]]))) (by simp [Fr, sApp, plAt, plIx, D.at, D.put, ixN])]
  simp [Fr, permL, hT, hsame]

/-! ### the law -/
theorem right_ok {n : Nat} {c : Cell} (h : Gn n c) (hn : n ≤ 10 ^ 12) : ∃ c', F__law_right c [] = some ((0, .bl true), c') := by
  obtain ⟨c1, e1, g1⟩ := squares_right_ok h (by omega)
  obtain ⟨a, c2, e2, a1, a2, g2⟩ := random_ok g1 (by omega) 65 (by omega) (by decide)
  obtain ⟨a', c3, e3, a1', a2', g3⟩ := random_ok g2 (by omega) 65 (by omega) (by decide)
  obtain ⟨p, c4, e4, p1, p2, g4⟩ := random_ok g3 (by omega) 2 (by omega) (by decide)
  have k28 : (10 : Int) ^ 28 = 10000000000000000000000000000 := by decide
  obtain ⟨m, em, hm⟩ := pick2 (a := 10) (b := 10 ^ 28) p1 p2
  obtain ⟨o, c5, e5, bo, o1, g5⟩ := odd_ok g4 (by omega) m (by omega) (by omega)
  obtain ⟨l0, rfl⟩ : ∃ l : Nat, a = l := ⟨a.toNat, by omega⟩
  obtain ⟨l, rfl⟩ : ∃ l : Nat, a' = l := ⟨a'.toNat, by omega⟩
  have hpr := pairs_right_ok l0 (by omega)
  have bo' := sm_up bo (show 100 ≤ 200 by omega)
  have x1 : okPow 10 28 = true := by decide +kernel
  have y1 : ∀ ρ, pBin dPow (pC (.int 10)) (pC (.int 28)) ρ = some (.int (10 ^ 28)) := fun ρ => by
    show dPow (.int 10) (.int 28) = _
    rw [okPow_of' x1, show (28 : Int).toNat = 28 from rfl]
  let Fr : Cell → Option Cell → Option Cell → Mn.Env := fun c x y => [some c, some (0, I l), some (0, I o), x, y]
  -- the turns
  have inner : ∀ (n : Nat) (c : Cell), Gn n c → n ≤ 10 ^ 12 + 10 ^ 6 → ∀ k : Int, (k = 0 ∨ k = 2) → ∀ y : Option Cell, ∃ c' y', Gn (n + 101) c' ∧ sFor (iSeq (mLst 0 (mCons 0 (mO (oVar 1)) (mCons 0 (mP (pCall dMinL (pCons (pBin dAdd (pVar 1) (pC (.int 1))) (pCons (pC (.int 64)) pNil)))) (mCons 0 (mBinF dAddG (mO (oVar 1)) (mCallI 2 F__law_random 0 (mCons 0 (mP (pBin dSub (pC (.int 65)) (pVar 1))) mNil))) (mCons 0 (mP (pC (.int 64))) mNil)))))) (tName 4) (sSeq (sIf (mtNot (mtThaw (mtTr (mCall 5 F__law_first_right (mCons 0 (mO (oVar 0)) (mCons 0 (mO (oVar 1)) (mCons 0 (mO (oVar 4)) (mCons 0 (mO (oVar 2)) (mCons 0 (mO (oVar 3)) mNil))))))))) (sRet (mP (pC (.bl false)))) sNx)
    (sIf (mtAnd (mtP (pB (pBin dGt (pVar 4) (pVar 1)))) (mtNot (mtThaw (mtTr (mCall 5 F__law_second_right (mCons 0 (mO (oVar 0)) (mCons 0 (mO (oVar 1)) (mCons 0 (mO (oVar 4)) (mCons 0 (mO (oVar 2)) (mCons 0 (mO (oVar 3)) mNil)))))))))) (sRet (mP (pC (.bl false)))) sNx)) (Fr c (some (0, I k)) y) = some (.nx (Fr c' (some (0, I k)) y')) := by
    intro n c h hn k hk y
    obtain ⟨d, c', e, d1, d2, g⟩ := random_ok h (by omega) (65 - l) (by omega) (Nat.lt_of_lt_of_le (log2_lt (k := 10) (by omega) (by decide)) (by decide))
    obtain ⟨d, rfl⟩ : ∃ q : Nat, d = q := ⟨d.toNat, by omega⟩
    obtain ⟨ρ', el, y', rfl⟩ := loopL (tg := tName 4) (body := sSeq (sIf (mtNot (mtThaw (mtTr (mCall 5 F__law_first_right (mCons 0 (mO (oVar 0)) (mCons 0 (mO (oVar 1)) (mCons 0 (mO (oVar 4)) (mCons 0 (mO (oVar 2)) (mCons 0 (mO (oVar 3)) mNil))))))))) (sRet (mP (pC (.bl false)))) sNx)
      (sIf (mtAnd (mtP (pB (pBin dGt (pVar 4) (pVar 1)))) (mtNot (mtThaw (mtTr (mCall 5 F__law_second_right (mCons 0 (mO (oVar 0)) (mCons 0 (mO (oVar 1)) (mCons 0 (mO (oVar 4)) (mCons 0 (mO (oVar 2)) (mCons 0 (mO (oVar 3)) mNil)))))))))) (sRet (mP (pC (.bl false)))) sNx)) [l, min (l + 1) 64, l + d, 64] (fun h : Nat => D.int (h : Int)) (fun _ ρ => ∃ y, ρ = Fr c' (some (0, I k)) y) (ρ := Fr c' (some (0, I k)) y) ⟨y, rfl⟩ (by
      rintro i hh ρ hi ⟨y, rfl⟩
      have hb : l ≤ hh ∧ hh ≤ 64 := by
        have := List.mem_of_getElem? hi
        simp only [List.mem_cons, List.not_mem_nil, or_false] at this
        omega
      have f1 := first_right_ok c'.2 l hh o k hb.1 hb.2 o1 hk bo'
      refine ⟨Fr c' (some (0, I k)) (some (0, I hh)), Fr c' (some (0, I k)) (some (0, I hh)), rfl, ?_, _, rfl⟩
      rw [seq_nx (ρ1 := Fr c' (some (0, I k)) (some (0, I hh))) (by simp [Fr, f1])]
      by_cases hlt : l < hh
      · have f2 := second_right_ok c'.2 l hh o k hlt hb.2 o1 hk bo'
        simp [Fr, f2, hlt]
      · simp [Fr, hlt])
    refine ⟨c', y', g, ?_⟩
    rw [e_sFor]
    have hit : iSeq (mLst 0 (mCons 0 (mO (oVar 1)) (mCons 0 (mP (pCall dMinL (pCons (pBin dAdd (pVar 1) (pC (.int 1))) (pCons (pC (.int 64)) pNil)))) (mCons 0 (mBinF dAddG (mO (oVar 1)) (mCallI 2 F__law_random 0 (mCons 0 (mP (pBin dSub (pC (.int 65)) (pVar 1))) mNil))) (mCons 0 (mP (pC (.int 64))) mNil))))) (Fr c (some (0, I k)) y) = some ([l, min (l + 1) 64, l + d, 64].map (fun h : Nat => D.int (h : Int)), Fr c' (some (0, I k)) y) := by
      have hmin : (if (64 : Int) < (l : Int) + 1 then (64 : Int) else (l : Int) + 1) = ((min (l + 1) 64 : Nat) : Int) := by split <;> omega
      simp [Fr, e, hmin]
    rw [hit]
    exact el
  obtain ⟨c6, y6, g6, e6⟩ := inner _ c5 (g5.up (Nat.le_refl _)) (by omega) 0 (.inl rfl) none
  obtain ⟨c7, y7, g7, e7⟩ := inner _ c6 g6 (by omega) 2 (.inr rfl) y6
  refine ⟨c7, ?_⟩
  unfold F__law_right
  unfold m__law_right
  generalize pBin dPow (pC (.int 10)) (pC (.int 28)) = P28 at y1
  generalize (10 : Int) ^ 28 = K28 at *
  refine run1_rt (ρ := [some c, none, none, none, none]) (ρ' := Fr c7 (some (0, I 2)) y7) rfl ?_ rfl
  rw [seq_nx (ρ1 := [some c2, none, none, none, none]) (by simp [e1, e2, hpr])]
  rw [seq_nx (ρ1 := Fr c5 none none) (by simp [Fr, e3, e4, e5, y1, em])]
  rw [seq_nx (ρ1 := Fr c7 (some (0, I 2)) y7) (by
    rw [e_sFor]
    have hit : iSeq (mLst 0 (mCons 0 (mP (pC (.int 0))) (mCons 0 (mP (pC (.int 2))) mNil))) (Fr c5 none none) = some ([.int 0, .int 2], Fr c5 none none) := by simp
    rw [hit]
    simp only [mLoop, e_tName]
    have t0 : (Fr c5 none none).set 3 (some (0, .int 0)) = Fr c5 (some (0, I 0)) none := rfl
    rw [t0, e6]
    simp only
    have t1 : (Fr c6 (some (0, I 0)) y6).set 3 (some (0, .int 2)) = Fr c6 (some (0, I 2)) y6 := rfl
    rw [t1, e7])]
  simp
theorem law_holds (ns : List Int) (h : ns.length ≤ 63) : ∃ j, F_law [.lst (ns.map D.int)] = some (j, .bl true) := by
  obtain ⟨ρ', el, i', rfl⟩ := loopR (tg := tName 1) (body := sIf (mtNot (mtTr (mCallT 1 F__law_right (mCall 2 F__law_generator (mCons 0 (mO (oVar 0)) (mCons 0 (mO (oVar 1)) mNil))) mNil))) (sRet (mP (pC (.bl false)))) sNx) 3 (fun _ ρ => ∃ o, ρ = [some (0, IL ns), o, none]) (ρ := [some (0, IL ns), none, none]) ⟨none, rfl⟩ (by
    rintro i ρ hi ⟨o, rfl⟩
    obtain ⟨c, ec, gc⟩ := generator_ok ns i (by omega)
    obtain ⟨c', er⟩ := right_ok gc (by omega)
    refine ⟨[some (0, IL ns), some (0, I i), none], [some (0, IL ns), some (0, I i), none], rfl, ?_, _, rfl⟩
    simp [ec, er])
  have s1 := squares_turned_ok 0 0 1 3 2 (by omega) (by omega) (by decide) (by decide) (fun _ => by decide) (by decide +kernel) (by decide +kernel) (by decide +kernel)
  have s2 := squares_turned_ok 64 64 (-1) 1 0 (by omega) (by omega) (by decide) (by decide) (fun _ => by decide) (by decide +kernel) (by decide +kernel) (by decide +kernel)
  have s3 := square_beside_pair_ok 0 1 1 0 (by omega) (by omega) (by decide) (.inl rfl) (by decide +kernel)
  have s4 := pair_beside_square_ok 0 1 1 0 (by omega) (by omega) (by decide) (.inl rfl) (by decide +kernel)
  have u1 : sqD (2 ^ (0 - 0)) 1 3 2 = .tup [.lst [.lst [.int 1, .int (-6)], .lst [.int 2, .int 1]], .int 13, .int 39] := by simp [sqD]
  have u2 : sqD (2 ^ (64 - 64)) (-1) 1 0 = .tup [.lst [.lst [.int 1, .int 0], .lst [.int 0, .int (-1)]], .int (-1), .int 1] := by simp [sqD]
  have u3 : (D.tup [IM (mat 3 (ov (cl1 (2 ^ (1 - 0)) 1 0))), IM (mat 3 (chg 3 (fm1 (2 ^ 0) (2 ^ 1) 1 0) (ov (cl1 (2 ^ (1 - 0)) 1 0))))]) = .tup [.lst [.lst [.int 1, .int (-2), .int (-2)], .lst [.int 1, .int 1, .int 0], .lst [.int 1, .int 0, .int 1]], .lst [.lst [.int 5, .int 0, .int 0], .lst [.int 0, .int 4, .int 6], .lst [.int 0, .int 6, .int 4]]] := by
    have a : mat 3 (ov (cl1 (2 ^ (1 - 0)) 1 0)) = [[1, -2, -2], [1, 1, 0], [1, 0, 1]] := by decide
    have b : mat 3 (chg 3 (fm1 (2 ^ 0) (2 ^ 1) 1 0) (ov (cl1 (2 ^ (1 - 0)) 1 0))) = [[5, 0, 0], [0, 4, 6], [0, 6, 4]] := by decide
    rw [a, b]
    rfl
  have u4 : (D.tup [IM (mat 3 (ov (cl2 (0 - 2 ^ (1 - 0) * 1) 0))), IM (mat 3 (chg 3 (fm2 (2 ^ 0) (2 ^ 1) 1 0) (ov (cl2 (0 - 2 ^ (1 - 0) * 1) 0))))]) = .tup [.lst [.lst [.int 1, .int 0, .int (-2)], .lst [.int 0, .int 1, .int (-2)], .lst [.int 1, .int 1, .int 1]], .lst [.lst [.int 2, .int 3, .int 0], .lst [.int 3, .int 2, .int 0], .lst [.int 0, .int 0, .int 10]]] := by
    have a : mat 3 (ov (cl2 (0 - 2 ^ (1 - 0) * 1) 0)) = [[1, 0, -2], [0, 1, -2], [1, 1, 1]] := by decide
    have b : mat 3 (chg 3 (fm2 (2 ^ 0) (2 ^ 1) 1 0) (ov (cl2 (0 - 2 ^ (1 - 0) * 1) 0))) = [[2, 3, 0], [3, 2, 0], [0, 0, 10]] := by decide
    rw [a, b]
    rfl
  rw [u1] at s1
  rw [u2] at s2
  rw [u3] at s3
  rw [u4] at s4
  simp only [Int.natCast_zero, show ((1 : Nat) : Int) = 1 from rfl, show ((64 : Nat) : Int) = 64 from rfl, show ((0 : Nat) : Int) = 0 from rfl] at s1 s2 s3 s4
  have v1 : F__law_same [.tup [.lst [.lst [.int 1, .int (-6)], .lst [.int 2, .int 1]], .int 13, .int 39], .tup [.lst [.lst [.int 1, .int (-6)], .lst [.int 2, .int 1]], .int 13, .int 39]] = some (0, .bl true) := law_same_ok (k := 10) (n := 3) (by omega) (by omega) (by omega) (by simp [Rok])
  have v2 := (eq_Rok (k := 10) (n := 3) (d := .tup [.lst [.lst [.int 1, .int 0], .lst [.int 0, .int (-1)]], .int (-1), .int 1]) (by omega) (by omega) (by omega) (by simp [Rok])).2
  have v3 := (eq_Rok (k := 10) (n := 3) (d := .tup [.lst [.lst [.int 1, .int (-2), .int (-2)], .lst [.int 1, .int 1, .int 0], .lst [.int 1, .int 0, .int 1]], .lst [.lst [.int 5, .int 0, .int 0], .lst [.int 0, .int 4, .int 6], .lst [.int 0, .int 6, .int 4]]]) (by omega) (by omega) (by omega) (by simp [Rok])).2
  have v4 := (eq_Rok (k := 10) (n := 3) (d := .tup [.lst [.lst [.int 1, .int 0, .int (-2)], .lst [.int 0, .int 1, .int (-2)], .lst [.int 1, .int 1, .int 1]], .lst [.lst [.int 2, .int 3, .int 0], .lst [.int 3, .int 2, .int 0], .lst [.int 0, .int 0, .int 10]]]) (by omega) (by omega) (by omega) (by simp [Rok])).1
  refine ⟨0, run0_rt (ρ := [some (0, IL ns), none, none]) (ρ' := [some (0, IL ns), i', some (0, .tup [.lst [.lst [.int 1, .int (-2), .int (-2)], .lst [.int 1, .int 1, .int 0], .lst [.int 1, .int 0, .int 1]], .lst [.lst [.int 5, .int 0, .int 0], .lst [.int 0, .int 4, .int 6], .lst [.int 0, .int 6, .int 4]]])]) rfl ?_⟩
  have hit : iRange (mCons 0 (mP (pC (.int 3))) mNil) [some (0, IL ns), none, none] = some (rng 0 1 3, [some (0, IL ns), none, none]) := by
    rw [e_rg1 (j := 3) (ρ1 := [some (0, IL ns), none, none]) (by simp), show okRng 3 = true from okRng_nat (n := 3) (by omega)]
    rfl
  unfold m_law
  rw [seq_nx (for_nx hit el)]
  rw [seq_nx (ρ1 := [some (0, IL ns), i', none]) (by simp [s1, v1])]
  rw [seq_nx (ρ1 := [some (0, IL ns), i', none]) (by simp [s2, v2])]
  rw [seq_nx (ρ1 := [some (0, IL ns), i', some (0, .tup [.lst [.lst [.int 1, .int (-2), .int (-2)], .lst [.int 1, .int 1, .int 0], .lst [.int 1, .int 0, .int 1]], .lst [.lst [.int 5, .int 0, .int 0], .lst [.int 0, .int 4, .int 6], .lst [.int 0, .int 6, .int 4]]])]) (by simp)]
  rw [seq_nx (ρ1 := [some (0, IL ns), i', some (0, .tup [.lst [.lst [.int 1, .int (-2), .int (-2)], .lst [.int 1, .int 1, .int 0], .lst [.int 1, .int 0, .int 1]], .lst [.lst [.int 5, .int 0, .int 0], .lst [.int 0, .int 4, .int 6], .lst [.int 0, .int 6, .int 4]]])]) (by simp [s3, v3])]
  simp [s4, v4]

theorem all_mk {l : PySem.W.OpenLaw} {w : World} {K : PySem.W.Frag} {h : Heap} {mg : Str → Option Value} (X : K.In h) (G : h.Ns mainGlobals mg)
    {f0 : Addr} {od0 an0 : Option Addr} {sl0 : Array (Option Value)} {oc0 kV0 dc0 pm0 cd0 ct0 : Value}
    (a0 : PySem.W.nsIn K mainGlobals "is_whole" = some (some (.ref f0))) (l0 : K.lookup f0 = some ⟨oc0, od0, .func (PySem.W.fnOf "is_whole" "is_whole" (defArgs s_is_whole) (defBody s_is_whole) (defScope s_is_whole) .none kV0 dc0 pm0 an0 cd0 ct0), sl0⟩) (d0 : PySem.W.codeIn K cd0 "is_whole" = true) (e0 : PySem.W.keepIn K (.ref f0) = true)
    {f1 : Addr} {od1 an1 : Option Addr} {sl1 : Array (Option Value)} {oc1 kV1 dc1 pm1 cd1 ct1 : Value}
    (a1 : PySem.W.nsIn K mainGlobals "is_between" = some (some (.ref f1))) (l1 : K.lookup f1 = some ⟨oc1, od1, .func (PySem.W.fnOf "is_between" "is_between" (defArgs s_is_between) (defBody s_is_between) (defScope s_is_between) .none kV1 dc1 pm1 an1 cd1 ct1), sl1⟩) (d1 : PySem.W.codeIn K cd1 "is_between" = true) (e1 : PySem.W.keepIn K (.ref f1) = true)
    {f2 : Addr} {od2 an2 : Option Addr} {sl2 : Array (Option Value)} {oc2 kV2 dc2 pm2 cd2 ct2 : Value}
    (a2 : PySem.W.nsIn K mainGlobals "check_number" = some (some (.ref f2))) (l2 : K.lookup f2 = some ⟨oc2, od2, .func (PySem.W.fnOf "check_number" "check_number" (defArgs s_check_number) (defBody s_check_number) (defScope s_check_number) .none kV2 dc2 pm2 an2 cd2 ct2), sl2⟩) (d2 : PySem.W.codeIn K cd2 "check_number" = true) (e2 : PySem.W.keepIn K (.ref f2) = true)
    {f3 : Addr} {od3 an3 : Option Addr} {sl3 : Array (Option Value)} {oc3 kV3 dc3 pm3 cd3 ct3 : Value}
    (a3 : PySem.W.nsIn K mainGlobals "power_of_two" = some (some (.ref f3))) (l3 : K.lookup f3 = some ⟨oc3, od3, .func (PySem.W.fnOf "power_of_two" "power_of_two" (defArgs s_power_of_two) (defBody s_power_of_two) (defScope s_power_of_two) .none kV3 dc3 pm3 an3 cd3 ct3), sl3⟩) (d3 : PySem.W.codeIn K cd3 "power_of_two" = true) (e3 : PySem.W.keepIn K (.ref f3) = true)
    {f4 : Addr} {od4 an4 : Option Addr} {sl4 : Array (Option Value)} {oc4 kV4 dc4 pm4 cd4 ct4 : Value}
    (a4 : PySem.W.nsIn K mainGlobals "turned_over" = some (some (.ref f4))) (l4 : K.lookup f4 = some ⟨oc4, od4, .func (PySem.W.fnOf "turned_over" "turned_over" (defArgs s_turned_over) (defBody s_turned_over) (defScope s_turned_over) .none kV4 dc4 pm4 an4 cd4 ct4), sl4⟩) (d4 : PySem.W.codeIn K cd4 "turned_over" = true) (e4 : PySem.W.keepIn K (.ref f4) = true)
    {f5 : Addr} {od5 an5 : Option Addr} {sl5 : Array (Option Value)} {oc5 kV5 dc5 pm5 cd5 ct5 : Value}
    (a5 : PySem.W.nsIn K mainGlobals "product_of" = some (some (.ref f5))) (l5 : K.lookup f5 = some ⟨oc5, od5, .func (PySem.W.fnOf "product_of" "product_of" (defArgs s_product_of) (defBody s_product_of) (defScope s_product_of) .none kV5 dc5 pm5 an5 cd5 ct5), sl5⟩) (d5 : PySem.W.codeIn K cd5 "product_of" = true) (e5 : PySem.W.keepIn K (.ref f5) = true)
    {f6 : Addr} {od6 an6 : Option Addr} {sl6 : Array (Option Value)} {oc6 kV6 dc6 pm6 cd6 ct6 : Value}
    (a6 : PySem.W.nsIn K mainGlobals "changed_by" = some (some (.ref f6))) (l6 : K.lookup f6 = some ⟨oc6, od6, .func (PySem.W.fnOf "changed_by" "changed_by" (defArgs s_changed_by) (defBody s_changed_by) (defScope s_changed_by) .none kV6 dc6 pm6 an6 cd6 ct6), sl6⟩) (d6 : PySem.W.codeIn K cd6 "changed_by" = true) (e6 : PySem.W.keepIn K (.ref f6) = true)
    {f7 : Addr} {od7 an7 : Option Addr} {sl7 : Array (Option Value)} {oc7 kV7 dc7 pm7 cd7 ct7 : Value}
    (a7 : PySem.W.nsIn K mainGlobals "form_of_piece" = some (some (.ref f7))) (l7 : K.lookup f7 = some ⟨oc7, od7, .func (PySem.W.fnOf "form_of_piece" "form_of_piece" (defArgs s_form_of_piece) (defBody s_form_of_piece) (defScope s_form_of_piece) .none kV7 dc7 pm7 an7 cd7 ct7), sl7⟩) (d7 : PySem.W.codeIn K cd7 "form_of_piece" = true) (e7 : PySem.W.keepIn K (.ref f7) = true)
    {f8 : Addr} {od8 an8 : Option Addr} {sl8 : Array (Option Value)} {oc8 kV8 dc8 pm8 cd8 ct8 : Value}
    (a8 : PySem.W.nsIn K mainGlobals "block_sum" = some (some (.ref f8))) (l8 : K.lookup f8 = some ⟨oc8, od8, .func (PySem.W.fnOf "block_sum" "block_sum" (defArgs s_block_sum) (defBody s_block_sum) (defScope s_block_sum) .none kV8 dc8 pm8 an8 cd8 ct8), sl8⟩) (d8 : PySem.W.codeIn K cd8 "block_sum" = true) (e8 : PySem.W.keepIn K (.ref f8) = true)
    {f9 : Addr} {od9 an9 : Option Addr} {sl9 : Array (Option Value)} {oc9 kV9 dc9 pm9 cd9 ct9 : Value}
    (a9 : PySem.W.nsIn K mainGlobals "check_odd" = some (some (.ref f9))) (l9 : K.lookup f9 = some ⟨oc9, od9, .func (PySem.W.fnOf "check_odd" "check_odd" (defArgs s_check_odd) (defBody s_check_odd) (defScope s_check_odd) .none kV9 dc9 pm9 an9 cd9 ct9), sl9⟩) (d9 : PySem.W.codeIn K cd9 "check_odd" = true) (e9 : PySem.W.keepIn K (.ref f9) = true)
    {f10 : Addr} {od10 an10 : Option Addr} {sl10 : Array (Option Value)} {oc10 kV10 dc10 pm10 cd10 ct10 : Value}
    (a10 : PySem.W.nsIn K mainGlobals "check_kind" = some (some (.ref f10))) (l10 : K.lookup f10 = some ⟨oc10, od10, .func (PySem.W.fnOf "check_kind" "check_kind" (defArgs s_check_kind) (defBody s_check_kind) (defScope s_check_kind) .none kV10 dc10 pm10 an10 cd10 ct10), sl10⟩) (d10 : PySem.W.codeIn K cd10 "check_kind" = true) (e10 : PySem.W.keepIn K (.ref f10) = true)
    {f11 : Addr} {od11 an11 : Option Addr} {sl11 : Array (Option Value)} {oc11 kV11 dc11 pm11 cd11 ct11 : Value}
    (a11 : PySem.W.nsIn K mainGlobals "squares_turned" = some (some (.ref f11))) (l11 : K.lookup f11 = some ⟨oc11, od11, .func (PySem.W.fnOf "squares_turned" "squares_turned" (defArgs s_squares_turned) (defBody s_squares_turned) (defScope s_squares_turned) .none kV11 dc11 pm11 an11 cd11 ct11), sl11⟩) (d11 : PySem.W.codeIn K cd11 "squares_turned" = true) (e11 : PySem.W.keepIn K (.ref f11) = true)
    {f12 : Addr} {od12 an12 : Option Addr} {sl12 : Array (Option Value)} {oc12 kV12 dc12 pm12 cd12 ct12 : Value}
    (a12 : PySem.W.nsIn K mainGlobals "square_beside_pair" = some (some (.ref f12))) (l12 : K.lookup f12 = some ⟨oc12, od12, .func (PySem.W.fnOf "square_beside_pair" "square_beside_pair" (defArgs s_square_beside_pair) (defBody s_square_beside_pair) (defScope s_square_beside_pair) .none kV12 dc12 pm12 an12 cd12 ct12), sl12⟩) (d12 : PySem.W.codeIn K cd12 "square_beside_pair" = true) (e12 : PySem.W.keepIn K (.ref f12) = true)
    {f13 : Addr} {od13 an13 : Option Addr} {sl13 : Array (Option Value)} {oc13 kV13 dc13 pm13 cd13 ct13 : Value}
    (a13 : PySem.W.nsIn K mainGlobals "pair_beside_square" = some (some (.ref f13))) (l13 : K.lookup f13 = some ⟨oc13, od13, .func (PySem.W.fnOf "pair_beside_square" "pair_beside_square" (defArgs s_pair_beside_square) (defBody s_pair_beside_square) (defScope s_pair_beside_square) .none kV13 dc13 pm13 an13 cd13 ct13), sl13⟩) (d13 : PySem.W.codeIn K cd13 "pair_beside_square" = true) (e13 : PySem.W.keepIn K (.ref f13) = true)
    {f14 : Addr} {od14 an14 : Option Addr} {sl14 : Array (Option Value)} {oc14 kV14 dc14 pm14 cd14 ct14 : Value}
    (a14 : PySem.W.nsIn K mainGlobals "pairs_turned" = some (some (.ref f14))) (l14 : K.lookup f14 = some ⟨oc14, od14, .func (PySem.W.fnOf "pairs_turned" "pairs_turned" (defArgs s_pairs_turned) (defBody s_pairs_turned) (defScope s_pairs_turned) .none kV14 dc14 pm14 an14 cd14 ct14), sl14⟩) (d14 : PySem.W.codeIn K cd14 "pairs_turned" = true) (e14 : PySem.W.keepIn K (.ref f14) = true)
    {f15 : Addr} {od15 an15 : Option Addr} {sl15 : Array (Option Value)} {oc15 kV15 dc15 pm15 cd15 ct15 : Value}
    (a15 : PySem.W.nsIn K mainGlobals "_law_hash" = some (some (.ref f15))) (l15 : K.lookup f15 = some ⟨oc15, od15, .func (PySem.W.fnOf "_law_hash" "_law_hash" (defArgs s__law_hash) (defBody s__law_hash) (defScope s__law_hash) .none kV15 dc15 pm15 an15 cd15 ct15), sl15⟩) (d15 : PySem.W.codeIn K cd15 "_law_hash" = true) (e15 : PySem.W.keepIn K (.ref f15) = true)
    {f16 : Addr} {od16 an16 : Option Addr} {sl16 : Array (Option Value)} {oc16 kV16 dc16 pm16 cd16 ct16 : Value}
    (a16 : PySem.W.nsIn K mainGlobals "_law_random" = some (some (.ref f16))) (l16 : K.lookup f16 = some ⟨oc16, od16, .func (PySem.W.fnOf "_law_random" "_law_random" (defArgs s__law_random) (defBody s__law_random) (defScope s__law_random) .none kV16 dc16 pm16 an16 cd16 ct16), sl16⟩) (d16 : PySem.W.codeIn K cd16 "_law_random" = true) (e16 : PySem.W.keepIn K (.ref f16) = true)
    {f17 : Addr} {od17 an17 : Option Addr} {sl17 : Array (Option Value)} {oc17 kV17 dc17 pm17 cd17 ct17 : Value}
    (a17 : PySem.W.nsIn K mainGlobals "_law_cell" = some (some (.ref f17))) (l17 : K.lookup f17 = some ⟨oc17, od17, .func (PySem.W.fnOf "_law_cell" "_law_cell" (defArgs s__law_cell) (defBody s__law_cell) (defScope s__law_cell) .none kV17 dc17 pm17 an17 cd17 ct17), sl17⟩) (d17 : PySem.W.codeIn K cd17 "_law_cell" = true) (e17 : PySem.W.keepIn K (.ref f17) = true)
    {f18 : Addr} {od18 an18 : Option Addr} {sl18 : Array (Option Value)} {oc18 kV18 dc18 pm18 cd18 ct18 : Value}
    (a18 : PySem.W.nsIn K mainGlobals "_law_generator" = some (some (.ref f18))) (l18 : K.lookup f18 = some ⟨oc18, od18, .func (PySem.W.fnOf "_law_generator" "_law_generator" (defArgs s__law_generator) (defBody s__law_generator) (defScope s__law_generator) .none kV18 dc18 pm18 an18 cd18 ct18), sl18⟩) (d18 : PySem.W.codeIn K cd18 "_law_generator" = true) (e18 : PySem.W.keepIn K (.ref f18) = true)
    {f19 : Addr} {od19 an19 : Option Addr} {sl19 : Array (Option Value)} {oc19 kV19 dc19 pm19 cd19 ct19 : Value}
    (a19 : PySem.W.nsIn K mainGlobals "_law_power" = some (some (.ref f19))) (l19 : K.lookup f19 = some ⟨oc19, od19, .func (PySem.W.fnOf "_law_power" "_law_power" (defArgs s__law_power) (defBody s__law_power) (defScope s__law_power) .none kV19 dc19 pm19 an19 cd19 ct19), sl19⟩) (d19 : PySem.W.codeIn K cd19 "_law_power" = true) (e19 : PySem.W.keepIn K (.ref f19) = true)
    {f20 : Addr} {od20 an20 : Option Addr} {sl20 : Array (Option Value)} {oc20 kV20 dc20 pm20 cd20 ct20 : Value}
    (a20 : PySem.W.nsIn K mainGlobals "_law_same" = some (some (.ref f20))) (l20 : K.lookup f20 = some ⟨oc20, od20, .func (PySem.W.fnOf "_law_same" "_law_same" (defArgs s__law_same) (defBody s__law_same) (defScope s__law_same) .none kV20 dc20 pm20 an20 cd20 ct20), sl20⟩) (d20 : PySem.W.codeIn K cd20 "_law_same" = true) (e20 : PySem.W.keepIn K (.ref f20) = true)
    {f21 : Addr} {od21 an21 : Option Addr} {sl21 : Array (Option Value)} {oc21 kV21 dc21 pm21 cd21 ct21 : Value}
    (a21 : PySem.W.nsIn K mainGlobals "_law_signed" = some (some (.ref f21))) (l21 : K.lookup f21 = some ⟨oc21, od21, .func (PySem.W.fnOf "_law_signed" "_law_signed" (defArgs s__law_signed) (defBody s__law_signed) (defScope s__law_signed) .none kV21 dc21 pm21 an21 cd21 ct21), sl21⟩) (d21 : PySem.W.codeIn K cd21 "_law_signed" = true) (e21 : PySem.W.keepIn K (.ref f21) = true)
    {f22 : Addr} {od22 an22 : Option Addr} {sl22 : Array (Option Value)} {oc22 kV22 dc22 pm22 cd22 ct22 : Value}
    (a22 : PySem.W.nsIn K mainGlobals "_law_odd" = some (some (.ref f22))) (l22 : K.lookup f22 = some ⟨oc22, od22, .func (PySem.W.fnOf "_law_odd" "_law_odd" (defArgs s__law_odd) (defBody s__law_odd) (defScope s__law_odd) .none kV22 dc22 pm22 an22 cd22 ct22), sl22⟩) (d22 : PySem.W.codeIn K cd22 "_law_odd" = true) (e22 : PySem.W.keepIn K (.ref f22) = true)
    {f23 : Addr} {od23 an23 : Option Addr} {sl23 : Array (Option Value)} {oc23 kV23 dc23 pm23 cd23 ct23 : Value}
    (a23 : PySem.W.nsIn K mainGlobals "_law_product" = some (some (.ref f23))) (l23 : K.lookup f23 = some ⟨oc23, od23, .func (PySem.W.fnOf "_law_product" "_law_product" (defArgs s__law_product) (defBody s__law_product) (defScope s__law_product) .none kV23 dc23 pm23 an23 cd23 ct23), sl23⟩) (d23 : PySem.W.codeIn K cd23 "_law_product" = true) (e23 : PySem.W.keepIn K (.ref f23) = true)
    {f24 : Addr} {od24 an24 : Option Addr} {sl24 : Array (Option Value)} {oc24 kV24 dc24 pm24 cd24 ct24 : Value}
    (a24 : PySem.W.nsIn K mainGlobals "_law_over" = some (some (.ref f24))) (l24 : K.lookup f24 = some ⟨oc24, od24, .func (PySem.W.fnOf "_law_over" "_law_over" (defArgs s__law_over) (defBody s__law_over) (defScope s__law_over) .none kV24 dc24 pm24 an24 cd24 ct24), sl24⟩) (d24 : PySem.W.codeIn K cd24 "_law_over" = true) (e24 : PySem.W.keepIn K (.ref f24) = true)
    {f25 : Addr} {od25 an25 : Option Addr} {sl25 : Array (Option Value)} {oc25 kV25 dc25 pm25 cd25 ct25 : Value}
    (a25 : PySem.W.nsIn K mainGlobals "_law_changed" = some (some (.ref f25))) (l25 : K.lookup f25 = some ⟨oc25, od25, .func (PySem.W.fnOf "_law_changed" "_law_changed" (defArgs s__law_changed) (defBody s__law_changed) (defScope s__law_changed) .none kV25 dc25 pm25 an25 cd25 ct25), sl25⟩) (d25 : PySem.W.codeIn K cd25 "_law_changed" = true) (e25 : PySem.W.keepIn K (.ref f25) = true)
    {f26 : Addr} {od26 an26 : Option Addr} {sl26 : Array (Option Value)} {oc26 kV26 dc26 pm26 cd26 ct26 : Value}
    (a26 : PySem.W.nsIn K mainGlobals "_law_bits_product" = some (some (.ref f26))) (l26 : K.lookup f26 = some ⟨oc26, od26, .func (PySem.W.fnOf "_law_bits_product" "_law_bits_product" (defArgs s__law_bits_product) (defBody s__law_bits_product) (defScope s__law_bits_product) .none kV26 dc26 pm26 an26 cd26 ct26), sl26⟩) (d26 : PySem.W.codeIn K cd26 "_law_bits_product" = true) (e26 : PySem.W.keepIn K (.ref f26) = true)
    {f27 : Addr} {od27 an27 : Option Addr} {sl27 : Array (Option Value)} {oc27 kV27 dc27 pm27 cd27 ct27 : Value}
    (a27 : PySem.W.nsIn K mainGlobals "_law_squares_right" = some (some (.ref f27))) (l27 : K.lookup f27 = some ⟨oc27, od27, .func (PySem.W.fnOf "_law_squares_right" "_law_squares_right" (defArgs s__law_squares_right) (defBody s__law_squares_right) (defScope s__law_squares_right) .none kV27 dc27 pm27 an27 cd27 ct27), sl27⟩) (d27 : PySem.W.codeIn K cd27 "_law_squares_right" = true) (e27 : PySem.W.keepIn K (.ref f27) = true)
    {f28 : Addr} {od28 an28 : Option Addr} {sl28 : Array (Option Value)} {oc28 kV28 dc28 pm28 cd28 ct28 : Value}
    (a28 : PySem.W.nsIn K mainGlobals "_law_pair" = some (some (.ref f28))) (l28 : K.lookup f28 = some ⟨oc28, od28, .func (PySem.W.fnOf "_law_pair" "_law_pair" (defArgs s__law_pair) (defBody s__law_pair) (defScope s__law_pair) .none kV28 dc28 pm28 an28 cd28 ct28), sl28⟩) (d28 : PySem.W.codeIn K cd28 "_law_pair" = true) (e28 : PySem.W.keepIn K (.ref f28) = true)
    {f29 : Addr} {od29 an29 : Option Addr} {sl29 : Array (Option Value)} {oc29 kV29 dc29 pm29 cd29 ct29 : Value}
    (a29 : PySem.W.nsIn K mainGlobals "_law_beside" = some (some (.ref f29))) (l29 : K.lookup f29 = some ⟨oc29, od29, .func (PySem.W.fnOf "_law_beside" "_law_beside" (defArgs s__law_beside) (defBody s__law_beside) (defScope s__law_beside) .none kV29 dc29 pm29 an29 cd29 ct29), sl29⟩) (d29 : PySem.W.codeIn K cd29 "_law_beside" = true) (e29 : PySem.W.keepIn K (.ref f29) = true)
    {f30 : Addr} {od30 an30 : Option Addr} {sl30 : Array (Option Value)} {oc30 kV30 dc30 pm30 cd30 ct30 : Value}
    (a30 : PySem.W.nsIn K mainGlobals "_law_turned_pair" = some (some (.ref f30))) (l30 : K.lookup f30 = some ⟨oc30, od30, .func (PySem.W.fnOf "_law_turned_pair" "_law_turned_pair" (defArgs s__law_turned_pair) (defBody s__law_turned_pair) (defScope s__law_turned_pair) .none kV30 dc30 pm30 an30 cd30 ct30), sl30⟩) (d30 : PySem.W.codeIn K cd30 "_law_turned_pair" = true) (e30 : PySem.W.keepIn K (.ref f30) = true)
    {f31 : Addr} {od31 an31 : Option Addr} {sl31 : Array (Option Value)} {oc31 kV31 dc31 pm31 cd31 ct31 : Value}
    (a31 : PySem.W.nsIn K mainGlobals "_law_first_right" = some (some (.ref f31))) (l31 : K.lookup f31 = some ⟨oc31, od31, .func (PySem.W.fnOf "_law_first_right" "_law_first_right" (defArgs s__law_first_right) (defBody s__law_first_right) (defScope s__law_first_right) .none kV31 dc31 pm31 an31 cd31 ct31), sl31⟩) (d31 : PySem.W.codeIn K cd31 "_law_first_right" = true) (e31 : PySem.W.keepIn K (.ref f31) = true)
    {f32 : Addr} {od32 an32 : Option Addr} {sl32 : Array (Option Value)} {oc32 kV32 dc32 pm32 cd32 ct32 : Value}
    (a32 : PySem.W.nsIn K mainGlobals "_law_second_right" = some (some (.ref f32))) (l32 : K.lookup f32 = some ⟨oc32, od32, .func (PySem.W.fnOf "_law_second_right" "_law_second_right" (defArgs s__law_second_right) (defBody s__law_second_right) (defScope s__law_second_right) .none kV32 dc32 pm32 an32 cd32 ct32), sl32⟩) (d32 : PySem.W.codeIn K cd32 "_law_second_right" = true) (e32 : PySem.W.keepIn K (.ref f32) = true)
    {f33 : Addr} {od33 an33 : Option Addr} {sl33 : Array (Option Value)} {oc33 kV33 dc33 pm33 cd33 ct33 : Value}
    (a33 : PySem.W.nsIn K mainGlobals "_law_pairs_right" = some (some (.ref f33))) (l33 : K.lookup f33 = some ⟨oc33, od33, .func (PySem.W.fnOf "_law_pairs_right" "_law_pairs_right" (defArgs s__law_pairs_right) (defBody s__law_pairs_right) (defScope s__law_pairs_right) .none kV33 dc33 pm33 an33 cd33 ct33), sl33⟩) (d33 : PySem.W.codeIn K cd33 "_law_pairs_right" = true) (e33 : PySem.W.keepIn K (.ref f33) = true)
    {f34 : Addr} {od34 an34 : Option Addr} {sl34 : Array (Option Value)} {oc34 kV34 dc34 pm34 cd34 ct34 : Value}
    (a34 : PySem.W.nsIn K mainGlobals "_law_right" = some (some (.ref f34))) (l34 : K.lookup f34 = some ⟨oc34, od34, .func (PySem.W.fnOf "_law_right" "_law_right" (defArgs s__law_right) (defBody s__law_right) (defScope s__law_right) .none kV34 dc34 pm34 an34 cd34 ct34), sl34⟩) (d34 : PySem.W.codeIn K cd34 "_law_right" = true) (e34 : PySem.W.keepIn K (.ref f34) = true)
    {f35 : Addr} {od35 an35 : Option Addr} {sl35 : Array (Option Value)} {oc35 kV35 dc35 pm35 cd35 ct35 : Value}
    (a35 : PySem.W.nsIn K mainGlobals "law" = some (some (.ref f35))) (l35 : K.lookup f35 = some ⟨oc35, od35, .func (PySem.W.fnOf "law" "law" (defArgs s_law) (defBody s_law) (defScope s_law) .none kV35 dc35 pm35 an35 cd35 ct35), sl35⟩) (d35 : PySem.W.codeIn K cd35 "law" = true) (e35 : PySem.W.keepIn K (.ref f35) = true)
    (z_bool : PySem.W.nsIn K mainGlobals "bool" = some none)
    (z_int : PySem.W.nsIn K mainGlobals "int" = some none)
    (z_isinstance : PySem.W.nsIn K mainGlobals "isinstance" = some none)
    (z_len : PySem.W.nsIn K mainGlobals "len" = some none)
    (z_max : PySem.W.nsIn K mainGlobals "max" = some none)
    (z_min : PySem.W.nsIn K mainGlobals "min" = some none)
    (z_range : PySem.W.nsIn K mainGlobals "range" = some none)
    (z_repr : PySem.W.nsIn K mainGlobals "repr" = some none)
    (z_sum : PySem.W.nsIn K mainGlobals "sum" = some none)
    (z_tuple : PySem.W.nsIn K mainGlobals "tuple" = some none)
    (z_zip : PySem.W.nsIn K mainGlobals "zip" = some none)
    {t_c_MOST_SCALE : Tok} (c_MOST_SCALE : PySem.W.nsIn K mainGlobals "MOST_SCALE" = some (some (.int 64 t_c_MOST_SCALE))) :
    FnAt l.prog w K mg h 7 "law" 1 (sp0 K mg 1 F_law) := by
  have z_bool := PySem.W.mg_none_of X G z_bool
  have z_int := PySem.W.mg_none_of X G z_int
  have z_isinstance := PySem.W.mg_none_of X G z_isinstance
  have z_len := PySem.W.mg_none_of X G z_len
  have z_max := PySem.W.mg_none_of X G z_max
  have z_min := PySem.W.mg_none_of X G z_min
  have z_range := PySem.W.mg_none_of X G z_range
  have z_repr := PySem.W.mg_none_of X G z_repr
  have z_sum := PySem.W.mg_none_of X G z_sum
  have z_tuple := PySem.W.mg_none_of X G z_tuple
  have z_zip := PySem.W.mg_none_of X G z_zip
  have c_MOST_SCALE := cst_int X G c_MOST_SCALE
  have m0 := PySem.W.mg_of X G a0
  have U0 := fun_mk (st := s_is_whole) l0 d0 e0
  have g0 := fnG_of0 U0 sc_is_whole rfl (b_is_whole (P := l.prog) (w := w) (K := K) (mg := mg) (base := h) (fa := f0) z_bool z_int z_isinstance)
  have h_is_whole : FnAt l.prog w K mg h 1 "is_whole" 1 (sp0 K mg 1 F_is_whole) := g0.at U0 m0 rfl (U0.binds (ps := ["value"]) fun _ _ _ _ _ _ us hl => match us, hl with | [_], _ => rfl)
  have m1 := PySem.W.mg_of X G a1
  have U1 := fun_mk (st := s_is_between) l1 d1 e1
  have g1 := fnG_of0 U1 sc_is_between rfl (b_is_between (P := l.prog) (w := w) (K := K) (mg := mg) (base := h) (fa := f1) (h_is_whole.mono (by decide)))
  have h_is_between : FnAt l.prog w K mg h 2 "is_between" 3 (sp0 K mg 3 F_is_between) := g1.at U1 m1 rfl (U1.binds (ps := ["value", "low", "high"]) fun _ _ _ _ _ _ us hl => match us, hl with | [_, _, _], _ => rfl)
  have m2 := PySem.W.mg_of X G a2
  have U2 := fun_mk (st := s_check_number) l2 d2 e2
  have g2 := fnG_of0 U2 sc_check_number rfl (b_check_number (P := l.prog) (w := w) (K := K) (mg := mg) (base := h) (fa := f2) (h_is_between.mono (by decide)))
  have h_check_number : FnAt l.prog w K mg h 3 "check_number" 3 (sp0 K mg 3 F_check_number) := g2.at U2 m2 rfl (U2.binds (ps := ["number", "low", "high"]) fun _ _ _ _ _ _ us hl => match us, hl with | [_, _, _], _ => rfl)
  have m3 := PySem.W.mg_of X G a3
  have U3 := fun_mk (st := s_power_of_two) l3 d3 e3
  have g3 := fnG_of0 U3 sc_power_of_two rfl (b_power_of_two (P := l.prog) (w := w) (K := K) (mg := mg) (base := h) (fa := f3) )
  have h_power_of_two : FnAt l.prog w K mg h 1 "power_of_two" 1 (sp0 K mg 1 F_power_of_two) := g3.at U3 m3 rfl (U3.binds (ps := ["many"]) fun _ _ _ _ _ _ us hl => match us, hl with | [_], _ => rfl)
  have m4 := PySem.W.mg_of X G a4
  have U4 := fun_mk (st := s_turned_over) l4 d4 e4
  have g4 := fnG_of0 U4 sc_turned_over rfl (b_turned_over (P := l.prog) (w := w) (K := K) (mg := mg) (base := h) (fa := f4) z_len z_range)
  have h_turned_over : FnAt l.prog w K mg h 1 "turned_over" 1 (sp0 K mg 1 F_turned_over) := g4.at U4 m4 rfl (U4.binds (ps := ["rows"]) fun _ _ _ _ _ _ us hl => match us, hl with | [_], _ => rfl)
  have m5 := PySem.W.mg_of X G a5
  have U5 := fun_mk (st := s_product_of) l5 d5 e5
  have g5 := fnG_of0 U5 sc_product_of rfl (b_product_of (P := l.prog) (w := w) (K := K) (mg := mg) (base := h) (fa := f5) (h_turned_over.mono (by decide)) z_sum z_zip)
  have h_product_of : FnAt l.prog w K mg h 2 "product_of" 2 (sp0 K mg 2 F_product_of) := g5.at U5 m5 rfl (U5.binds (ps := ["one", "other"]) fun _ _ _ _ _ _ us hl => match us, hl with | [_, _], _ => rfl)
  have m6 := PySem.W.mg_of X G a6
  have U6 := fun_mk (st := s_changed_by) l6 d6 e6
  have g6 := fnG_of0 U6 sc_changed_by rfl (b_changed_by (P := l.prog) (w := w) (K := K) (mg := mg) (base := h) (fa := f6) (h_product_of.mono (by decide)) (h_turned_over.mono (by decide)))
  have h_changed_by : FnAt l.prog w K mg h 3 "changed_by" 2 (sp0 K mg 2 F_changed_by) := g6.at U6 m6 rfl (U6.binds (ps := ["form", "change"]) fun _ _ _ _ _ _ us hl => match us, hl with | [_, _], _ => rfl)
  have m7 := PySem.W.mg_of X G a7
  have U7 := fun_mk (st := s_form_of_piece) l7 d7 e7
  have g7 := fnG_of0 U7 sc_form_of_piece rfl (b_form_of_piece (P := l.prog) (w := w) (K := K) (mg := mg) (base := h) (fa := f7) (h_power_of_two.mono (by decide)))
  have h_form_of_piece : FnAt l.prog w K mg h 2 "form_of_piece" 1 (sp0 K mg 1 F_form_of_piece) := g7.at U7 m7 rfl (U7.binds (ps := ["piece"]) fun _ _ _ _ _ _ us hl => match us, hl with | [_], _ => rfl)
  have m8 := PySem.W.mg_of X G a8
  have U8 := fun_mk (st := s_block_sum) l8 d8 e8
  have g8 := fnG_of0 U8 sc_block_sum rfl (b_block_sum (P := l.prog) (w := w) (K := K) (mg := mg) (base := h) (fa := f8) z_len)
  have h_block_sum : FnAt l.prog w K mg h 1 "block_sum" 2 (sp0 K mg 2 F_block_sum) := g8.at U8 m8 rfl (U8.binds (ps := ["one", "other"]) fun _ _ _ _ _ _ us hl => match us, hl with | [_, _], _ => rfl)
  have m9 := PySem.W.mg_of X G a9
  have U9 := fun_mk (st := s_check_odd) l9 d9 e9
  have g9 := fnG_of0 U9 sc_check_odd rfl (b_check_odd (P := l.prog) (w := w) (K := K) (mg := mg) (base := h) (fa := f9) (h_is_whole.mono (by decide)))
  have h_check_odd : FnAt l.prog w K mg h 2 "check_odd" 1 (sp0 K mg 1 F_check_odd) := g9.at U9 m9 rfl (U9.binds (ps := ["number"]) fun _ _ _ _ _ _ us hl => match us, hl with | [_], _ => rfl)
  have m10 := PySem.W.mg_of X G a10
  have U10 := fun_mk (st := s_check_kind) l10 d10 e10
  have g10 := fnG_of0 U10 sc_check_kind rfl (b_check_kind (P := l.prog) (w := w) (K := K) (mg := mg) (base := h) (fa := f10) (h_is_whole.mono (by decide)))
  have h_check_kind : FnAt l.prog w K mg h 2 "check_kind" 1 (sp0 K mg 1 F_check_kind) := g10.at U10 m10 rfl (U10.binds (ps := ["kind"]) fun _ _ _ _ _ _ us hl => match us, hl with | [_], _ => rfl)
  have m11 := PySem.W.mg_of X G a11
  have U11 := fun_mk (st := s_squares_turned) l11 d11 e11
  have g11 := fnG_of0 U11 sc_squares_turned rfl (b_squares_turned (P := l.prog) (w := w) (K := K) (mg := mg) (base := h) (fa := f11) c_MOST_SCALE (h_check_number.mono (by decide)) (h_check_odd.mono (by decide)) (h_is_whole.mono (by decide)) (h_power_of_two.mono (by decide)))
  have h_squares_turned : FnAt l.prog w K mg h 4 "squares_turned" 5 (sp0 K mg 5 F_squares_turned) := g11.at U11 m11 rfl (U11.binds (ps := ["low", "one", "high", "other", "number"]) fun _ _ _ _ _ _ us hl => match us, hl with | [_, _, _, _, _], _ => rfl)
  have m12 := PySem.W.mg_of X G a12
  have U12 := fun_mk (st := s_square_beside_pair) l12 d12 e12
  have g12 := fnG_of0 U12 sc_square_beside_pair rfl (b_square_beside_pair (P := l.prog) (w := w) (K := K) (mg := mg) (base := h) (fa := f12) c_MOST_SCALE (h_block_sum.mono (by decide)) (h_changed_by.mono (by decide)) (h_check_kind.mono (by decide)) (h_check_number.mono (by decide)) (h_check_odd.mono (by decide)) (h_form_of_piece.mono (by decide)) (h_power_of_two.mono (by decide)) (h_turned_over.mono (by decide)))
  have h_square_beside_pair : FnAt l.prog w K mg h 4 "square_beside_pair" 4 (sp0 K mg 4 F_square_beside_pair) := g12.at U12 m12 rfl (U12.binds (ps := ["low", "one", "high", "kind"]) fun _ _ _ _ _ _ us hl => match us, hl with | [_, _, _, _], _ => rfl)
  have m13 := PySem.W.mg_of X G a13
  have U13 := fun_mk (st := s_pair_beside_square) l13 d13 e13
  have g13 := fnG_of0 U13 sc_pair_beside_square rfl (b_pair_beside_square (P := l.prog) (w := w) (K := K) (mg := mg) (base := h) (fa := f13) c_MOST_SCALE (h_block_sum.mono (by decide)) (h_changed_by.mono (by decide)) (h_check_kind.mono (by decide)) (h_check_number.mono (by decide)) (h_check_odd.mono (by decide)) (h_form_of_piece.mono (by decide)) (h_power_of_two.mono (by decide)) (h_turned_over.mono (by decide)))
  have h_pair_beside_square : FnAt l.prog w K mg h 4 "pair_beside_square" 4 (sp0 K mg 4 F_pair_beside_square) := g13.at U13 m13 rfl (U13.binds (ps := ["low", "kind", "high", "one"]) fun _ _ _ _ _ _ us hl => match us, hl with | [_, _, _, _], _ => rfl)
  have m14 := PySem.W.mg_of X G a14
  have U14 := fun_mk (st := s_pairs_turned) l14 d14 e14
  have g14 := fnG_of0 U14 sc_pairs_turned rfl (b_pairs_turned (P := l.prog) (w := w) (K := K) (mg := mg) (base := h) (fa := f14) c_MOST_SCALE (h_block_sum.mono (by decide)) (h_changed_by.mono (by decide)) (h_check_number.mono (by decide)) (h_form_of_piece.mono (by decide)) (h_turned_over.mono (by decide)))
  have h_pairs_turned : FnAt l.prog w K mg h 4 "pairs_turned" 1 (sp0 K mg 1 F_pairs_turned) := g14.at U14 m14 rfl (U14.binds (ps := ["scale"]) fun _ _ _ _ _ _ us hl => match us, hl with | [_], _ => rfl)
  have m15 := PySem.W.mg_of X G a15
  have U15 := fun_mk (st := s__law_hash) l15 d15 e15
  have g15 := fnG_of0 U15 sc__law_hash rfl (b__law_hash (P := l.prog) (w := w) (K := K) (mg := mg) (base := h) (fa := f15) z_int)
  have h__law_hash : FnAt l.prog w K mg h 1 "_law_hash" 2 (sp0 K mg 2 F__law_hash) := g15.at U15 m15 rfl (U15.binds (ps := ["_law_seed", "_law_index"]) fun _ _ _ _ _ _ us hl => match us, hl with | [_, _], _ => rfl)
  have m16 := PySem.W.mg_of X G a16
  have U16 := fun_mk (st := s__law_random) l16 d16 e16
  have g16 := fnG_of1 U16 sc__law_random rfl (b__law_random (P := l.prog) (w := w) (K := K) (mg := mg) (base := h) (fa := f16) (h__law_hash.mono (by decide)) z_int z_range)
  have h__law_random : FnAt l.prog w K mg h 2 "_law_random" 2 (sp1 K mg 2 F__law_random) := g16.at U16 m16 rfl (U16.binds (ps := ["_law_generator_here", "_law_bound"]) fun _ _ _ _ _ _ us hl => match us, hl with | [_, _], _ => rfl)
  have m17 := PySem.W.mg_of X G a17
  have U17 := fun_mk (st := s__law_cell) l17 d17 e17
  have g17 := fnG_of0 U17 sc__law_cell rfl (b__law_cell (P := l.prog) (w := w) (K := K) (mg := mg) (base := h) (fa := f17) z_len z_sum)
  have h__law_cell : FnAt l.prog w K mg h 1 "_law_cell" 2 (sp0 K mg 2 F__law_cell) := g17.at U17 m17 rfl (U17.binds (ps := ["_law_script", "_law_index"]) fun _ _ _ _ _ _ us hl => match us, hl with | [_, _], _ => rfl)
  have m18 := PySem.W.mg_of X G a18
  have U18 := fun_mk (st := s__law_generator) l18 d18 e18
  have g18 := fnG_of0 U18 sc__law_generator rfl (b__law_generator (P := l.prog) (w := w) (K := K) (mg := mg) (base := h) (fa := f18) (h__law_cell.mono (by decide)) z_int z_max)
  have h__law_generator : FnAt l.prog w K mg h 2 "_law_generator" 2 (sp0 K mg 2 F__law_generator) := g18.at U18 m18 rfl (U18.binds (ps := ["_law_script", "_law_index"]) fun _ _ _ _ _ _ us hl => match us, hl with | [_, _], _ => rfl)
  have m19 := PySem.W.mg_of X G a19
  have U19 := fun_mk (st := s__law_power) l19 d19 e19
  have g19 := fnG_of0 U19 sc__law_power rfl (b__law_power (P := l.prog) (w := w) (K := K) (mg := mg) (base := h) (fa := f19) z_range)
  have h__law_power : FnAt l.prog w K mg h 1 "_law_power" 1 (sp0 K mg 1 F__law_power) := g19.at U19 m19 rfl (U19.binds (ps := ["_law_many"]) fun _ _ _ _ _ _ us hl => match us, hl with | [_], _ => rfl)
  have m20 := PySem.W.mg_of X G a20
  have U20 := fun_mk (st := s__law_same) l20 d20 e20
  have g20 := fnG_of0 U20 sc__law_same rfl (b__law_same (P := l.prog) (w := w) (K := K) (mg := mg) (base := h) (fa := f20) z_repr)
  have h__law_same : FnAt l.prog w K mg h 1 "_law_same" 2 (sp0 K mg 2 F__law_same) := g20.at U20 m20 rfl (U20.binds (ps := ["_law_told", "_law_due"]) fun _ _ _ _ _ _ us hl => match us, hl with | [_, _], _ => rfl)
  have m21 := PySem.W.mg_of X G a21
  have U21 := fun_mk (st := s__law_signed) l21 d21 e21
  have g21 := fnG_of1 U21 sc__law_signed rfl (b__law_signed (P := l.prog) (w := w) (K := K) (mg := mg) (base := h) (fa := f21) (h__law_random.mono (by decide)))
  have h__law_signed : FnAt l.prog w K mg h 3 "_law_signed" 2 (sp1 K mg 2 F__law_signed) := g21.at U21 m21 rfl (U21.binds (ps := ["_law_generator_here", "_law_most"]) fun _ _ _ _ _ _ us hl => match us, hl with | [_, _], _ => rfl)
  have m22 := PySem.W.mg_of X G a22
  have U22 := fun_mk (st := s__law_odd) l22 d22 e22
  have g22 := fnG_of1 U22 sc__law_odd rfl (b__law_odd (P := l.prog) (w := w) (K := K) (mg := mg) (base := h) (fa := f22) (h__law_signed.mono (by decide)))
  have h__law_odd : FnAt l.prog w K mg h 4 "_law_odd" 2 (sp1 K mg 2 F__law_odd) := g22.at U22 m22 rfl (U22.binds (ps := ["_law_generator_here", "_law_most"]) fun _ _ _ _ _ _ us hl => match us, hl with | [_, _], _ => rfl)
  have m23 := PySem.W.mg_of X G a23
  have U23 := fun_mk (st := s__law_product) l23 d23 e23
  have g23 := fnG_of0 U23 sc__law_product rfl (b__law_product (P := l.prog) (w := w) (K := K) (mg := mg) (base := h) (fa := f23) z_len z_range z_sum z_zip)
  have h__law_product : FnAt l.prog w K mg h 1 "_law_product" 2 (sp0 K mg 2 F__law_product) := g23.at U23 m23 rfl (U23.binds (ps := ["_law_one", "_law_other"]) fun _ _ _ _ _ _ us hl => match us, hl with | [_, _], _ => rfl)
  have m24 := PySem.W.mg_of X G a24
  have U24 := fun_mk (st := s__law_over) l24 d24 e24
  have g24 := fnG_of0 U24 sc__law_over rfl (b__law_over (P := l.prog) (w := w) (K := K) (mg := mg) (base := h) (fa := f24) z_len z_range)
  have h__law_over : FnAt l.prog w K mg h 1 "_law_over" 1 (sp0 K mg 1 F__law_over) := g24.at U24 m24 rfl (U24.binds (ps := ["_law_rows"]) fun _ _ _ _ _ _ us hl => match us, hl with | [_], _ => rfl)
  have m25 := PySem.W.mg_of X G a25
  have U25 := fun_mk (st := s__law_changed) l25 d25 e25
  have g25 := fnG_of0 U25 sc__law_changed rfl (b__law_changed (P := l.prog) (w := w) (K := K) (mg := mg) (base := h) (fa := f25) (h__law_over.mono (by decide)) (h__law_product.mono (by decide)))
  have h__law_changed : FnAt l.prog w K mg h 2 "_law_changed" 2 (sp0 K mg 2 F__law_changed) := g25.at U25 m25 rfl (U25.binds (ps := ["_law_form", "_law_change"]) fun _ _ _ _ _ _ us hl => match us, hl with | [_, _], _ => rfl)
  have m26 := PySem.W.mg_of X G a26
  have U26 := fun_mk (st := s__law_bits_product) l26 d26 e26
  have g26 := fnG_of0 U26 sc__law_bits_product rfl (b__law_bits_product (P := l.prog) (w := w) (K := K) (mg := mg) (base := h) (fa := f26) z_int z_len z_range z_zip)
  have h__law_bits_product : FnAt l.prog w K mg h 1 "_law_bits_product" 1 (sp0 K mg 1 F__law_bits_product) := g26.at U26 m26 rfl (U26.binds (ps := ["_law_rows"]) fun _ _ _ _ _ _ us hl => match us, hl with | [_], _ => rfl)
  have m27 := PySem.W.mg_of X G a27
  have U27 := fun_mk (st := s__law_squares_right) l27 d27 e27
  have kw_squares_turned_43210_4 := (g11.up (by decide : 4 ≤ 4)).kw (ks := ["number", "other", "high", "one", "low"]) (p := [4, 3, 2, 1, 0]) U11 m11 rfl (fun _ _ _ _ _ _ ws hl => match ws, hl with | [_, _, _, _, _], _ => rfl)
  have g27 := fnG_of1 U27 sc__law_squares_right rfl (b__law_squares_right (P := l.prog) (w := w) (K := K) (mg := mg) (base := h) (fa := f27) (h__law_changed.mono (by decide)) (h__law_odd.mono (by decide)) (h__law_power.mono (by decide)) (h__law_random.mono (by decide)) (h__law_same.mono (by decide)) (h__law_signed.mono (by decide)) (h_squares_turned.mono (by decide)) kw_squares_turned_43210_4 z_isinstance z_min z_tuple)
  have h__law_squares_right : FnAt l.prog w K mg h 5 "_law_squares_right" 1 (sp1 K mg 1 F__law_squares_right) := g27.at U27 m27 rfl (U27.binds (ps := ["_law_generator_here"]) fun _ _ _ _ _ _ us hl => match us, hl with | [_], _ => rfl)
  have m28 := PySem.W.mg_of X G a28
  have U28 := fun_mk (st := s__law_pair) l28 d28 e28
  have g28 := fnG_of0 U28 sc__law_pair rfl (b__law_pair (P := l.prog) (w := w) (K := K) (mg := mg) (base := h) (fa := f28) (h__law_power.mono (by decide)))
  have h__law_pair : FnAt l.prog w K mg h 2 "_law_pair" 2 (sp0 K mg 2 F__law_pair) := g28.at U28 m28 rfl (U28.binds (ps := ["_law_scale", "_law_kind"]) fun _ _ _ _ _ _ us hl => match us, hl with | [_, _], _ => rfl)
  have m29 := PySem.W.mg_of X G a29
  have U29 := fun_mk (st := s__law_beside) l29 d29 e29
  have g29 := fnG_of0 U29 sc__law_beside rfl (b__law_beside (P := l.prog) (w := w) (K := K) (mg := mg) (base := h) (fa := f29) z_len)
  have h__law_beside : FnAt l.prog w K mg h 1 "_law_beside" 2 (sp0 K mg 2 F__law_beside) := g29.at U29 m29 rfl (U29.binds (ps := ["_law_one", "_law_other"]) fun _ _ _ _ _ _ us hl => match us, hl with | [_, _], _ => rfl)
  have m30 := PySem.W.mg_of X G a30
  have U30 := fun_mk (st := s__law_turned_pair) l30 d30 e30
  have g30 := fnG_of0 U30 sc__law_turned_pair rfl (b__law_turned_pair (P := l.prog) (w := w) (K := K) (mg := mg) (base := h) (fa := f30) (h__law_power.mono (by decide)) z_int)
  have h__law_turned_pair : FnAt l.prog w K mg h 2 "_law_turned_pair" 2 (sp0 K mg 2 F__law_turned_pair) := g30.at U30 m30 rfl (U30.binds (ps := ["_law_rows", "_law_scale"]) fun _ _ _ _ _ _ us hl => match us, hl with | [_, _], _ => rfl)
  have m31 := PySem.W.mg_of X G a31
  have U31 := fun_mk (st := s__law_first_right) l31 d31 e31
  have kw_square_beside_pair_3210_4 := (g12.up (by decide : 4 ≤ 4)).kw (ks := ["kind", "high", "one", "low"]) (p := [3, 2, 1, 0]) U12 m12 rfl (fun _ _ _ _ _ _ ws hl => match ws, hl with | [_, _, _, _], _ => rfl)
  have g31 := fnG_of0 U31 sc__law_first_right rfl (b__law_first_right (P := l.prog) (w := w) (K := K) (mg := mg) (base := h) (fa := f31) (h__law_beside.mono (by decide)) (h__law_bits_product.mono (by decide)) (h__law_changed.mono (by decide)) (h__law_over.mono (by decide)) (h__law_pair.mono (by decide)) (h__law_power.mono (by decide)) (h__law_same.mono (by decide)) (h__law_turned_pair.mono (by decide)) (h_square_beside_pair.mono (by decide)) kw_square_beside_pair_3210_4 z_int)
  have h__law_first_right : FnAt l.prog w K mg h 5 "_law_first_right" 5 (sp0 K mg 5 F__law_first_right) := g31.at U31 m31 rfl (U31.binds (ps := ["_law_generator_here", "_law_low", "_law_high", "_law_one", "_law_kind"]) fun _ _ _ _ _ _ us hl => match us, hl with | [_, _, _, _, _], _ => rfl)
  have m32 := PySem.W.mg_of X G a32
  have U32 := fun_mk (st := s__law_second_right) l32 d32 e32
  have kw_pair_beside_square_3210_4 := (g13.up (by decide : 4 ≤ 4)).kw (ks := ["one", "high", "kind", "low"]) (p := [3, 2, 1, 0]) U13 m13 rfl (fun _ _ _ _ _ _ ws hl => match ws, hl with | [_, _, _, _], _ => rfl)
  have g32 := fnG_of0 U32 sc__law_second_right rfl (b__law_second_right (P := l.prog) (w := w) (K := K) (mg := mg) (base := h) (fa := f32) (h__law_beside.mono (by decide)) (h__law_bits_product.mono (by decide)) (h__law_changed.mono (by decide)) (h__law_over.mono (by decide)) (h__law_pair.mono (by decide)) (h__law_power.mono (by decide)) (h__law_same.mono (by decide)) (h__law_turned_pair.mono (by decide)) (h_pair_beside_square.mono (by decide)) kw_pair_beside_square_3210_4 z_int)
  have h__law_second_right : FnAt l.prog w K mg h 5 "_law_second_right" 5 (sp0 K mg 5 F__law_second_right) := g32.at U32 m32 rfl (U32.binds (ps := ["_law_generator_here", "_law_low", "_law_high", "_law_one", "_law_kind"]) fun _ _ _ _ _ _ us hl => match us, hl with | [_, _, _, _, _], _ => rfl)
  have m33 := PySem.W.mg_of X G a33
  have U33 := fun_mk (st := s__law_pairs_right) l33 d33 e33
  have kw_pairs_turned_0_4 := (g14.up (by decide : 4 ≤ 4)).kw (ks := ["scale"]) (p := [0]) U14 m14 rfl (fun _ _ _ _ _ _ ws hl => match ws, hl with | [_], _ => rfl)
  have g33 := fnG_of0 U33 sc__law_pairs_right rfl (b__law_pairs_right (P := l.prog) (w := w) (K := K) (mg := mg) (base := h) (fa := f33) (h__law_beside.mono (by decide)) (h__law_bits_product.mono (by decide)) (h__law_changed.mono (by decide)) (h__law_over.mono (by decide)) (h__law_pair.mono (by decide)) (h__law_same.mono (by decide)) (h__law_turned_pair.mono (by decide)) (h_pairs_turned.mono (by decide)) kw_pairs_turned_0_4)
  have h__law_pairs_right : FnAt l.prog w K mg h 5 "_law_pairs_right" 1 (sp0 K mg 1 F__law_pairs_right) := g33.at U33 m33 rfl (U33.binds (ps := ["_law_scale"]) fun _ _ _ _ _ _ us hl => match us, hl with | [_], _ => rfl)
  have m34 := PySem.W.mg_of X G a34
  have U34 := fun_mk (st := s__law_right) l34 d34 e34
  have g34 := fnG_of1 U34 sc__law_right rfl (b__law_right (P := l.prog) (w := w) (K := K) (mg := mg) (base := h) (fa := f34) (h__law_first_right.mono (by decide)) (h__law_odd.mono (by decide)) (h__law_pairs_right.mono (by decide)) (h__law_random.mono (by decide)) (h__law_second_right.mono (by decide)) (h__law_squares_right.mono (by decide)) z_min)
  have h__law_right : FnAt l.prog w K mg h 6 "_law_right" 1 (sp1 K mg 1 F__law_right) := g34.at U34 m34 rfl (U34.binds (ps := ["_law_generator_here"]) fun _ _ _ _ _ _ us hl => match us, hl with | [_], _ => rfl)
  have m35 := PySem.W.mg_of X G a35
  have U35 := fun_mk (st := s_law) l35 d35 e35
  have g35 := fnG_of0 U35 sc_law rfl (b_law (P := l.prog) (w := w) (K := K) (mg := mg) (base := h) (fa := f35) (h__law_generator.mono (by decide)) (h__law_right.mono (by decide)) (h__law_same.mono (by decide)) (h_pair_beside_square.mono (by decide)) (h_square_beside_pair.mono (by decide)) (h_squares_turned.mono (by decide)) z_range)
  have h_law : FnAt l.prog w K mg h 7 "law" 1 (sp0 K mg 1 F_law) := g35.at U35 m35 rfl (U35.binds (ps := ["_law_script"]) fun _ _ _ _ _ _ us hl => match us, hl with | [_], _ => rfl)
  exact h_law
end Mn
open PySem PySem.W PyProof.Rows
set_option maxHeartbeats 0 in
theorem PySem.Challenge.cw_wordsquares_k26_whole_written_changes_holds : PySem.Challenge.rw_wordsquares_k26_whole_written_changes.Holds := by
  w_on; o_law; k_head; (case hw => w_witness2)
  k_fill
  refine Mn.walk_ofM (l := PySem.Challenge.rw_wordsquares_k26_whole_written_changes) (n := 63) (k := 7) (Fl := Mn.F_law) rfl (by decide) rfl (Mn.room_caller (by decide)) Mn.guards_caller (fun w h Y => PySem.W.kIn_of Y) ?F Mn.law_holds
  case F =>
    intro w mg base KX G
    refine' Mn.all_mk KX G ?a0 ?l0 ?d0 ?e0 ?a1 ?l1 ?d1 ?e1 ?a2 ?l2 ?d2 ?e2 ?a3 ?l3 ?d3 ?e3 ?a4 ?l4 ?d4 ?e4 ?a5 ?l5 ?d5 ?e5 ?a6 ?l6 ?d6 ?e6 ?a7 ?l7 ?d7 ?e7 ?a8 ?l8 ?d8 ?e8 ?a9 ?l9 ?d9 ?e9 ?a10 ?l10 ?d10 ?e10 ?a11 ?l11 ?d11 ?e11 ?a12 ?l12 ?d12 ?e12 ?a13 ?l13 ?d13 ?e13 ?a14 ?l14 ?d14 ?e14 ?a15 ?l15 ?d15 ?e15 ?a16 ?l16 ?d16 ?e16 ?a17 ?l17 ?d17 ?e17 ?a18 ?l18 ?d18 ?e18 ?a19 ?l19 ?d19 ?e19 ?a20 ?l20 ?d20 ?e20 ?a21 ?l21 ?d21 ?e21 ?a22 ?l22 ?d22 ?e22 ?a23 ?l23 ?d23 ?e23 ?a24 ?l24 ?d24 ?e24 ?a25 ?l25 ?d25 ?e25 ?a26 ?l26 ?d26 ?e26 ?a27 ?l27 ?d27 ?e27 ?a28 ?l28 ?d28 ?e28 ?a29 ?l29 ?d29 ?e29 ?a30 ?l30 ?d30 ?e30 ?a31 ?l31 ?d31 ?e31 ?a32 ?l32 ?d32 ?e32 ?a33 ?l33 ?d33 ?e33 ?a34 ?l34 ?d34 ?e34 ?a35 ?l35 ?d35 ?e35 ?z_bool ?z_int ?z_isinstance ?z_len ?z_max ?z_min ?z_range ?z_repr ?z_sum ?z_tuple ?z_zip ?c_MOST_SCALE
    (case a0 => k_is); (case l0 => k_is); (case d0 => k_is); (case e0 => k_is); (case a1 => k_is); (case l1 => k_is); (case d1 => k_is); (case e1 => k_is); (case a2 => k_is); (case l2 => k_is); (case d2 => k_is); (case e2 => k_is); (case a3 => k_is); (case l3 => k_is); (case d3 => k_is); (case e3 => k_is); (case a4 => k_is); (case l4 => k_is); (case d4 => k_is); (case e4 => k_is); (case a5 => k_is); (case l5 => k_is); (case d5 => k_is); (case e5 => k_is); (case a6 => k_is); (case l6 => k_is); (case d6 => k_is); (case e6 => k_is); (case a7 => k_is); (case l7 => k_is); (case d7 => k_is); (case e7 => k_is); (case a8 => k_is); (case l8 => k_is); (case d8 => k_is); (case e8 => k_is); (case a9 => k_is); (case l9 => k_is); (case d9 => k_is); (case e9 => k_is); (case a10 => k_is); (case l10 => k_is); (case d10 => k_is); (case e10 => k_is); (case a11 => k_is); (case l11 => k_is); (case d11 => k_is); (case e11 => k_is); (case a12 => k_is); (case l12 => k_is); (case d12 => k_is); (case e12 => k_is); (case a13 => k_is); (case l13 => k_is); (case d13 => k_is); (case e13 => k_is); (case a14 => k_is); (case l14 => k_is); (case d14 => k_is); (case e14 => k_is); (case a15 => k_is); (case l15 => k_is); (case d15 => k_is); (case e15 => k_is); (case a16 => k_is); (case l16 => k_is); (case d16 => k_is); (case e16 => k_is); (case a17 => k_is); (case l17 => k_is); (case d17 => k_is); (case e17 => k_is); (case a18 => k_is); (case l18 => k_is); (case d18 => k_is); (case e18 => k_is); (case a19 => k_is); (case l19 => k_is); (case d19 => k_is); (case e19 => k_is); (case a20 => k_is); (case l20 => k_is); (case d20 => k_is); (case e20 => k_is); (case a21 => k_is); (case l21 => k_is); (case d21 => k_is); (case e21 => k_is); (case a22 => k_is); (case l22 => k_is); (case d22 => k_is); (case e22 => k_is); (case a23 => k_is); (case l23 => k_is); (case d23 => k_is); (case e23 => k_is); (case a24 => k_is); (case l24 => k_is); (case d24 => k_is); (case e24 => k_is); (case a25 => k_is); (case l25 => k_is); (case d25 => k_is); (case e25 => k_is); (case a26 => k_is); (case l26 => k_is); (case d26 => k_is); (case e26 => k_is); (case a27 => k_is); (case l27 => k_is); (case d27 => k_is); (case e27 => k_is); (case a28 => k_is); (case l28 => k_is); (case d28 => k_is); (case e28 => k_is); (case a29 => k_is); (case l29 => k_is); (case d29 => k_is); (case e29 => k_is); (case a30 => k_is); (case l30 => k_is); (case d30 => k_is); (case e30 => k_is); (case a31 => k_is); (case l31 => k_is); (case d31 => k_is); (case e31 => k_is); (case a32 => k_is); (case l32 => k_is); (case d32 => k_is); (case e32 => k_is); (case a33 => k_is); (case l33 => k_is); (case d33 => k_is); (case e33 => k_is); (case a34 => k_is); (case l34 => k_is); (case d34 => k_is); (case e34 => k_is); (case a35 => k_is); (case l35 => k_is); (case d35 => k_is); (case e35 => k_is); (case z_bool => k_is); (case z_int => k_is); (case z_isinstance => k_is); (case z_len => k_is); (case z_max => k_is); (case z_min => k_is); (case z_range => k_is); (case z_repr => k_is); (case z_sum => k_is); (case z_tuple => k_is); (case z_zip => k_is); (case c_MOST_SCALE => k_is)
namespace Mn
end Mn

