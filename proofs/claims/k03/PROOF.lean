import PyProof.Rows.All
import Wide.All
import OpenK.AllK
import Wide.FinOn
import KE.KStateDown
import Lean
import HandS.Base
import HandS.Call
import HandS.List
import HandS.Comp
import HandS.Iter
import HandS.Ends
import HandS.Dict
import HandS.Text
import HandS.More
import HandS.Exc
import HandS.Words
import HandS.WordsList
import HandS.WordsExc
import HandS.Defaults
import HandS.Wide
import HandS.WideBits
import HandS.IsInst
import HandS.Style
import HandS.StrMore
import HandS.SetKeys
import HandS.Head0
import HandS.Head1
import HandS.Head2
import HandS.HeadEnd
import HandS.HeadHook1
import HandS.HeadHook2
import HandS.HeadHook3
import HandS.HeadHook4
import HandS.HeadWalk
import PySem.Challenge.RW_farfloor_k03_bits_turned
set_option Elab.async false
set_option linter.all false
set_option maxRecDepth 100000
set_option maxHeartbeats 2000000
/-! The tree layer: what stands in the heap told by trees; the readings of the hand layer over environments of trees. -/
namespace Ff
open PySem PySem.Spec PyProof.Rows L2

inductive T where
  | non | bl (b : Bool) | int (i : Int) | str (s : Str)
  | lst (xs : List T) | tup (xs : List T)
  | ins (c : Nat) (ds : List T)
  | scr (ns : List Int)
  | ext (φ : V → Hp → Prop)

/-- the classes, by number: names, fields -/
def cln : Nat → Str
  | 0 => "Steps" | 1 => "Floor" | 2 => "Move" | 3 => "Half" | 4 => "Left" | 5 => "Right" | 6 => "FlipX" | 7 => "FlipY" | 8 => "Diag" | 9 => "Anti" | _ => ""
def fns : Nat → List Str
  | 0 => ["wide", "slip", "high"] | 1 => ["rows", "steps"] | _ => ["p", "q"]

def Ex (H H' : Hp) : Prop := ∀ a o, H a = some o → H' a = some o
theorem Ex.refl (H : Hp) : Ex H H := fun _ _ h => h
theorem Ex.trans {H H1 H2 : Hp} (a : Ex H H1) (b : Ex H1 H2) : Ex H H2 := fun x o h => b x o (a x o h)
theorem Ex.new {H : Hp} {p : Addr} {o : HO} (h : H p = none) : Ex H (upd H p o) := fun a u e => by
  rw [upd_ne (ne_of_none e h)]
  exact e
theorem Ex.mut {H H' : Hp} {p : Addr} {o : HO} (e : Ex H H') (h : H p = none) : Ex H (upd H' p o) := fun a u ha => by
  rw [upd_ne (ne_of_none ha h)]
  exact e a u ha
theorem Ex.back {H H' : Hp} {p : Addr} (e : Ex H H') (h : H' p = none) : H p = none := by
  cases h1 : H p with
  | none => rfl
  | some o => rw [e p o h1] at h; cases h
theorem Ex.put {B H : Hp} {p : Addr} {o : HO} (e : Ex B H) (h : H p = some o) : Ex (upd B p o) H := fun a u ha => by
  unfold upd at ha
  split at ha
  · rename_i q; subst q; cases ha; exact h
  · exact e a u ha
theorem Ex.rd {H H' : Hp} {a : Addr} {u : HO} (e : Ex H H') (h : Rd H a u) : Rd H' a u := by
  rcases h with h | ⟨o, h⟩
  · exact .inl (e a _ h)
  · exact .inr ⟨o, e a _ h⟩
theorem Ex.sl {K : PySem.W.Frag} {H H' : Hp} {a : Addr} {xs : List V} (e : Ex H H') (h : SqL K H a xs) : SqL K H' a xs := h.elim (fun z => .inl (e.rd z)) .inr
theorem Ex.st {K : PySem.W.Frag} {H H' : Hp} {a : Addr} {xs : List V} (e : Ex H H') (h : SqT K H a xs) : SqT K H' a xs := h.elim (fun z => .inl (e.rd z)) .inr

mutual
def Is (K : PySem.W.Frag) (H : Hp) : T → V → Prop
  | .non, v => v = .non
  | .bl b, v => v = .bl b
  | .int i, v => v = .int i
  | .str s, v => v = .str s
  | .lst ds, v => ∃ a xs, v = .ref a ∧ H a = some (.lst xs) ∧ IsAll K H ds xs
  | .tup ds, v => ∃ a xs, v = .ref a ∧ SqT K H a xs ∧ IsAll K H ds xs
  | .ins c ds, v => ∃ a dx xs, v = .ref a ∧ H a = some (.ins (He.ga K (cln c)) dx ((fns c).zip xs)) ∧ (fns c).length = xs.length ∧ IsAll K H ds xs
  | .scr ns, v => ∃ a, v = .ref a ∧ SqL K H a (ns.map V.int)
  | .ext φ, v => φ v H ∧ ∀ H1 H2, Ex H1 H2 → φ v H1 → φ v H2
def IsAll (K : PySem.W.Frag) (H : Hp) : List T → List V → Prop
  | [], xs => xs = []
  | d :: ds, xs => ∃ v vs, xs = v :: vs ∧ Is K H d v ∧ IsAll K H ds vs
end

mutual
theorem Is.mono {K : PySem.W.Frag} {H H' : Hp} (e : Ex H H') : ∀ (d : T) (v : V), Is K H d v → Is K H' d v
  | .non, _, h => h
  | .bl _, _, h => h
  | .int _, _, h => h
  | .str _, _, h => h
  | .lst ds, v, h => by
    obtain ⟨a, xs, e1, e2, e3⟩ := (show ∃ a xs, v = .ref a ∧ H a = some (.lst xs) ∧ IsAll K H ds xs from h)
    exact ⟨a, xs, e1, e _ _ e2, IsAll.mono e ds xs e3⟩
  | .tup ds, v, h => by
    obtain ⟨a, xs, e1, e2, e3⟩ := (show ∃ a xs, v = .ref a ∧ SqT K H a xs ∧ IsAll K H ds xs from h)
    exact ⟨a, xs, e1, e.st e2, IsAll.mono e ds xs e3⟩
  | .ins c ds, v, h => by
    obtain ⟨a, dx, xs, e1, e2, e3, e4⟩ := (show ∃ a dx xs, v = .ref a ∧ H a = some (.ins (He.ga K (cln c)) dx ((fns c).zip xs)) ∧ (fns c).length = xs.length ∧ IsAll K H ds xs from h)
    exact ⟨a, dx, xs, e1, e _ _ e2, e3, IsAll.mono e ds xs e4⟩
  | .scr ns, v, h => by
    obtain ⟨a, e1, e2⟩ := (show ∃ a, v = .ref a ∧ SqL K H a (ns.map V.int) from h)
    exact ⟨a, e1, e.sl e2⟩
  | .ext φ, v, h => by
    obtain ⟨h1, h2⟩ := (show φ v H ∧ ∀ H1 H2, Ex H1 H2 → φ v H1 → φ v H2 from h)
    exact ⟨h2 _ _ e h1, h2⟩
theorem IsAll.mono {K : PySem.W.Frag} {H H' : Hp} (e : Ex H H') : ∀ (ds : List T) (xs : List V), IsAll K H ds xs → IsAll K H' ds xs
  | [], _, h => h
  | d :: ds, xs, h => by
    obtain ⟨v, vs, e1, e2, e3⟩ := (show ∃ v vs, xs = v :: vs ∧ Is K H d v ∧ IsAll K H ds vs from h)
    exact ⟨v, vs, e1, Is.mono e d v e2, IsAll.mono e ds vs e3⟩
end

section
variable {K : PySem.W.Frag} {H : Hp}
theorem IsAll.length : ∀ {ds : List T} {xs : List V}, IsAll K H ds xs → xs.length = ds.length
  | [], _, h => by have h : _ = [] := h; subst h; rfl
  | d :: ds, xs, h => by
    obtain ⟨v, vs, e1, e2, e3⟩ := (show ∃ v vs, xs = v :: vs ∧ Is K H d v ∧ IsAll K H ds vs from h)
    subst e1
    rw [List.length_cons, List.length_cons, IsAll.length e3]
theorem IsAll.cons {d : T} {ds : List T} {v : V} {vs : List V} (a : Is K H d v) (b : IsAll K H ds vs) : IsAll K H (d :: ds) (v :: vs) := ⟨v, vs, rfl, a, b⟩
theorem IsAll.uncons {d : T} {ds : List T} {xs : List V} (h : IsAll K H (d :: ds) xs) : ∃ v vs, xs = v :: vs ∧ Is K H d v ∧ IsAll K H ds vs := h
theorem IsAll.nil : IsAll K H [] [] := rfl
theorem IsAll.append : ∀ {ds es : List T} {xs ys : List V}, IsAll K H ds xs → IsAll K H es ys → IsAll K H (ds ++ es) (xs ++ ys)
  | [], _, _, _, h, g => by have h : _ = [] := h; subst h; exact g
  | d :: ds, es, xs, ys, h, g => by
    obtain ⟨v, vs, e1, e2, e3⟩ := IsAll.uncons h
    subst e1
    exact ⟨v, vs ++ ys, rfl, e2, IsAll.append e3 g⟩
theorem IsAll.get : ∀ {ds : List T} {xs : List V} {i : Nat} {d : T}, IsAll K H ds xs → ds[i]? = some d → ∃ v, xs[i]? = some v ∧ Is K H d v
  | [], _, _, _, _, e => by simp at e
  | d' :: ds, xs, 0, d, h, e => by
    obtain ⟨v, vs, e1, e2, e3⟩ := IsAll.uncons h
    subst e1
    simp at e; subst e
    exact ⟨v, rfl, e2⟩
  | d' :: ds, xs, i + 1, d, h, e => by
    obtain ⟨v, vs, e1, e2, e3⟩ := IsAll.uncons h
    subst e1
    obtain ⟨w, h1, h2⟩ := IsAll.get (i := i) (d := d) e3 (by simpa using e)
    exact ⟨w, by simpa using h1, h2⟩
theorem IsAll.get' {ds : List T} {xs : List V} {i : Nat} {v : V} (h : IsAll K H ds xs) (e : xs[i]? = some v) : ∃ d, ds[i]? = some d ∧ Is K H d v := by
  have hl := h.length
  have hi := (List.getElem?_eq_some_iff.mp e).1
  have hi2 : i < ds.length := by omega
  obtain ⟨w, h1, h2⟩ := h.get (i := i) (d := ds[i]) (by simp [hi2])
  rw [e] at h1; cases h1
  exact ⟨ds[i], by simp [hi2], h2⟩
theorem IsAll.take : ∀ {ds : List T} {xs : List V} (n : Nat), IsAll K H ds xs → IsAll K H (ds.take n) (xs.take n)
  | _, _, 0, _ => rfl
  | [], _, n + 1, h => by have h : _ = [] := h; subst h; rfl
  | d :: ds, xs, n + 1, h => by
    obtain ⟨v, vs, e1, e2, e3⟩ := IsAll.uncons h
    subst e1
    exact ⟨v, vs.take n, rfl, e2, IsAll.take n e3⟩
theorem IsAll.drop : ∀ {ds : List T} {xs : List V} (n : Nat), IsAll K H ds xs → IsAll K H (ds.drop n) (xs.drop n)
  | _, _, 0, h => h
  | [], _, n + 1, h => by have h : _ = [] := h; subst h; rfl
  | d :: ds, xs, n + 1, h => by
    obtain ⟨v, vs, e1, e2, e3⟩ := IsAll.uncons h
    subst e1
    exact IsAll.drop n e3
theorem IsAll.set {d : T} {v : V} (r : Is K H d v) : ∀ {ds : List T} {xs : List V} (i : Nat), IsAll K H ds xs → IsAll K H (ds.set i d) (xs.set i v)
  | [], _, _, h => by have h : _ = [] := h; subst h; rfl
  | d' :: ds, xs, 0, h => by
    obtain ⟨w, vs, e1, e2, e3⟩ := IsAll.uncons h
    subst e1
    exact ⟨v, vs, rfl, r, e3⟩
  | d' :: ds, xs, i + 1, h => by
    obtain ⟨w, vs, e1, e2, e3⟩ := IsAll.uncons h
    subst e1
    exact ⟨w, vs.set i v, rfl, e2, IsAll.set r i e3⟩
/-- lists of ints, of texts -/
theorem isAll_ints : ∀ {ns : List Int} {xs : List V}, IsAll K H (ns.map T.int) xs → xs = ns.map V.int
  | [], _, h => h
  | n :: ns, xs, h => by
    obtain ⟨v, vs, e1, e2, e3⟩ := IsAll.uncons h
    have e2 : v = .int n := e2
    rw [e1, e2, isAll_ints e3]; rfl
theorem ints_isAll : ∀ (ns : List Int), IsAll K H (ns.map T.int) (ns.map V.int)
  | [] => rfl
  | n :: ns => ⟨_, _, rfl, rfl, ints_isAll ns⟩
theorem isAll_strs : ∀ {ns : List Str} {xs : List V}, IsAll K H (ns.map T.str) xs → xs = ns.map V.str
  | [], _, h => h
  | n :: ns, xs, h => by
    obtain ⟨v, vs, e1, e2, e3⟩ := IsAll.uncons h
    have e2 : v = .str n := e2
    rw [e1, e2, isAll_strs e3]; rfl
theorem strs_isAll : ∀ (ns : List Str), IsAll K H (ns.map T.str) (ns.map V.str)
  | [] => rfl
  | n :: ns => ⟨_, _, rfl, rfl, strs_isAll ns⟩
end

/-! ### environments -/
inductive Sl where
  | val (d : T) | own (ds : List T) | bor (ds : List T)
def Sl.t : Sl → T
  | .val d => d
  | .own ds => .lst ds
  | .bor ds => .lst ds
/-- a temporary is frozen -/
def Sl.f : Sl → Sl
  | .own ds => .val (.lst ds)
  | s => s
abbrev Rho := List (Option Sl)
def IsSl (K : PySem.W.Frag) (H0 B H : Hp) : Sl → V → Prop
  | .val d, v => Is K B d v
  | .own ds, v => ∃ l xs, v = .ref l ∧ H0 l = none ∧ B l = none ∧ H l = some (.lst xs) ∧ IsAll K B ds xs
  | .bor ds, v => ∃ l xs, v = .ref l ∧ H l = some (.lst xs) ∧ IsAll K B ds xs
structure Rep (K : PySem.W.Frag) (B0 H0 : Hp) (ρ : Rho) (σ : L2.St) (B H : Hp) : Prop where
  ex : Ex B H
  ex0 : Ex H0 H
  b0 : Ex B0 B
  new : ∀ a, H0 a ≠ none → B a = B0 a
  len : σ.length = ρ.length
  at_ : ∀ (i : Nat) (s : Sl), ρ[i]? = some (some s) → ∃ v, σ[i]? = some (some v) ∧ IsSl K H0 B H s v
  nb : ∀ (i : Nat) (ds : List T), ρ[i]? ≠ some (some (.bor ds))
  sep : ∀ (i j : Nat) (ds es : List T) (v : V), i ≠ j → ρ[i]? = some (some (.own ds)) → ρ[j]? = some (some (.own es)) → σ[i]? = some (some v) → σ[j]? ≠ some (some v)
/-- a new temporary list is none that stood -/
def Fr (H : Hp) : Sl → V → Prop
  | .own _, v => ∀ l, v = .ref l → H l = none
  | _, _ => True
abbrev Fin (K : PySem.W.Frag) (B0 H0 B H : Hp) : Prop := Rep K B0 H0 [] [] B H

section
variable {K : PySem.W.Frag} {B0 H0 B B' H H' : Hp} {ρ : Rho} {σ : L2.St} {s : Sl} {v : V}
theorem IsSl.monoV (hs : ∀ ds, s ≠ .own ds) (h : IsSl K H0 B H s v) (e1 : Ex B B') (e2 : Ex H H') : IsSl K H0 B' H' s v := by
  cases s with
  | val d => exact Is.mono e1 d v h
  | own ds => exact absurd rfl (hs ds)
  | bor ds =>
    obtain ⟨l, xs, a, b, c⟩ := h
    exact ⟨l, xs, a, e2 _ _ b, IsAll.mono e1 _ _ c⟩
theorem f_notown {s : Sl} : ∀ ds, s.f ≠ .own ds := by
  cases s <;> intro ds h <;> cases h
theorem IsSl.monoF (h : IsSl K H0 B H s.f v) (e1 : Ex B B') (e2 : Ex H H') : IsSl K H0 B' H' s.f v := h.monoV f_notown e1 e2
/-- at the whole heap -/
theorem IsSl.isH (h : IsSl K H0 B H s v) (e : Ex B H) : Is K H s.t v := by
  cases s with
  | val d => exact Is.mono e d v h
  | own ds =>
    obtain ⟨l, xs, a, _, _, b, c⟩ := h
    exact ⟨l, xs, a, b, IsAll.mono e _ _ c⟩
  | bor ds =>
    obtain ⟨l, xs, a, b, c⟩ := h
    exact ⟨l, xs, a, b, IsAll.mono e _ _ c⟩
theorem Sl.f_t (s : Sl) : s.f.t = s.t := by cases s <;> rfl
theorem Rep.fin (R : Rep K B0 H0 ρ σ B H) : Fin K B0 H0 B H := ⟨R.ex, R.ex0, R.b0, R.new, rfl, fun i s h => by simp at h, fun i ds h => by simp at h, fun i j ds es v _ h => by simp at h⟩
/-- the heap grows, what is known grows by new things -/
theorem Rep.grow (R : Rep K B0 H0 ρ σ B H) (eB : Ex B B') (eH : Ex H H') (e : Ex B' H') (nw : ∀ a, H a ≠ none → B' a = B a) : Rep K B0 H0 ρ σ B' H' := by
  refine ⟨e, R.ex0.trans eH, R.b0.trans eB, fun a ha => ?_, R.len, fun i s h => ?_, R.nb, R.sep⟩
  · have h1 : H a ≠ none := fun z => ha (R.ex0.back z)
    rw [nw a h1, R.new a ha]
  · obtain ⟨v, h1, h2⟩ := R.at_ i s h
    refine ⟨v, h1, ?_⟩
    cases s with
    | val d => exact Is.mono eB d v h2
    | own ds =>
      obtain ⟨l, xs, a, b, c, d, g⟩ := h2
      exact ⟨l, xs, a, b, by rw [nw l (by rw [d]; simp)]; exact c, eH _ _ d, IsAll.mono eB _ _ g⟩
    | bor ds =>
      obtain ⟨l, xs, a, b, c⟩ := h2
      exact ⟨l, xs, a, eH _ _ b, IsAll.mono eB _ _ c⟩
theorem Rep.growH (R : Rep K B0 H0 ρ σ B H) (eH : Ex H H') : Rep K B0 H0 ρ σ B H' := R.grow (Ex.refl B) eH (R.ex.trans eH) fun _ _ => rfl
/-- a new object is laid and known -/
theorem Rep.laid {p : Addr} {o : HO} (R : Rep K B0 H0 ρ σ B H) (h : H p = none) : Rep K B0 H0 ρ σ (upd B p o) (upd H p o) := by
  have hB : B p = none := R.ex.back h
  refine R.grow (Ex.new hB) (Ex.new h) (fun a u ha => ?_) fun a ha => ?_
  · unfold upd at ha ⊢
    split
    · rename_i q; rw [if_pos q] at ha; exact ha
    · rename_i q; rw [if_neg q] at ha; exact R.ex a u ha
  · rw [upd_ne (fun z => ha (by rw [z]; exact h))]
/-- laid, but not (yet) known -/
theorem Rep.laidH {p : Addr} {o : HO} (R : Rep K B0 H0 ρ σ B H) (h : H p = none) : Rep K B0 H0 ρ σ B (upd H p o) := R.growH (Ex.new h)
/-- an own list of none of the slots becomes known -/
theorem Rep.know {l : Addr} {xs : List V} (R : Rep K B0 H0 ρ σ B H) (h0 : H0 l = none) (hB : B l = none) (hH : H l = some (.lst xs)) (ns : ∀ (i : Nat) (ds : List T), ρ[i]? = some (some (.own ds)) → σ[i]? ≠ some (some (.ref l))) : Rep K B0 H0 ρ σ (upd B l (.lst xs)) H := by
  have eB : Ex B (upd B l (.lst xs)) := Ex.new hB
  refine ⟨R.ex.put hH, R.ex0, R.b0.trans eB, fun a ha => ?_, R.len, fun i s h => ?_, R.nb, R.sep⟩
  · rw [upd_ne (fun z => ha (by rw [z]; exact h0))]
    exact R.new a ha
  · obtain ⟨v, h1, h2⟩ := R.at_ i s h
    refine ⟨v, h1, ?_⟩
    cases s with
    | val d => exact Is.mono eB d v h2
    | own ds =>
      obtain ⟨l', ys, a, b, c, d, g⟩ := h2
      have ne : l' ≠ l := fun z => ns i ds h (by rw [h1, a, z])
      exact ⟨l', ys, a, b, by rw [upd_ne ne]; exact c, d, IsAll.mono eB _ _ g⟩
    | bor ds =>
      obtain ⟨l', ys, a, b, c⟩ := h2
      exact ⟨l', ys, a, b, IsAll.mono eB _ _ c⟩
/-- own slots stood ahead of a fresh temporary -/
theorem Rep.apart {H1 : Hp} (R : Rep K B0 H0 ρ σ B H) {l : Addr} (f : H l = none) : ∀ (i : Nat) (ds : List T), ρ[i]? = some (some (.own ds)) → σ[i]? ≠ some (some (.ref l)) := fun i ds h z => by
  obtain ⟨v, h1, h2⟩ := R.at_ i _ h
  obtain ⟨l', ys, a, _, _, d, _⟩ := h2
  rw [z] at h1
  have e : V.ref l = v := Option.some.inj (Option.some.inj h1)
  rw [a] at e
  cases e
  rw [f] at d; cases d
/-- freezing a temporary: Rs is the state ahead of its making -/
theorem Rep.frz {Bs Hs : Hp} (Rs : Rep K B0 H0 ρ σ Bs Hs) (R : Rep K B0 H0 ρ σ B H) (h : IsSl K H0 B H s v) (f : Fr Hs s v) : ∃ B', Rep K B0 H0 ρ σ B' H ∧ Ex B B' ∧ IsSl K H0 B' H s.f v := by
  cases s with
  | val d => exact ⟨B, R, Ex.refl B, h⟩
  | bor ds => exact ⟨B, R, Ex.refl B, h⟩
  | own ds =>
    obtain ⟨l, xs, a, b, c, d, g⟩ := h
    have fl : Hs l = none := f l a
    have eB : Ex B (upd B l (.lst xs)) := Ex.new c
    exact ⟨_, R.know b c d (Rs.apart (H1 := H) fl), eB, ⟨l, xs, a, upd_same, IsAll.mono eB _ _ g⟩⟩
end

/-! ### codes over trees, and their readings -/
inductive Xc where
  | plain (c : Str) | row (c : Str) (i : Int)
def IsX (K : PySem.W.Frag) (H : Hp) : Xc → Value → Option Addr → Prop
  | .plain c, cls, d => cls = .ref (He.ga K c) ∧ d = none
  | .row c i, cls, d => cls = .ref (He.ga K c) ∧ ∃ a, d = some a ∧ H a = some (.xd [("row", .int i)])
abbrev E' := Rho → (Sl → Prop) → (Xc → Prop) → Prop
abbrev A' := Rho → (List Sl → Prop) → (Xc → Prop) → Prop
abbrev B' := Rho → (Bool → Prop) → (Xc → Prop) → Prop
abbrev S' := Rho → (Rho → Prop) → (Sl → Prop) → (Xc → Prop) → Prop
abbrev C' := List T → (Sl → Prop) → (Xc → Prop) → Prop
def SimE (K : PySem.W.Frag) (E : XK) (te : TE) (c : E') : Prop :=
  ∀ (B0 H0 : Hp) (ρ : Rho) (σ : L2.St) (B H : Hp) (k : Sl → Prop) (W : Xc → Prop) (Q : VK), Rep K B0 H0 ρ σ B H → c ρ k W →
    (∀ s v B' H', Rep K B0 H0 ρ σ B' H' → Ex B B' → Ex H H' → IsSl K H0 B' H' s v → Fr H s v → k s → Q v H') →
    (∀ x cls d H', W x → Ex H0 H' → IsX K H' x cls d → E cls d H') → te σ H Q
/-- several temporaries, frozen -/
def IsSls (K : PySem.W.Frag) (H0 B H : Hp) : List Sl → List V → Prop := fun ss vs => Paired (fun s v => IsSl K H0 B H s v ∧ s.f = s) ss vs
def SimA (K : PySem.W.Frag) (E : XK) (ta : TA) (c : A') : Prop :=
  ∀ (B0 H0 : Hp) (ρ : Rho) (σ : L2.St) (B H : Hp) (k : List Sl → Prop) (W : Xc → Prop) (Q : List V → Hp → Prop), Rep K B0 H0 ρ σ B H → c ρ k W →
    (∀ ss vs B' H', Rep K B0 H0 ρ σ B' H' → Ex B B' → Ex H H' → IsSls K H0 B' H' ss vs → k ss → Q vs H') →
    (∀ x cls d H', W x → Ex H0 H' → IsX K H' x cls d → E cls d H') → ta σ H Q
def SimB (K : PySem.W.Frag) (E : XK) (tt : TT) (c : B') : Prop :=
  ∀ (B0 H0 : Hp) (ρ : Rho) (σ : L2.St) (B H : Hp) (k : Bool → Prop) (W : Xc → Prop) (Q : Bool → Hp → Prop), Rep K B0 H0 ρ σ B H → c ρ k W →
    (∀ b B' H', Rep K B0 H0 ρ σ B' H' → Ex B B' → Ex H H' → k b → Q b H') →
    (∀ x cls d H', W x → Ex H0 H' → IsX K H' x cls d → E cls d H') → tt σ H Q
def SimS (K : PySem.W.Frag) (E : XK) (ts : TS) (c : S') : Prop :=
  ∀ (B0 H0 : Hp) (ρ : Rho) (σ : L2.St) (B H : Hp) (N : Rho → Prop) (R : Sl → Prop) (W : Xc → Prop) (D : Ends), Rep K B0 H0 ρ σ B H → c ρ N R W →
    (∀ ρ' σ' B' H', Rep K B0 H0 ρ' σ' B' H' → Ex B B' → N ρ' → D.nx σ' H') →
    (∀ s v B' H', Fin K B0 H0 B' H' → IsSl K H0 B' H' s v → R s → D.rt v H') →
    (∀ x cls d H', W x → Ex H0 H' → IsX K H' x cls d → E cls d H') → ts D σ H
/-- with the temporary frozen -/
theorem SimE.frz {K : PySem.W.Frag} {E : XK} {te : TE} {c : E'} (h : SimE K E te c) {B0 H0 : Hp} {ρ : Rho} {σ : L2.St} {B H : Hp} {k : Sl → Prop} {W : Xc → Prop} {Q : VK} (R : Rep K B0 H0 ρ σ B H)
    (hc : c ρ (fun s => k s.f) W) (q : ∀ s v B' H', Rep K B0 H0 ρ σ B' H' → Ex B B' → Ex H H' → IsSl K H0 B' H' s v → s.f = s → k s → Q v H')
    (w : ∀ x cls d H', W x → Ex H0 H' → IsX K H' x cls d → E cls d H') : te σ H Q := by
  refine h B0 H0 ρ σ B H _ W Q R hc (fun s v B' H' R' eB eH hs hf hk => ?_) w
  obtain ⟨B2, R2, e2, hs2⟩ := R.frz R' hs hf
  exact q s.f v B2 H' R2 (eB.trans e2) eH hs2 (by cases s <;> rfl) hk

/-! ### the judgements -/
structure PE' (X : Cx) (E : XK) (e : Expr) (c : E') : Prop where
  ex : ∃ te, PE X e te ∧ SimE X.K E te c
structure PA' (X : Cx) (E : XK) (es : List Expr) (c : A') : Prop where
  ex : ∃ ta, PA X es ta ∧ SimA X.K E ta c
structure PT' (X : Cx) (E : XK) (e : Expr) (c : B') : Prop where
  ex : ∃ tt, PT X e tt ∧ SimB X.K E tt c
structure PW' (X : Cx) (E : XK) (e : Expr) (c : B') : Prop where
  ex : ∃ tt, PW X e tt ∧ SimB X.K E tt c
structure PS' (X : Cx) (E : XK) (st : Stmt) (c : S') : Prop where
  ex : ∃ ts, PS X st ts ∧ SimS X.K E ts c
structure PSs' (X : Cx) (E : XK) (st : List Stmt) (c : S') : Prop where
  ex : ∃ ts, PSs X st ts ∧ SimS X.K E ts c
end Ff

/-! The tree layer: expressions, tests, arguments. -/
namespace Ff
open PySem PySem.Spec L2

section
variable {K : PySem.W.Frag} {E : XK} {B0 H0 B B1 B2 H H1 H2 Hs : Hp} {ρ : Rho} {σ : L2.St} {s : Sl} {v : V}
theorem Fr.back (e : Ex Hs H) (h : Fr H s v) : Fr Hs s v := by
  cases s with
  | val d => trivial
  | bor ds => trivial
  | own ds => exact fun l hl => e.back (h l hl)
theorem IsSl.keep (fx : s.f = s) (h : IsSl K H0 B H s v) (e1 : Ex B B1) (e2 : Ex H H1) : IsSl K H0 B1 H1 s v := by
  rw [← fx] at h ⊢
  exact h.monoF e1 e2
/-- what a value operation is to be: r on values, f on trees -/
def OpT (K : PySem.W.Frag) (r : R2) (f : Sl → Sl → (Sl → Prop) → Prop) : Prop :=
  ∀ (B0 H0 : Hp) (ρ : Rho) (σ : L2.St) (B H : Hp) (x y : Sl) (vx vy : V) (k : Sl → Prop) (Q : VK), Rep K B0 H0 ρ σ B H → IsSl K H0 B H x vx → x.f = x → IsSl K H0 B H y vy → y.f = y → f x y k →
    (∀ s v B' H', Rep K B0 H0 ρ σ B' H' → Ex B B' → Ex H H' → IsSl K H0 B' H' s v → Fr H s v → k s → Q v H') → r vx vy H Q
def UnT (K : PySem.W.Frag) (r : V → Hp → VK → Prop) (f : Sl → (Sl → Prop) → Prop) : Prop :=
  ∀ (B0 H0 : Hp) (ρ : Rho) (σ : L2.St) (B H : Hp) (x : Sl) (vx : V) (k : Sl → Prop) (Q : VK), Rep K B0 H0 ρ σ B H → IsSl K H0 B H x vx → x.f = x → f x k →
    (∀ s v B' H', Rep K B0 H0 ρ σ B' H' → Ex B B' → Ex H H' → IsSl K H0 B' H' s v → Fr H s v → k s → Q v H') → r vx H Q
def CaT (K : PySem.W.Frag) (r : List V → Hp → VK → Prop) (f : List Sl → (Sl → Prop) → Prop) : Prop :=
  ∀ (B0 H0 : Hp) (ρ : Rho) (σ : L2.St) (B H : Hp) (xs : List Sl) (vs : List V) (k : Sl → Prop) (Q : VK), Rep K B0 H0 ρ σ B H → IsSls K H0 B H xs vs → f xs k →
    (∀ s v B' H', Rep K B0 H0 ρ σ B' H' → Ex B B' → Ex H H' → IsSl K H0 B' H' s v → Fr H s v → k s → Q v H') → r vs H Q
def binC (f : Sl → Sl → (Sl → Prop) → Prop) (a b : E') : E' := fun ρ k W => a ρ (fun x => b ρ (fun y => f x.f y.f k) W) W
def unC (f : Sl → (Sl → Prop) → Prop) (a : E') : E' := fun ρ k W => a ρ (fun x => f x.f k) W
theorem simE_bin {r : R2} {f : Sl → Sl → (Sl → Prop) → Prop} {ta tb : TE} {ca cb : E'} (ho : OpT K r f) (ha : SimE K E ta ca) (hb : SimE K E tb cb) : SimE K E (tOp r ta tb) (binC f ca cb) := by
  intro B0 H0 ρ σ B H k W Q R hc q w
  refine ha.frz (k := fun x => cb ρ (fun y => f x y.f k) W) R hc (fun x vx B1 H1 R1 eB1 eH1 hx fx h1 => ?_) w
  refine hb.frz (k := fun y => f x y k) R1 h1 (fun y vy B2 H2 R2 eB2 eH2 hy fy h2 => ?_) w
  refine ho B0 H0 ρ σ B2 H2 x y vx vy k Q R2 (hx.keep fx eB2 eH2) fx hy fy h2 (fun s v B3 H3 R3 eB3 eH3 hs fs hk => ?_)
  exact q s v B3 H3 R3 (eB1.trans (eB2.trans eB3)) (eH1.trans (eH2.trans eH3)) hs (fs.back (eH1.trans eH2)) hk
theorem simE_un {r : V → Hp → VK → Prop} {f : Sl → (Sl → Prop) → Prop} {ta : TE} {ca : E'} (ho : UnT K r f) (ha : SimE K E ta ca) : SimE K E (tUn r ta) (unC f ca) := by
  intro B0 H0 ρ σ B H k W Q R hc q w
  refine ha.frz (k := fun x => f x k) R hc (fun x vx B1 H1 R1 eB1 eH1 hx fx h1 => ?_) w
  refine ho B0 H0 ρ σ B1 H1 x vx k Q R1 hx fx h1 (fun s v B3 H3 R3 eB3 eH3 hs fs hk => ?_)
  exact q s v B3 H3 R3 (eB1.trans eB3) (eH1.trans eH3) hs (fs.back eH1) hk

/-! ### names, constants -/
def varC (i : Nat) : E' := fun ρ k _ => match ρ[i]? with
  | some (some (.val d)) => k (.val d)
  | some (some (.own ds)) => k (.bor ds)
  | _ => False
def cstC (d : T) : E' := fun _ k _ => k (.val d)
theorem simE_var (i : Nat) : SimE K E (tVar i) (varC i) := by
  intro B0 H0 ρ σ B H k W Q R hc q w
  unfold varC at hc
  split at hc
  · rename_i d e
    obtain ⟨v, h1, h2⟩ := R.at_ i _ e
    exact ⟨v, h1, q _ v B H R (Ex.refl B) (Ex.refl H) h2 trivial hc⟩
  · rename_i ds e
    obtain ⟨v, h1, l, xs, a, b, c, d, g⟩ := R.at_ i _ e
    exact ⟨v, h1, q (.bor ds) v B H R (Ex.refl B) (Ex.refl H) ⟨l, xs, a, d, g⟩ trivial hc⟩
  · exact hc.elim
/-- the scalars, as values -/
def Sca : T → V → Prop
  | .non, v => v = .non
  | .bl b, v => v = .bl b
  | .int i, v => v = .int i
  | .str s, v => v = .str s
  | _, _ => False
theorem Sca.is {d : T} {v : V} (h : Sca d v) {B : Hp} : Is K B d v := by
  cases d <;> first | exact h | exact h.elim
theorem simE_cst {d : T} {v : V} (h : Sca d v) : SimE K E (tC v) (cstC d) := fun B0 H0 ρ σ B H k W Q R hc q w => q (.val d) v B H R (Ex.refl B) (Ex.refl H) h.is trivial hc

/-! ### arguments -/
def nilA : A' := fun _ k _ => k []
def consA (a : E') (r : A') : A' := fun ρ k W => a ρ (fun x => r ρ (fun xs => k (x.f :: xs)) W) W
theorem simA_nil : SimA K E tNil nilA := fun B0 H0 ρ σ B H k W Q R hc q w => q [] [] B H R (Ex.refl B) (Ex.refl H) .nil hc
theorem IsSls.keep {ss : List Sl} {vs : List V} (h : IsSls K H0 B H ss vs) (e1 : Ex B B1) (e2 : Ex H H1) : IsSls K H0 B1 H1 ss vs := Paired.mapP h fun s v ⟨a, b⟩ => ⟨a.keep b e1 e2, b⟩
theorem simA_cons {ta : TE} {tr : TA} {ca : E'} {cr : A'} (ha : SimE K E ta ca) (hr : SimA K E tr cr) : SimA K E (tCons ta tr) (consA ca cr) := by
  intro B0 H0 ρ σ B H k W Q R hc q w
  refine ha.frz (k := fun x => cr ρ (fun xs => k (x :: xs)) W) R hc (fun x vx B1 H1 R1 eB1 eH1 hx fx h1 => ?_) w
  refine hr B0 H0 ρ σ B1 H1 (fun xs => k (x :: xs)) W _ R1 h1 (fun ss vs B2 H2 R2 eB2 eH2 hs hk => ?_) w
  exact q (x :: ss) (vx :: vs) B2 H2 R2 (eB1.trans eB2) (eH1.trans eH2) (.cons ⟨hx.keep fx eB2 eH2, fx⟩ hs) hk
def noBor : List Sl → Bool
  | [] => true
  | .bor _ :: _ => false
  | _ :: r => noBor r
theorem IsSls.all : ∀ {ss : List Sl} {vs : List V}, IsSls K H0 B H ss vs → noBor ss = true → IsAll K B (ss.map Sl.t) vs
  | _, _, .nil, _ => rfl
  | s :: ss, v :: vs, .cons ⟨a, b⟩ r, h => by
    cases s with
    | val d => exact ⟨v, vs, rfl, a, IsSls.all r h⟩
    | own ds => cases b
    | bor ds => cases h
theorem IsSls.allH (e : Ex B H) : ∀ {ss : List Sl} {vs : List V}, IsSls K H0 B H ss vs → IsAll K H (ss.map Sl.t) vs
  | _, _, .nil => rfl
  | s :: ss, v :: vs, .cons ⟨a, b⟩ r => ⟨v, vs, rfl, a.isH e, IsSls.allH e r⟩
theorem IsSls.length {ss : List Sl} {vs : List V} (h : IsSls K H0 B H ss vs) : ss.length = vs.length := Paired.length h

/-! ### displays -/
def tupC (a : A') : E' := fun ρ k W => a ρ (fun ss => noBor ss = true ∧ ss.length ≤ 1000 ∧ k (.val (.tup (ss.map Sl.t)))) W
def lstC (a : A') : E' := fun ρ k W => a ρ (fun ss => noBor ss = true ∧ ss.length ≤ 1000 ∧ k (.own (ss.map Sl.t))) W
theorem le1000 {n : Nat} (h : n ≤ 1000) : n ≤ sizeLine := Nat.le_trans h (by decide)
theorem simE_tup {ta : TA} {ca : A'} (ha : SimA K E ta ca) : SimE K E (tTup ta) (tupC ca) := by
  intro B0 H0 ρ σ B H k W Q R hc q w
  refine ha B0 H0 ρ σ B H _ W _ R hc (fun ss vs B1 H1 R1 eB1 eH1 hs ⟨nb, hl, hk⟩ => ?_) w
  refine ⟨le1000 (by rw [← hs.length]; exact hl), fun p hp => ?_⟩
  have eB : Ex B1 (upd B1 p (.tup vs)) := Ex.new (R1.ex.back hp)
  exact q (.val (.tup (ss.map Sl.t))) (.ref p) _ _ (R1.laid hp) (eB1.trans eB) (eH1.trans (Ex.new hp)) ⟨p, vs, rfl, SqT.of upd_same, IsAll.mono eB _ _ (hs.all nb)⟩ trivial hk
theorem simE_lst {ta : TA} {ca : A'} (ha : SimA K E ta ca) : SimE K E (tLst ta) (lstC ca) := by
  intro B0 H0 ρ σ B H k W Q R hc q w
  refine ha B0 H0 ρ σ B H _ W _ R hc (fun ss vs B1 H1 R1 eB1 eH1 hs ⟨nb, hl, hk⟩ => ?_) w
  refine ⟨le1000 (by rw [← hs.length]; exact hl), fun p hp => ?_⟩
  refine q (.own (ss.map Sl.t)) (.ref p) B1 _ (R1.laidH hp) eB1 (eH1.trans (Ex.new hp)) ⟨p, vs, rfl, R1.ex0.back hp, R1.ex.back hp, upd_same, hs.all nb⟩ (fun l hl => ?_) hk
  cases hl
  exact eH1.back hp

/-! ### calls -/
def scalT : T → Bool
  | .non => true | .bl _ => true | .int _ => true | .str _ => true | _ => false
def scalS : Sl → Prop
  | .val d => scalT d = true
  | _ => False
def callF (C : C') (ss : List Sl) (k : Sl → Prop) (W : Xc → Prop) : Prop :=
  if noBor ss = true then C (ss.map Sl.t) k W else C (ss.map Sl.t) (fun s => scalS s ∧ k s) W
def callC (C : C') (a : A') : E' := fun ρ k W => a ρ (fun ss => callF C ss k fun _ => False) W
def callX (C : C') (a : A') : E' := fun ρ k W => a ρ (fun ss => callF C ss k W) W
/-- a def's promise by its contract over trees -/
def SpC (K : PySem.W.Frag) (C : C') : Sp := fun vs H Q E => ∃ (B : Hp) (ds : List T) (k : Sl → Prop) (W : Xc → Prop), Ex B H ∧ IsAll K B ds vs ∧ C ds k W ∧
  (∀ s v B' H', Fin K B H B' H' → IsSl K H B' H' s v → k s → Q v H') ∧ (∀ x cls d H', W x → Ex H H' → IsX K H' x cls d → E cls d H')
theorem Sca.of_is {d : T} {v : V} (h : scalT d = true) (hv : Is K B d v) : Sca d v := by
  cases d <;> first | exact hv | cases h
theorem callF_sim {C : C'} {ss : List Sl} {vs : List V} {k : Sl → Prop} {W : Xc → Prop} {Q : VK} (R : Rep K B0 H0 ρ σ B H) (hs : IsSls K H0 B H ss vs) (hc : callF C ss k W)
    (q : ∀ s v B' H', Rep K B0 H0 ρ σ B' H' → Ex B B' → Ex H H' → IsSl K H0 B' H' s v → Fr H s v → k s → Q v H') (w : ∀ x cls d H', W x → Ex H H' → IsX K H' x cls d → E cls d H') : SpC K C vs H Q E := by
  unfold callF at hc
  split at hc
  · rename_i nb
    refine ⟨B, ss.map Sl.t, k, W, R.ex, hs.all nb, hc, fun s v B' H' F hsl hk => ?_, w⟩
    have R' : Rep K B0 H0 ρ σ B' H' := R.grow F.b0 F.ex0 F.ex F.new
    refine q s v B' H' R' F.b0 F.ex0 ?_ ?_ hk
    · cases s with
      | val d => exact hsl
      | bor ds => exact hsl
      | own ds =>
        obtain ⟨l, xs, a, b, c⟩ := hsl
        exact ⟨l, xs, a, R.ex0.back b, c⟩
    · cases s with
      | val d => trivial
      | bor ds => trivial
      | own ds =>
        obtain ⟨l, xs, a, b, c⟩ := hsl
        intro l' e
        rw [a] at e; cases e
        exact b
  · refine ⟨H, ss.map Sl.t, _, W, Ex.refl H, hs.allH R.ex, hc, fun s v B' H' F hsl ⟨hsc, hk⟩ => ?_, w⟩
    cases s with
    | val d => exact q (.val d) v B H' (R.growH F.ex0) (Ex.refl B) F.ex0 (Sca.of_is hsc hsl).is trivial hk
    | bor ds => exact hsc.elim
    | own ds => exact hsc.elim
theorem simE_call {C : C'} {ta : TA} {ca : A'} (ha : SimA K E ta ca) : SimE K E (tCall (SpC K C) [] E0 ta) (callC C ca) := by
  intro B0 H0 ρ σ B H k W Q R hc q w
  refine ha B0 H0 ρ σ B H _ W _ R hc (fun ss vs B1 H1 R1 eB1 eH1 hs hk => ?_) w
  rw [List.append_nil]
  exact callF_sim R1 hs hk (fun s v B' H' R' e1 e2 h f hk => q s v B' H' R' (eB1.trans e1) (eH1.trans e2) h (f.back eH1) hk) fun _ _ _ _ z => z.elim
theorem simE_callX {C : C'} {ta : TA} {ca : A'} (ha : SimA K E ta ca) : SimE K E (tCall (SpC K C) [] E ta) (callX C ca) := by
  intro B0 H0 ρ σ B H k W Q R hc q w
  refine ha B0 H0 ρ σ B H _ W _ R hc (fun ss vs B1 H1 R1 eB1 eH1 hs hk => ?_) w
  rw [List.append_nil]
  exact callF_sim R1 hs hk (fun s v B' H' R' e1 e2 h f hk => q s v B' H' R' (eB1.trans e1) (eH1.trans e2) h (f.back eH1) hk) fun x cls d H' hw eH hx => w x cls d H' hw (R1.ex0.trans eH) hx
/-- with written defaults behind the arguments -/
def dflA (ds : List T) (a : A') : A' := fun ρ k W => a ρ (fun ss => k (ss ++ ds.map Sl.val)) W
inductive ScaAll : List T → List V → Prop
  | nil : ScaAll [] []
  | cons {d : T} {v : V} {ds : List T} {vs : List V} : Sca d v → ScaAll ds vs → ScaAll (d :: ds) (v :: vs)
theorem ScaAll.sls : ∀ {ds : List T} {dvs : List V}, ScaAll ds dvs → IsSls K H0 B H (ds.map Sl.val) dvs
  | _, _, .nil => .nil
  | _, _, .cons a r => .cons ⟨a.is, rfl⟩ (ScaAll.sls r)
theorem simE_callD {C : C'} {ta : TA} {ca : A'} {ds : List T} {dvs : List V} (hd : ScaAll ds dvs) (ha : SimA K E ta ca) : SimE K E (tCall (SpC K C) dvs E0 ta) (callC C (dflA ds ca)) := by
  intro B0 H0 ρ σ B H k W Q R hc q w
  refine ha B0 H0 ρ σ B H (fun ss => callF C (ss ++ ds.map Sl.val) k fun _ => False) W _ R hc (fun ss vs B1 H1 R1 eB1 eH1 hs hk => ?_) w
  have hs2 : IsSls K H0 B1 H1 (ss ++ ds.map Sl.val) (vs ++ dvs) := by
    have r2 : IsSls K H0 B1 H1 (ds.map Sl.val) dvs := hd.sls
    clear hk
    induction hs with
    | nil => exact r2
    | cons a _ ih => exact .cons a ih
  exact callF_sim R1 hs2 hk (fun s v B' H' R' e1 e2 h f hk => q s v B' H' R' (eB1.trans e1) (eH1.trans e2) h (f.back eH1) hk) fun _ _ _ _ z => z.elim
/-- a built-in by values -/
def blC (f : List Sl → (Sl → Prop) → Prop) (a : A') : E' := fun ρ k W => a ρ (fun ss => f ss k) W
theorem simE_cb {r : List V → Hp → VK → Prop} {f : List Sl → (Sl → Prop) → Prop} {ta : TA} {ca : A'} (ho : CaT K r f) (ha : SimA K E ta ca) : SimE K E (tCB r ta) (blC f ca) := by
  intro B0 H0 ρ σ B H k W Q R hc q w
  refine ha B0 H0 ρ σ B H _ W _ R hc (fun ss vs B1 H1 R1 eB1 eH1 hs hk => ?_) w
  exact ho B0 H0 ρ σ B1 H1 ss vs k Q R1 hs hk fun s v B' H' R' e1 e2 h f hk => q s v B' H' R' (eB1.trans e1) (eH1.trans e2) h (f.back eH1) hk

/-! ### tests -/
def truF : Sl → (Bool → Prop) → Prop
  | .val (.bl b), k => k b
  | .val .non, k => k false
  | .val (.int i), k => k (i != 0)
  | .val (.lst xs), k => k (!xs.isEmpty)
  | .val (.tup xs), k => k (!xs.isEmpty)
  | .bor xs, k => k (!xs.isEmpty)
  | _, _ => False
def truC (a : E') : B' := fun ρ k W => a ρ (fun x => truF x.f k) W
def blF : Sl → (Bool → Prop) → Prop
  | .val (.bl b), k => k b
  | _, _ => False
/-- a test whose value is a truth value -/
def tstC (a : E') : B' := fun ρ k W => a ρ (fun x => blF x.f k) W
theorem simB_test {ta : TE} {ca : E'} (ha : SimE K E ta ca) : SimB K E (tTest ta) (tstC ca) := by
  intro B0 H0 ρ σ B H k W Q R hc q w
  refine ha.frz (k := fun x => blF x k) R hc (fun x vx B1 H1 R1 eB1 eH1 hx fx h1 => ?_) w
  match x, h1, hx with
  | .val (.bl b), h1, hx => exact ⟨b, hx, q b B1 H1 R1 eB1 eH1 h1⟩
theorem simB_B {ta : TE} {ca : E'} (ha : SimE K E ta ca) : SimB K E (tB ta) (tstC ca) := by
  intro B0 H0 ρ σ B H k W Q R hc q w
  refine ha.frz (k := fun x => blF x k) R hc (fun x vx B1 H1 R1 eB1 eH1 hx fx h1 => ?_) w
  match x, h1, hx with
  | .val (.bl b), h1, hx => exact ⟨b, hx, q b B1 H1 R1 eB1 eH1 h1⟩
theorem isEmpty_all : ∀ {ds : List T} {xs : List V}, IsAll K B ds xs → ds.isEmpty = xs.isEmpty
  | [], _, h => by have h : _ = [] := h; subst h; rfl
  | d :: ds, xs, h => by obtain ⟨v, vs, e, _⟩ := IsAll.uncons h; subst e; rfl
theorem simB_tru {ta : TE} {ca : E'} (ha : SimE K E ta ca) : SimB K E (fun σ H Q => ta σ H fun x H' => ∃ k, TruV K x H' k ∧ Q k H') (truC ca) := by
  intro B0 H0 ρ σ B H k W Q R hc q w
  refine ha.frz (k := fun x => truF x k) R hc (fun x vx B1 H1 R1 eB1 eH1 hx fx h1 => ?_) w
  match x, h1, hx with
  | .val (.bl b), h1, hx => have hx : vx = .bl b := hx; subst hx; exact ⟨b, rfl, q b B1 H1 R1 eB1 eH1 h1⟩
  | .val .non, h1, hx => have hx : vx = .non := hx; subst hx; exact ⟨false, rfl, q false B1 H1 R1 eB1 eH1 h1⟩
  | .val (.int i), h1, hx => have hx : vx = .int i := hx; subst hx; exact ⟨_, rfl, q _ B1 H1 R1 eB1 eH1 h1⟩
  | .val (.lst ds), h1, hx =>
    obtain ⟨a, xs, e1, e2, e3⟩ := (show ∃ a xs, vx = .ref a ∧ B1 a = some (.lst xs) ∧ IsAll K B1 ds xs from hx)
    subst e1
    exact ⟨_, .inl ⟨xs, SqL.of (R1.ex _ _ e2), rfl⟩, q _ B1 H1 R1 eB1 eH1 (by rw [← isEmpty_all e3]; exact h1)⟩
  | .val (.tup ds), h1, hx =>
    obtain ⟨a, xs, e1, e2, e3⟩ := (show ∃ a xs, vx = .ref a ∧ SqT K B1 a xs ∧ IsAll K B1 ds xs from hx)
    subst e1
    exact ⟨_, .inr (.inl ⟨xs, R1.ex.st e2, rfl⟩), q _ B1 H1 R1 eB1 eH1 (by rw [← isEmpty_all e3]; exact h1)⟩
  | .bor ds, h1, hx =>
    obtain ⟨a, xs, e1, e2, e3⟩ := hx
    subst e1
    exact ⟨_, .inl ⟨xs, SqL.of e2, rfl⟩, q _ B1 H1 R1 eB1 eH1 (by rw [← isEmpty_all e3]; exact h1)⟩
def andC (a b : B') : B' := fun ρ k W => a ρ (fun c => if c = true then b ρ k W else k false) W
def orC (a b : B') : B' := fun ρ k W => a ρ (fun c => if c = true then k true else b ρ k W) W
def notC (a : B') : B' := fun ρ k W => a ρ (fun c => k (!c)) W
theorem simB_and {t u : TT} {ca cb : B'} (ha : SimB K E t ca) (hb : SimB K E u cb) : SimB K E (tAnd t u) (andC ca cb) := by
  intro B0 H0 ρ σ B H k W Q R hc q w
  refine ha B0 H0 ρ σ B H _ W _ R hc (fun c B1 H1 R1 eB1 eH1 h1 => ?_) w
  cases c with
  | true => exact hb B0 H0 ρ σ B1 H1 k W Q R1 h1 (fun b B2 H2 R2 e1 e2 h => q b B2 H2 R2 (eB1.trans e1) (eH1.trans e2) h) w
  | false => exact q false B1 H1 R1 eB1 eH1 h1
theorem simB_or {t u : TT} {ca cb : B'} (ha : SimB K E t ca) (hb : SimB K E u cb) : SimB K E (tOr t u) (orC ca cb) := by
  intro B0 H0 ρ σ B H k W Q R hc q w
  refine ha B0 H0 ρ σ B H _ W _ R hc (fun c B1 H1 R1 eB1 eH1 h1 => ?_) w
  cases c with
  | true => exact q true B1 H1 R1 eB1 eH1 h1
  | false => exact hb B0 H0 ρ σ B1 H1 k W Q R1 h1 (fun b B2 H2 R2 e1 e2 h => q b B2 H2 R2 (eB1.trans e1) (eH1.trans e2) h) w
theorem simB_not {t : TT} {ca : B'} (ha : SimB K E t ca) : SimB K E (tNot t) (notC ca) := by
  intro B0 H0 ρ σ B H k W Q R hc q w
  exact ha B0 H0 ρ σ B H _ W _ R hc (fun c B1 H1 R1 eB1 eH1 h1 => q _ B1 H1 R1 eB1 eH1 h1) w
/-- as values -/
def andV (a b : E') : E' := fun ρ k W => a ρ (fun x => blF x.f fun c => if c = true then b ρ k W else k (.val (.bl false))) W
def orV (a b : E') : E' := fun ρ k W => a ρ (fun x => blF x.f fun c => if c = true then k (.val (.bl true)) else b ρ k W) W
def notV (a : E') : E' := fun ρ k W => a ρ (fun x => blF x.f fun c => k (.val (.bl (!c)))) W
theorem blF_inv {x : Sl} {k : Bool → Prop} (h : blF x k) : ∃ b, x = .val (.bl b) ∧ k b := by
  match x, h with
  | .val (.bl b), h => exact ⟨b, rfl, h⟩
theorem simE_andV {ta tb : TE} {ca cb : E'} (ha : SimE K E ta ca) (hb : SimE K E tb cb) : SimE K E (tAndV ta tb) (andV ca cb) := by
  intro B0 H0 ρ σ B H k W Q R hc q w
  refine ha.frz (k := fun x => blF x fun c => if c = true then cb ρ k W else k (.val (.bl false))) R hc (fun x vx B1 H1 R1 eB1 eH1 hx fx h1 => ?_) w
  obtain ⟨b, rfl, h1⟩ := blF_inv h1
  refine ⟨b, hx, ?_⟩
  cases b with
  | true => exact hb B0 H0 ρ σ B1 H1 k W Q R1 h1 (fun s v B2 H2 R2 e1 e2 h f hk => q s v B2 H2 R2 (eB1.trans e1) (eH1.trans e2) h (f.back eH1) hk) w
  | false => exact q (.val (.bl false)) (.bl false) B1 H1 R1 eB1 eH1 rfl trivial h1
theorem simE_orV {ta tb : TE} {ca cb : E'} (ha : SimE K E ta ca) (hb : SimE K E tb cb) : SimE K E (tOrV ta tb) (orV ca cb) := by
  intro B0 H0 ρ σ B H k W Q R hc q w
  refine ha.frz (k := fun x => blF x fun c => if c = true then k (.val (.bl true)) else cb ρ k W) R hc (fun x vx B1 H1 R1 eB1 eH1 hx fx h1 => ?_) w
  obtain ⟨b, rfl, h1⟩ := blF_inv h1
  refine ⟨b, hx, ?_⟩
  cases b with
  | true => exact q (.val (.bl true)) (.bl true) B1 H1 R1 eB1 eH1 rfl trivial h1
  | false => exact hb B0 H0 ρ σ B1 H1 k W Q R1 h1 (fun s v B2 H2 R2 e1 e2 h f hk => q s v B2 H2 R2 (eB1.trans e1) (eH1.trans e2) h (f.back eH1) hk) w
theorem simE_notV {ta : TE} {ca : E'} (ha : SimE K E ta ca) : SimE K E (tNotV ta) (notV ca) := by
  intro B0 H0 ρ σ B H k W Q R hc q w
  refine ha.frz (k := fun x => blF x fun c => k (.val (.bl (!c)))) R hc (fun x vx B1 H1 R1 eB1 eH1 hx fx h1 => ?_) w
  obtain ⟨b, rfl, h1⟩ := blF_inv h1
  exact ⟨b, hx, q (.val (.bl (!b))) (.bl (!b)) B1 H1 R1 eB1 eH1 rfl trivial h1⟩
def iteC (c : B') (a b : E') : E' := fun ρ k W => c ρ (fun d => if d = true then a ρ k W else b ρ k W) W
theorem simE_ite {t : TT} {ta tb : TE} {c : B'} {ca cb : E'} (hc' : SimB K E t c) (ha : SimE K E ta ca) (hb : SimE K E tb cb) : SimE K E (tIf t ta tb) (iteC c ca cb) := by
  intro B0 H0 ρ σ B H k W Q R hc q w
  refine hc' B0 H0 ρ σ B H _ W _ R hc (fun d B1 H1 R1 eB1 eH1 h1 => ?_) w
  cases d with
  | true => exact ha B0 H0 ρ σ B1 H1 k W Q R1 h1 (fun s v B2 H2 R2 e1 e2 h f hk => q s v B2 H2 R2 (eB1.trans e1) (eH1.trans e2) h (f.back eH1) hk) w
  | false => exact hb B0 H0 ρ σ B1 H1 k W Q R1 h1 (fun s v B2 H2 R2 e1 e2 h f hk => q s v B2 H2 R2 (eB1.trans e1) (eH1.trans e2) h (f.back eH1) hk) w
/-- a op1 b op2 c -/
def chnC (f g : Sl → Sl → (Sl → Prop) → Prop) (a b c : E') : E' := fun ρ k W => a ρ (fun x => b ρ (fun y => f x.f y.f fun z => blF z.f fun d => if d = true then c ρ (fun u => g y.f u.f k) W else k (.val (.bl false))) W) W
theorem simE_chn {r r' : R2} {f g : Sl → Sl → (Sl → Prop) → Prop} {ta tb tc : TE} {ca cb cc : E'} (ho : OpT K r f) (ho' : OpT K r' g) (ha : SimE K E ta ca) (hb : SimE K E tb cb) (hcc : SimE K E tc cc) : SimE K E (tChain r r' ta tb tc) (chnC f g ca cb cc) := by
  intro B0 H0 ρ σ B H k W Q R hc q w
  refine ha.frz (k := fun x => cb ρ (fun y => f x y.f fun z => blF z.f fun d => if d = true then cc ρ (fun u => g y.f u.f k) W else k (.val (.bl false))) W) R hc (fun x vx B1 H1 R1 eB1 eH1 hx fx h1 => ?_) w
  refine hb.frz (k := fun y => f x y fun z => blF z.f fun d => if d = true then cc ρ (fun u => g y u.f k) W else k (.val (.bl false))) R1 h1 (fun y vy B2 H2 R2 eB2 eH2 hy fy h2 => ?_) w
  refine ho B0 H0 ρ σ B2 H2 x y vx vy _ _ R2 (hx.keep fx eB2 eH2) fx hy fy h2 (fun s v B3 H3 R3 eB3 eH3 hs fs hk => ?_)
  obtain ⟨B4, R4, e4, hs4⟩ := R2.frz R3 hs fs
  obtain ⟨b, eb, h3⟩ := blF_inv hk
  rw [eb] at hs4
  refine ⟨b, hs4, ?_⟩
  have eBB := eB1.trans (eB2.trans (eB3.trans e4))
  have eHH := eH1.trans (eH2.trans eH3)
  cases b with
  | true =>
    refine hcc.frz (k := fun u => g y u k) R4 h3 (fun u vu B5 H5 R5 eB5 eH5 hu fu h5 => ?_) w
    refine ho' B0 H0 ρ σ B5 H5 y u vy vu k Q R5 (hy.keep fy (eB3.trans (e4.trans eB5)) (eH3.trans eH5)) fy hu fu h5 (fun s' v' B6 H6 R6 eB6 eH6 hs6 fs6 hk6 => ?_)
    exact q s' v' B6 H6 R6 (eBB.trans (eB5.trans eB6)) (eHH.trans (eH5.trans eH6)) hs6 (fs6.back (eHH.trans eH5)) hk6
  | false => exact q (.val (.bl false)) (.bl false) B4 H3 R4 eBB eHH rfl trivial h3
end
end Ff

/-! The tree layer: statements. -/
namespace Ff
open PySem PySem.Spec L2
section
variable {K : PySem.W.Frag} {E : XK} {B0 H0 B B1 B2 H H1 H2 Hs : Hp} {ρ : Rho} {σ : L2.St} {s : Sl} {v : V} {i j : Nat}
/-- a slot is stored -/
theorem Rep.set (R : Rep K B0 H0 ρ σ B H) (nb : ∀ ds, s ≠ .bor ds) (hs : IsSl K H0 B H s v) (ap : ∀ ds, s = .own ds → ∀ (n : Nat) (es : List T), ρ[n]? = some (some (.own es)) → σ[n]? ≠ some (some v)) (i : Nat) : Rep K B0 H0 (ρ.set i (some s)) (σ.set i (some v)) B H := by
  refine ⟨R.ex, R.ex0, R.b0, R.new, by simpa using R.len, fun n s' h => ?_, fun n ds h => ?_, fun n m ds es w ne h1 h2 h3 h4 => ?_⟩
  rotate_left
  · by_cases e : n = i
    · subst e
      by_cases hl : n < ρ.length
      · rw [List.getElem?_set_self hl] at h
        cases h
        exact nb ds rfl
      · rw [List.getElem?_eq_none_iff.mpr (by rw [List.length_set]; omega)] at h; cases h
    · rw [List.getElem?_set_ne (Ne.symm e)] at h
      exact R.nb n ds h
  rotate_left
  · by_cases e : n = i
    · subst e
      by_cases hl : n < ρ.length
      · rw [List.getElem?_set_self hl] at h
        cases h
        exact ⟨v, by rw [List.getElem?_set_self (by rw [R.len]; exact hl)], hs⟩
      · rw [List.getElem?_eq_none_iff.mpr (by rw [List.length_set]; omega)] at h; cases h
    · rw [List.getElem?_set_ne (Ne.symm e)] at h
      obtain ⟨w, a, b⟩ := R.at_ n s' h
      exact ⟨w, by rw [List.getElem?_set_ne (Ne.symm e)]; exact a, b⟩
  · by_cases e : n = i
    · subst e
      by_cases hl : n < ρ.length
      · rw [List.getElem?_set_self hl] at h1
        cases h1
        rw [List.getElem?_set_self (by rw [R.len]; exact hl)] at h3
        cases h3
        rw [List.getElem?_set_ne ne] at h2 h4
        exact ap ds rfl m es h2 h4
      · rw [List.getElem?_eq_none_iff.mpr (by rw [List.length_set]; omega)] at h1; cases h1
    · by_cases e2 : m = i
      · subst e2
        by_cases hl : m < ρ.length
        · rw [List.getElem?_set_self hl] at h2
          cases h2
          rw [List.getElem?_set_self (by rw [R.len]; exact hl)] at h4
          cases h4
          rw [List.getElem?_set_ne (Ne.symm e)] at h1 h3
          exact ap es rfl n ds h1 h3
        · rw [List.getElem?_eq_none_iff.mpr (by rw [List.length_set]; omega)] at h2; cases h2
      · rw [List.getElem?_set_ne (Ne.symm e)] at h1 h3
        rw [List.getElem?_set_ne (Ne.symm e2)] at h2 h4
        exact R.sep n m ds es w ne h1 h2 h3 h4
theorem Rep.setV {d : T} (R : Rep K B0 H0 ρ σ B H) (hs : Is K B d v) (i : Nat) : Rep K B0 H0 (ρ.set i (some (.val d))) (σ.set i (some v)) B H :=
  R.set (s := .val d) (fun _ z => nomatch z) hs (fun _ z => nomatch z) i
/-- a fresh temporary is none of the own slots -/
theorem Rep.aps {Bs : Hp} (Rs : Rep K B0 H0 ρ σ Bs Hs) (f : Fr Hs s v) : ∀ ds, s = .own ds → ∀ (n : Nat) (es : List T), ρ[n]? = some (some (.own es)) → σ[n]? ≠ some (some v) := fun ds e n es h z => by
  subst e
  obtain ⟨w, h1, l, xs, a, _, _, d, _⟩ := Rs.at_ n _ h
  rw [z] at h1
  have e : v = w := Option.some.inj (Option.some.inj h1)
  rw [a] at e
  rw [f l e] at d
  cases d
def seqC (a b : S') : S' := fun ρ N R W => a ρ (fun ρ' => b ρ' N R W) R W
def nextC : S' := fun ρ N _ _ => N ρ
def neverC : S' := fun _ _ _ _ => False
def asgF : Sl → (Sl → Prop) → Prop
  | .bor _, _ => False
  | s, k => k s
def asgC (i : Nat) (e : E') : S' := fun ρ N _ W => e ρ (fun s => asgF s fun s' => N (ρ.set i (some s'))) W
def retC (e : E') : S' := fun ρ _ R W => e ρ (fun s => asgF s R) W
/-- return x, x an own list -/
def retO (i : Nat) : S' := fun ρ _ R _ => match ρ[i]? with
  | some (some s) => R s
  | _ => False
def retN : S' := fun _ _ R _ => R (.val .non)
def dropC (e : E') : S' := fun ρ N _ W => e ρ (fun _ => N ρ) W
def ifC (c : B') (t u : S') : S' := fun ρ N R W => c ρ (fun b => if b = true then t ρ N R W else u ρ N R W) W
/-- an own list is frozen: a step of the proof alone -/
def frzC (i : Nat) : S' := fun ρ N _ _ => match ρ[i]? with
  | some (some (.own ds)) => N (ρ.set i (some (.val (.lst ds))))
  | _ => N ρ
/-- stored, frozen -/
def asgV (i : Nat) (e : E') : S' := fun ρ N _ W => e ρ (fun s => asgF s.f fun s' => N (ρ.set i (some s'))) W
theorem asgF_inv {k : Sl → Prop} (h : asgF s k) : (∀ ds, s ≠ .bor ds) ∧ k s := by
  cases s with
  | bor ds => exact h.elim
  | val d => exact ⟨fun _ z => (nomatch z), h⟩
  | own ds => exact ⟨fun _ z => (nomatch z), h⟩
theorem simS_next : SimS K E tNext nextC := fun B0 H0 ρ σ B H N R W D Rp hc n r w => n ρ σ B H Rp (Ex.refl B) hc
theorem simS_never : SimS K E tNever neverC := fun B0 H0 ρ σ B H N R W D Rp hc n r w => hc.elim
theorem simS_seq {t u : TS} {a b : S'} (ha : SimS K E t a) (hb : SimS K E u b) : SimS K E (tSeq t u) (seqC a b) := by
  intro B0 H0 ρ σ B H N R W D Rp hc n r w
  exact ha B0 H0 ρ σ B H _ R W { D with nx := u D } Rp hc (fun ρ' σ' B' H' R' e h => hb B0 H0 ρ' σ' B' H' N R W D R' h (fun ρ2 σ2 B2 H2 R2 e2 h2 => n ρ2 σ2 B2 H2 R2 (e.trans e2) h2) r w) r w
theorem simS_asg {te : TE} {c : E'} (h : SimE K E te c) : SimS K E (tAsg te (gName i)) (asgC i c) := by
  intro B0 H0 ρ σ B H N R W D Rp hc n r w
  refine h B0 H0 ρ σ B H _ W _ Rp hc (fun s v B1 H1 R1 eB eH hs hf hk => ?_) w
  obtain ⟨nb, hk⟩ := asgF_inv hk
  exact n _ _ B1 H1 (R1.set nb hs (Rp.aps hf) i) eB hk
theorem simS_asgV {te : TE} {c : E'} (h : SimE K E te c) : SimS K E (tAsg te (gName i)) (asgV i c) := by
  intro B0 H0 ρ σ B H N R W D Rp hc n r w
  refine h.frz (k := fun s => asgF s fun s' => N (ρ.set i (some s'))) Rp hc (fun s v B1 H1 R1 eB eH hs hf hk => ?_) w
  obtain ⟨nb, hk⟩ := asgF_inv hk
  refine n _ _ B1 H1 (R1.set nb hs (fun ds e => ?_) i) eB hk
  subst e
  cases hf
theorem Rep.finOf (R : Rep K B0 H0 ρ σ B H) : Fin K B0 H0 B H := R.fin
theorem simS_ret {te : TE} {c : E'} (h : SimE K E te c) : SimS K E (tRet te) (retC c) := by
  intro B0 H0 ρ σ B H N R W D Rp hc n r w
  refine h B0 H0 ρ σ B H _ W _ Rp hc (fun s v B1 H1 R1 eB eH hs hf hk => ?_) w
  exact r s v B1 H1 R1.fin hs (asgF_inv hk).2
theorem simS_retO : SimS K E (tRet (tVar i)) (retO i) := by
  intro B0 H0 ρ σ B H N R W D Rp hc n r w
  unfold retO at hc
  split at hc
  · rename_i s e
    obtain ⟨v, h1, h2⟩ := Rp.at_ i s e
    exact ⟨v, h1, r s v B H Rp.fin h2 hc⟩
  · exact hc.elim
theorem simS_retN : SimS K E tRetN retN := fun B0 H0 ρ σ B H N R W D Rp hc n r w => r (.val .non) .non B H Rp.fin rfl hc
theorem simS_drop {te : TE} {c : E'} (h : SimE K E te c) : SimS K E (tDrop te) (dropC c) := by
  intro B0 H0 ρ σ B H N R W D Rp hc n r w
  exact h B0 H0 ρ σ B H _ W _ Rp hc (fun s v B1 H1 R1 eB eH hs hf hk => n ρ σ B1 H1 R1 eB hk) w
theorem simS_if {t : TT} {a b : TS} {c : B'} {ca cb : S'} (hc' : SimB K E t c) (ha : SimS K E a ca) (hb : SimS K E b cb) : SimS K E (tIfS t a b) (ifC c ca cb) := by
  intro B0 H0 ρ σ B H N R W D Rp hc n r w
  refine hc' B0 H0 ρ σ B H _ W _ Rp hc (fun d B1 H1 R1 eB eH hk => ?_) w
  cases d with
  | true => exact ha B0 H0 ρ σ B1 H1 N R W D R1 hk (fun ρ2 σ2 B2 H2 R2 e2 h2 => n ρ2 σ2 B2 H2 R2 (eB.trans e2) h2) r w
  | false => exact hb B0 H0 ρ σ B1 H1 N R W D R1 hk (fun ρ2 σ2 B2 H2 R2 e2 h2 => n ρ2 σ2 B2 H2 R2 (eB.trans e2) h2) r w
theorem Rep.freeze {ds : List T} (R : Rep K B0 H0 ρ σ B H) (h : ρ[i]? = some (some (.own ds))) : ∃ B', Rep K B0 H0 (ρ.set i (some (.val (.lst ds)))) σ B' H ∧ Ex B B' := by
  obtain ⟨v, h1, l, xs, a, b, c, d, g⟩ := R.at_ i _ h
  subst a
  -- the slot forgotten, then the list known, then the slot again
  have R1 : Rep K B0 H0 (ρ.set i (some (.val .non))) (σ.set i (some .non)) B H := R.setV (d := .non) rfl i
  have eB : Ex B (upd B l (.lst xs)) := Ex.new c
  have R2 := R1.know b c d (fun n es hn z => by
    by_cases e : n = i
    · subst e
      have hl : n < ρ.length := (List.getElem?_eq_some_iff.mp h).1
      rw [List.getElem?_set_self hl] at hn
      cases hn
    · rw [List.getElem?_set_ne (Ne.symm e)] at hn z
      exact R.sep n i es ds _ e hn h z h1)
  have R3 := R2.setV (d := .lst ds) (v := .ref l) ⟨l, xs, rfl, upd_same, IsAll.mono eB _ _ g⟩ i
  rw [List.set_set, List.set_set] at R3
  have e2 : σ.set i (some (V.ref l)) = σ := by
    obtain ⟨hl, he⟩ := List.getElem?_eq_some_iff.mp h1
    rw [← he]
    exact List.set_getElem_self hl
  rw [e2] at R3
  exact ⟨_, R3, eB⟩
theorem simS_frz {t : TS} {c : S'} (h : SimS K E t c) : SimS K E t (seqC (frzC i) c) := by
  intro B0 H0 ρ σ B H N R W D Rp hc n r w
  have hc : frzC i ρ (fun ρ' => c ρ' N R W) R W := hc
  unfold frzC at hc
  split at hc
  · rename_i ds e
    obtain ⟨B', R', eB⟩ := Rp.freeze e
    exact h B0 H0 _ σ B' H N R W D R' hc (fun ρ2 σ2 B2 H2 R2 e2 h2 => n ρ2 σ2 B2 H2 R2 (eB.trans e2) h2) r w
  · exact h B0 H0 ρ σ B H N R W D Rp hc n r w
theorem IsSls.one {vs : List V} (h : IsSls K H0 B H [s] vs) : ∃ v, vs = [v] ∧ IsSl K H0 B H s v := by
  cases h with
  | cons a r => cases r; exact ⟨_, rfl, a.1⟩
theorem IsSls.two {s2 : Sl} {vs : List V} (h : IsSls K H0 B H [s, s2] vs) : ∃ v w, vs = [v, w] ∧ IsSl K H0 B H s v ∧ IsSl K H0 B H s2 w := by
  cases h with
  | cons a r =>
    cases r with
    | cons b r => cases r; exact ⟨_, _, rfl, a.1, b.1⟩
/-- a, b = e1, e2 -/
def pairF : List Sl → (T → T → Prop) → Prop
  | [.val d, .val e], k => k d e
  | _, _ => False
theorem pairF_inv {ss : List Sl} {k : T → T → Prop} (h : pairF ss k) : ∃ d e, ss = [.val d, .val e] ∧ k d e := by
  unfold pairF at h
  split at h
  · exact ⟨_, _, rfl, h⟩
  · exact h.elim
def oneF : List Sl → (T → Prop) → Prop
  | [.val d], k => k d
  | _, _ => False
theorem oneF_inv {ss : List Sl} {k : T → Prop} (h : oneF ss k) : ∃ d, ss = [.val d] ∧ k d := by
  unfold oneF at h
  split at h
  · exact ⟨_, rfl, h⟩
  · exact h.elim
def intF : T → (Int → Prop) → Prop
  | .int i, k => k i
  | _, _ => False
theorem intF_inv {d : T} {k : Int → Prop} (h : intF d k) : ∃ i, d = .int i ∧ k i := by
  cases d <;> first | exact ⟨_, rfl, h⟩ | exact h.elim
def parC (i j : Nat) (a : A') : S' := fun ρ N _ W => a ρ (fun ss => pairF ss fun d e => N ((ρ.set i (some (.val d))).set j (some (.val e)))) W
theorem simS_par {ta : TA} {ca : A'} (ha : SimA K E ta ca) : SimS K E (tPar i j ta) (parC i j ca) := by
  intro B0 H0 ρ σ B H N R W D Rp hc n r w
  refine ha B0 H0 ρ σ B H _ W _ Rp hc (fun ss vs B1 H1 R1 eB eH hs hk => ?_) w
  obtain ⟨d, e, es, hk⟩ := pairF_inv hk
  subst es
  obtain ⟨v, w', rfl, a, b⟩ := IsSls.two hs
  exact ⟨_, _, rfl, n _ _ B1 H1 ((R1.setV a i).setV b j) eB hk⟩
/-- a, b = e (a tuple) -/
def upF (is : List Nat) (ρ : Rho) : Sl → (Rho → Prop) → Prop
  | .val (.tup ds), N => ds.length = is.length ∧ N ((is.zip ds).foldl (fun r p => r.set p.1 (some (.val p.2))) ρ)
  | _, _ => False
theorem upF_inv {is : List Nat} {N : Rho → Prop} (h : upF is ρ s N) : ∃ ds, s = .val (.tup ds) ∧ ds.length = is.length ∧ N ((is.zip ds).foldl (fun r p => r.set p.1 (some (.val p.2))) ρ) := by
  cases s with
  | val d => cases d <;> first | exact ⟨_, rfl, h⟩ | exact h.elim
  | _ => exact h.elim
def upC (is : List Nat) (e : E') : S' := fun ρ N _ W => e ρ (fun s => upF is ρ s.f N) W
/-- the targets, names -/
def gNames : List Nat → TGs
  | [] => gNil
  | i :: r => gCons (gName i) (gNames r)
theorem gNames_go : ∀ {is : List Nat} {ds : List T} {xs : List V} {ρ : Rho} {σ : L2.St} {Q : L2.St → Hp → Prop}, Rep K B0 H0 ρ σ B H → IsAll K B ds xs → ds.length = is.length →
    (∀ σ', Rep K B0 H0 ((is.zip ds).foldl (fun r p => r.set p.1 (some (.val p.2))) ρ) σ' B H → Q σ' H) → gNames is xs σ H Q
  | [], [], xs, ρ, σ, Q, R, h, hl, q => ⟨h, q σ R⟩
  | i :: is, d :: ds, xs, ρ, σ, Q, R, h, hl, q => by
    obtain ⟨v, vs, e1, e2, e3⟩ := IsAll.uncons h
    exact ⟨v, vs, e1, gNames_go (R.setV e2 i) e3 (by simpa using hl) q⟩
theorem simS_up {te : TE} {c : E'} {is : List Nat} {n : Nat} (hn : is.length = n) (h : SimE K E te c) : SimS K E (tAsg te (gTup K n (gNames is))) (upC is c) := by
  intro B0 H0 ρ σ B H N R W D Rp hc m r w
  refine h.frz (k := fun s => upF is ρ s N) Rp hc (fun s v B1 H1 R1 eB eH hs hf hk => ?_) w
  obtain ⟨ds, e, hl, hk2⟩ := upF_inv hk
  subst e
  obtain ⟨a, xs, e1, e2, e3⟩ := (show ∃ a xs, v = .ref a ∧ SqT K B1 a xs ∧ IsAll K B1 ds xs from hs)
  exact ⟨a, xs, e1, R1.ex.st e2, by rw [e3.length, hl, hn], gNames_go R1 e3 hl fun σ' R' => m _ σ' B1 H1 R' eB hk2⟩
/-! ### loops -/
def whileC (c : B') (b : S') : S' := fun ρ N R W => ∃ I : Nat → Rho → Prop, (∃ m, I m ρ) ∧ ∀ m ρ', I m ρ' → c ρ' (fun d => if d = true then b ρ' (fun ρ2 => ∃ m', m' < m ∧ I m' ρ2) R W else N ρ') W
theorem simS_while {t : TT} {u : TS} {c : B'} {b : S'} (hc' : SimB K E t c) (hb : SimS K E u b) : SimS K E (tWhile t u) (whileC c b) := by
  intro B0 H0 ρ σ B H N R W D Rp hc n r w
  obtain ⟨I, ⟨m0, i0⟩, st⟩ := hc
  refine ⟨fun m σ' H' => ∃ ρ' B', Rep K B0 H0 ρ' σ' B' H' ∧ Ex B B' ∧ I m ρ', ⟨m0, ρ, B, Rp, Ex.refl B, i0⟩, ?_⟩
  rintro m σ1 H1 ⟨ρ1, B1, R1, eB1, i1⟩
  refine hc' B0 H0 ρ1 σ1 B1 H1 _ W _ R1 (st m ρ1 i1) (fun d B2 H2 R2 eB2 eH2 hk => ?_) w
  cases d with
  | true =>
    refine ⟨fun σ' H' => ∃ m', m' < m ∧ ∃ ρ' B', Rep K B0 H0 ρ' σ' B' H' ∧ Ex B B' ∧ I m' ρ', fun σ' H' h => h, ?_⟩
    exact hb B0 H0 ρ1 σ1 B2 H2 _ R W _ R2 hk (fun ρ' σ' B' H' R' e ⟨m', hm, hi⟩ => ⟨m', hm, ρ', B', R', eB1.trans (eB2.trans e), hi⟩) r w
  | false => exact n ρ1 σ1 B2 H2 R2 (eB1.trans eB2) hk
/-- for i in range(n) -/
def forR (j : Nat) (a : A') (b : S') : S' := fun ρ N R W => a ρ (fun ss => oneF ss fun d => intF d fun m =>
  m < 2 ^ 62 ∧ -(2 ^ 62) ≤ m ∧ ∃ I : Nat → Rho → Prop, I 0 ρ ∧ (∀ (i : Nat) ρ', i < m.toNat → I i ρ' → b (ρ'.set j (some (.val (.int i)))) (I (i + 1)) R W) ∧ ∀ ρ', I m.toNat ρ' → N ρ') W
theorem simS_forR {ta : TA} {ca : A'} {u : TS} {b : S'} (ha : SimA K E ta ca) (hb : SimS K E u b) : SimS K E (tFor (iRng1 ta) (gName j) u) (forR j ca b) := by
  intro B0 H0 ρ σ B H N R W D Rp hc n r w
  refine ha B0 H0 ρ σ B H _ W _ Rp hc (fun ss vs B1 H1 R1 eB eH hs hk => ?_) w
  obtain ⟨d, es, hk⟩ := oneF_inv hk
  obtain ⟨m, ed, l1, l2, I, i0, st, fin⟩ := intF_inv hk
  subst es ed
  obtain ⟨v, rfl, a⟩ := IsSls.one hs
  have a : v = V.int m := a
  subst a
  · refine ⟨m, rfl, l2, l1, for_range (lo := 0) (n := m.toNat) (fun i σ' H' => ∃ ρ' B', Rep K B0 H0 ρ' σ' B' H' ∧ Ex B B' ∧ I i ρ') ⟨ρ, B1, R1, eB, i0⟩ ?_ ?_⟩
    · rintro i σ2 H2 hi ⟨ρ2, B2, R2, eB2, i2⟩
      rw [Int.zero_add]
      exact hb B0 H0 _ _ B2 H2 _ R W _ (R2.setV (d := .int i) rfl j) (st i ρ2 hi i2) (fun ρ' σ' B' H' R' e h => ⟨ρ', B', R', eB2.trans e, h⟩) r w
    · rintro σ2 H2 ⟨ρ2, B2, R2, eB2, i2⟩
      exact n ρ2 σ2 B2 H2 R2 eB2 (fin ρ2 i2)
/-- for i in range(lo, m) -/
def forR2 (j : Nat) (a : A') (b : S') : S' := fun ρ N R W => a ρ (fun ss => pairF ss fun d e => intF d fun lo => intF e fun m => (-(2 ^ 62) ≤ lo ∧ lo < 2 ^ 62 ∧ -(2 ^ 62) ≤ m ∧ m < 2 ^ 62) ∧ ∃ I : Nat → Rho → Prop, I 0 ρ ∧ (∀ (i : Nat) ρ', i < (m - lo).toNat → I i ρ' → b (ρ'.set j (some (.val (.int (lo + i))))) (I (i + 1)) R W) ∧ ∀ ρ', I (m - lo).toNat ρ' → N ρ') W
theorem simS_forR2 {ta : TA} {ca : A'} {u : TS} {b : S'} (ha : SimA K E ta ca) (hb : SimS K E u b) : SimS K E (tFor (iRng2 ta) (gName j) u) (forR2 j ca b) := by
  intro B0 H0 ρ σ B H N R W D Rp hc n r w
  refine ha B0 H0 ρ σ B H _ W _ Rp hc (fun ss vs B1 H1 R1 eB eH hs hk => ?_) w
  obtain ⟨d, e, es, hk⟩ := pairF_inv hk
  obtain ⟨lo, ed, hk⟩ := intF_inv hk
  obtain ⟨m, ee, l1, I, i0, st, fin⟩ := intF_inv hk
  subst es ed ee
  obtain ⟨v, w', rfl, a, a2⟩ := IsSls.two hs
  have a : v = V.int lo := a
  have a2 : w' = V.int m := a2
  subst a a2
  · refine ⟨lo, m, rfl, l1, for_range (lo := lo) (n := (m - lo).toNat) (fun i σ' H' => ∃ ρ' B', Rep K B0 H0 ρ' σ' B' H' ∧ Ex B B' ∧ I i ρ') ⟨ρ, B1, R1, eB, i0⟩ ?_ ?_⟩
    · rintro i σ2 H2 hi ⟨ρ2, B2, R2, eB2, i2⟩
      exact hb B0 H0 _ _ B2 H2 _ R W _ (R2.setV (d := .int (lo + i)) rfl j) (st i ρ2 hi i2) (fun ρ' σ' B' H' R' e h => ⟨ρ', B', R', eB2.trans e, h⟩) r w
    · rintro σ2 H2 ⟨ρ2, B2, R2, eB2, i2⟩
      exact n ρ2 σ2 B2 H2 R2 eB2 (fin ρ2 i2)
/-- a target of a loop: a name; names of a tuple -/
abbrev G' := T → Rho → (Rho → Prop) → Prop
def gN (j : Nat) : G' := fun d ρ N => N (ρ.set j (some (.val d)))
def gTs (is : List Nat) : G' := fun d ρ N => upF is ρ (.val d) N
def SimG (K : PySem.W.Frag) (g : TG) (c : G') : Prop := ∀ (B0 H0 : Hp) (ρ : Rho) (σ : L2.St) (B H : Hp) (d : T) (v : V) (N : Rho → Prop) (Q : L2.St → Hp → Prop), Rep K B0 H0 ρ σ B H → Is K B d v → c d ρ N →
  (∀ ρ' σ', Rep K B0 H0 ρ' σ' B H → N ρ' → Q σ' H) → g v σ H Q
theorem simG_n : SimG K (gName j) (gN j) := fun B0 H0 ρ σ B H d v N Q R hv hc q => q _ _ (R.setV hv j) hc
theorem simG_ts {is : List Nat} {n : Nat} (hn : is.length = n) : SimG K (gTup K n (gNames is)) (gTs is) := by
  intro B0 H0 ρ σ B H d v N Q R hv hc q
  obtain ⟨ds, e, hl, hk⟩ := upF_inv hc
  have e : d = .tup ds := by injection e
  subst e
  obtain ⟨a, xs, e1, e2, e3⟩ := (show ∃ a xs, v = .ref a ∧ SqT K B a xs ∧ IsAll K B ds xs from hv)
  exact ⟨a, xs, e1, R.ex.st e2, by rw [e3.length, hl, hn], gNames_go R e3 hl fun σ' R' => q _ σ' R' hk⟩
def forF (ρ : Rho) (g : G') (b : S') (N : Rho → Prop) (R : Sl → Prop) (W : Xc → Prop) (ds : List T) : Prop :=
  ∃ I : Nat → Rho → Prop, I 0 ρ ∧ (∀ (i : Nat) d ρ', ds[i]? = some d → I i ρ' → g d ρ' (fun ρ2 => b ρ2 (I (i + 1)) R W)) ∧ ∀ ρ', I ds.length ρ' → N ρ'
def sqF : Sl → (List T → Prop) → Prop
  | .val (.lst ds), k => k ds
  | .val (.tup ds), k => k ds
  | _, _ => False
theorem sqF_inv {k : List T → Prop} (h : sqF s k) : ∃ ds, (s = .val (.lst ds) ∨ s = .val (.tup ds)) ∧ k ds := by
  cases s with
  | val d => cases d <;> first | exact ⟨_, .inl rfl, h⟩ | exact ⟨_, .inr rfl, h⟩ | exact h.elim
  | _ => exact h.elim
def forC (it : E') (g : G') (b : S') : S' := fun ρ N R W => it ρ (fun s => sqF s.f fun ds => forF ρ g b N R W ds) W
/-- a list or a tuple is walked -/
def iSeq (K : PySem.W.Frag) (tl : TE) : TI := fun σ H R => tl σ H fun x H1 => ∃ a, x = .ref a ∧ (((∃ xs, SqL K H1 a xs) ∧ R (Itl K a) H1) ∨ ((∃ xs, SqT K H1 a xs) ∧ R (Itt K a) H1))
theorem pi_seq {X : Cx} {tg l : Expr} {tl : TE} (hl : PE X l tl) : PI X tg l (iSeq X.K tl) := by
  refine ⟨fun pins s σ H R I h => ?_⟩
  refine thn (hl.run pins s σ H _ I h) fun v s1 ⟨x, H1, I1, r1, q1⟩ => ?_
  obtain ⟨a, e, q1⟩ := q1
  subst e
  cases r1
  rcases q1 with ⟨⟨xs, hq⟩, q⟩ | ⟨⟨xs, hq⟩, q⟩
  · obtain ⟨its, rv, p, hz⟩ := I1.list hq
    refine wpAny_pyIter_list p.isList ?_
    refine ⟨s1.heap.objs.size, [s1.heap.objs.size], _, _, H1, rfl, I1.kept (t' := s1.toks) fun b o e => Heap.get?_push_of_some _ e, turn_list a _, ⟨_, Heap.get?_push_size _ rfl, rfl, rfl⟩, fun b hb => ?_, q⟩
    have e : b = s1.heap.objs.size := by simpa using hb
    subst e
    exact I1.fpOk (Nat.le_refl _) (I1.hok.fresh (Nat.le_refl _))
  · obtain ⟨its, rv, p, hz⟩ := I1.tuple hq
    refine wpAny_pyIter_tuple (show s1.heap.IsTuple a its.toArray from p) ?_
    refine ⟨s1.heap.objs.size, [s1.heap.objs.size], _, _, H1, rfl, I1.kept (t' := s1.toks) fun b o e => Heap.get?_push_of_some _ e, turn_tuple a _, ⟨_, Heap.get?_push_size _ rfl, rfl, rfl⟩, fun b hb => ?_, q⟩
    have e : b = s1.heap.objs.size := by simpa using hb
    subst e
    exact I1.fpOk (Nat.le_refl _) (I1.hok.fresh (Nat.le_refl _))
theorem simS_for {te : TE} {c : E'} {g : TG} {gc : G'} {u : TS} {b : S'} (h : SimE K E te c) (hg : SimG K g gc) (hb : SimS K E u b) : SimS K E (tFor (iSeq K te) g u) (forC c gc b) := by
  intro B0 H0 ρ σ B H N R W D Rp hc n r w
  refine h.frz (k := fun s => sqF s fun ds => forF ρ gc b N R W ds) Rp hc (fun s v B1 H1 R1 eB eH hs hf hk => ?_) w
  have core : ∀ (ds : List T) (xs : List V), IsAll K B1 ds xs → forF ρ gc b N R W ds →
      ∃ Pv : Nat → L2.St → Hp → Prop, Pv 0 σ H1 ∧ (∀ i σ' H', Pv i σ' H' → ∃ B', Ex B1 B' ∧ Ex B' H') ∧ (∀ i x σ' H', xs[i]? = some x → Pv i σ' H' → g x σ' H' fun σ2 H2 => u { D with nx := Pv (i + 1), ct := Pv (i + 1), bk := D.nx } σ2 H2) ∧ ∀ σ' H', Pv xs.length σ' H' → D.nx σ' H' := by
    rintro ds xs hx ⟨I, i0, st, fin⟩
    refine ⟨fun i σ' H' => ∃ ρ' B', Rep K B0 H0 ρ' σ' B' H' ∧ Ex B1 B' ∧ I i ρ', ⟨ρ, B1, R1, Ex.refl B1, i0⟩, fun i σ' H' ⟨ρ', B', R', e, _⟩ => ⟨B', e, R'.ex⟩, ?_, ?_⟩
    · rintro i x σ2 H2 hi ⟨ρ2, B2, R2, eB2, i2⟩
      obtain ⟨d, hd, hv⟩ := hx.get' hi
      refine hg B0 H0 ρ2 σ2 B2 H2 d x _ _ R2 (Is.mono eB2 d x hv) (st i d ρ2 hd i2) fun ρ3 σ3 R3 h3 => ?_
      exact hb B0 H0 ρ3 σ3 B2 H2 _ R W _ R3 h3 (fun ρ' σ' B' H' R' e h => ⟨ρ', B', R', eB2.trans e, h⟩) r w
    · rintro σ2 H2 ⟨ρ2, B2, R2, eB2, i2⟩
      rw [hx.length] at i2
      exact n ρ2 σ2 B2 H2 R2 (eB.trans eB2) (fin ρ2 i2)
  obtain ⟨ds, e, hk⟩ := sqF_inv hk
  rcases e with e | e
  · subst e
    obtain ⟨a, xs, e1, e2, e3⟩ := (show ∃ a xs, v = .ref a ∧ B1 a = some (.lst xs) ∧ IsAll K B1 ds xs from hs)
    obtain ⟨Pv, p0, pk, ps, pd⟩ := core ds xs e3 hk
    exact ⟨a, e1, .inl ⟨⟨xs, SqL.of (R1.ex _ _ e2)⟩, for_list (K := K) (a := a) (xs := xs) Pv p0 (fun i σ' H' _ p => let ⟨B', h1, h2⟩ := pk i σ' H' p; SqL.of (h2 _ _ (h1 _ _ e2))) ps pd⟩⟩
  · subst e
    obtain ⟨a, xs, e1, e2, e3⟩ := (show ∃ a xs, v = .ref a ∧ SqT K B1 a xs ∧ IsAll K B1 ds xs from hs)
    obtain ⟨Pv, p0, pk, ps, pd⟩ := core ds xs e3 hk
    exact ⟨a, e1, .inr ⟨⟨xs, R1.ex.st e2⟩, for_tup (K := K) (a := a) (xs := xs) Pv p0 (fun i σ' H' _ p => let ⟨B', h1, h2⟩ := pk i σ' H' p; h2.st (h1.st e2)) ps pd⟩⟩
/-! ### own lists changed -/
/-- x.append(e) -/
def ownF (ρ : Rho) (i : Nat) (k : List T → Prop) : Prop := match ρ[i]? with
  | some (some (.own ds)) => k ds
  | _ => False
theorem ownF_inv {k : List T → Prop} (h : ownF ρ i k) : ∃ ds, ρ[i]? = some (some (.own ds)) ∧ k ds := by
  unfold ownF at h
  split at h
  · rename_i ds e
    exact ⟨ds, e, h⟩
  · exact h.elim
def valF : Sl → (T → Prop) → Prop
  | .val d, k => k d
  | _, _ => False
theorem valF_inv {k : T → Prop} (h : valF s k) : ∃ d, s = .val d ∧ k d := by
  cases s with
  | val d => exact ⟨d, rfl, h⟩
  | _ => exact h.elim
def appF (i : Nat) (ρ : Rho) (N : Rho → Prop) (s : Sl) : Prop := valF s fun d => ownF ρ i fun ds => ds.length < 16000000 ∧ N (ρ.set i (some (.own (ds ++ [d]))))
def appC (i : Nat) (e : E') : S' := fun ρ N _ W => (∃ ds, ρ[i]? = some (some (.own ds))) ∧ e ρ (fun s => appF i ρ N s.f) W
theorem Rep.mut {ds es : List T} {l : Addr} {xs ys : List V} (R : Rep K B0 H0 ρ σ B H) (h : ρ[i]? = some (some (.own ds))) (hl : σ[i]? = some (some (.ref l))) (hH : H l = some (.lst xs)) (hy : IsAll K B es ys) :
    Rep K B0 H0 (ρ.set i (some (.own es))) σ B (upd H l (.lst ys)) := by
  obtain ⟨v, h1, l', xs', a, b, c, d, g⟩ := R.at_ i _ h
  subst a
  rw [hl] at h1
  cases h1
  have hi : i < ρ.length := (List.getElem?_eq_some_iff.mp h).1
  have eH : Ex B (upd H l (.lst ys)) := R.ex.mut c
  refine ⟨eH, R.ex0.mut b, R.b0, R.new, by simpa using R.len, fun n s hn => ?_, fun n ds' hn => ?_, fun n m ds' es' w ne h1 h2 h3 h4 => ?_⟩
  rotate_left
  · by_cases e : n = i
    · subst e
      rw [List.getElem?_set_self hi] at hn
      cases hn
    · rw [List.getElem?_set_ne (Ne.symm e)] at hn
      exact R.nb n ds' hn
  rotate_left
  · by_cases e : n = i
    · subst e
      rw [List.getElem?_set_self hi] at hn
      cases hn
      exact ⟨.ref l, hl, l, ys, rfl, b, c, upd_same, hy⟩
    · rw [List.getElem?_set_ne (Ne.symm e)] at hn
      obtain ⟨w, h3, h4⟩ := R.at_ n s hn
      refine ⟨w, h3, ?_⟩
      cases s with
      | val d => exact h4
      | own fs =>
        obtain ⟨l2, zs, a2, b2, c2, d2, g2⟩ := h4
        have ne : l2 ≠ l := fun z => R.sep n i fs ds w e hn h h3 (by rw [hl, a2, z])
        exact ⟨l2, zs, a2, b2, c2, by rw [upd_ne ne]; exact d2, g2⟩
      | bor fs => exact (R.nb n fs hn).elim
  · by_cases e : n = i
    · subst e
      rw [List.getElem?_set_ne ne] at h2
      exact R.sep n m ds es' w ne h h2 h3 h4
    · rw [List.getElem?_set_ne (Ne.symm e)] at h1
      by_cases e2 : m = i
      · subst e2
        exact R.sep n m ds' ds w ne h1 h h3 h4
      · rw [List.getElem?_set_ne (Ne.symm e2)] at h2
        exact R.sep n m ds' es' w ne h1 h2 h3 h4
theorem appF_inv {N : Rho → Prop} (h : appF i ρ N s) : ∃ d ds, s = .val d ∧ ρ[i]? = some (some (.own ds)) ∧ ds.length < 16000000 ∧ N (ρ.set i (some (.own (ds ++ [d])))) := by
  obtain ⟨d, e, h⟩ := valF_inv h
  obtain ⟨ds, e2, h⟩ := ownF_inv h
  exact ⟨d, ds, e, e2, h⟩
/-- an own slot, as a value, at a grown heap -/
theorem Rep.ownAt {ds : List T} (R : Rep K B0 H0 ρ σ B H) (h : ρ[i]? = some (some (.own ds))) : ∃ l xs, σ[i]? = some (some (.ref l)) ∧ H l = some (.lst xs) ∧ IsAll K B ds xs := by
  obtain ⟨v, h1, l, xs, a, _, _, d, g⟩ := R.at_ i _ h
  subst a
  exact ⟨l, xs, h1, d, g⟩
theorem simS_app {te : TE} {c : E'} (h : SimE K E te c) : SimS K E (tDrop (tBM K "list" rAppend (tVar i) (tCons te tNil))) (appC i c) := by
  intro B0 H0 ρ σ B H N R W D Rp hc n r w
  obtain ⟨ds0, h0⟩ := hc.1
  obtain ⟨l, xs, h1, h2, h3⟩ := Rp.ownAt h0
  refine ⟨.ref l, h1, .inl ⟨rfl, xs, SqL.of h2⟩, ?_⟩
  refine h.frz (k := fun s => appF i ρ N s) Rp hc.2 (fun s v B1 H1 R1 eB eH hs hf hk => ?_) w
  obtain ⟨d, ds, e, e2, hz, hk⟩ := appF_inv hk
  subst e
  rw [h0] at e2
  cases e2
  refine ⟨l, xs, v, rfl, rfl, eH _ _ h2, ?_, ?_⟩
  · rw [h3.length]
    exact Nat.lt_trans hz (by decide)
  · exact n _ σ B1 _ (R1.mut h0 h1 (eH _ _ h2) ((IsAll.mono eB _ _ h3).append (IsAll.cons hs IsAll.nil))) eB hk
end
end Ff

/-! The tree layer: operations on values. -/
namespace Ff
open PySem PySem.Spec L2
section
variable {K : PySem.W.Frag} {E : XK} {B0 H0 B B1 B2 H H1 H2 Hs : Hp} {ρ : Rho} {σ : L2.St} {s : Sl} {v : V} {i j : Nat}
/-- a scalar answer -/
theorem kn_val {Q : VK} {k : Sl → Prop} (R : Rep K B0 H0 ρ σ B H) (q : ∀ s v B' H', Rep K B0 H0 ρ σ B' H' → Ex B B' → Ex H H' → IsSl K H0 B' H' s v → Fr H s v → k s → Q v H') {d : T} {v : V} (h : Is K B d v) (hk : k (.val d)) : Q v H :=
  q (.val d) v B H R (Ex.refl B) (Ex.refl H) h trivial hk
/-- a new own list -/
theorem kn_own {Q : VK} {k : Sl → Prop} (R : Rep K B0 H0 ρ σ B H) (q : ∀ s v B' H', Rep K B0 H0 ρ σ B' H' → Ex B B' → Ex H H' → IsSl K H0 B' H' s v → Fr H s v → k s → Q v H') {ds : List T} {xs : List V} {p : Addr} (h : IsAll K B ds xs) (hp : H p = none) (hk : k (.own ds)) : Q (.ref p) (upd H p (.lst xs)) :=
  q (.own ds) (.ref p) B _ (R.laidH hp) (Ex.refl B) (Ex.new hp) ⟨p, xs, rfl, R.ex0.back hp, R.ex.back hp, upd_same, h⟩ (fun l hl => by cases hl; exact hp) hk
/-- a new known object -/
theorem kn_new {Q : VK} {k : Sl → Prop} (R : Rep K B0 H0 ρ σ B H) (q : ∀ s v B' H', Rep K B0 H0 ρ σ B' H' → Ex B B' → Ex H H' → IsSl K H0 B' H' s v → Fr H s v → k s → Q v H') {d : T} {o : HO} {p : Addr} (hp : H p = none) (h : Ex B (upd B p o) → Is K (upd B p o) d (.ref p)) (hk : k (.val d)) : Q (.ref p) (upd H p o) :=
  q (.val d) (.ref p) _ _ (R.laid hp) (Ex.new (R.ex.back hp)) (Ex.new hp) (h (Ex.new (R.ex.back hp))) trivial hk

/-! ### ints -/
def i1F (g : Int → (Sl → Prop) → Prop) : Sl → (Sl → Prop) → Prop
  | .val (.int i), k => g i k
  | _, _ => False
theorem i1F_inv {g : Int → (Sl → Prop) → Prop} {k : Sl → Prop} (h : i1F g s k) : ∃ i, s = .val (.int i) ∧ g i k := by
  cases s with
  | val d => cases d <;> first | exact ⟨_, rfl, h⟩ | exact h.elim
  | _ => exact h.elim
def i2F (g : Int → Int → (Sl → Prop) → Prop) : Sl → Sl → (Sl → Prop) → Prop
  | .val (.int i), .val (.int j), k => g i j k
  | _, _, _ => False
theorem i2F_inv {g : Int → Int → (Sl → Prop) → Prop} {x y : Sl} {k : Sl → Prop} (h : i2F g x y k) : ∃ i j, x = .val (.int i) ∧ y = .val (.int j) ∧ g i j k := by
  unfold i2F at h
  split at h
  · exact ⟨_, _, rfl, rfl, h⟩
  · exact h.elim
theorem opT_i {C : Int → Int → Prop} {g : Int → Int → V} {gt : Int → Int → T} (hg : ∀ i j, Sca (gt i j) (g i j)) : OpT K (rI C g) (i2F fun i j k => C i j ∧ k (.val (gt i j))) := by
  intro B0 H0 ρ σ B H x y vx vy k Q R hx _ hy _ h q
  obtain ⟨i, j, rfl, rfl, hc, hk⟩ := i2F_inv h
  exact ⟨i, j, hx, hy, hc, kn_val R q (hg i j).is hk⟩
theorem opT_i0 {g : Int → Int → V} {gt : Int → Int → T} (hg : ∀ i j, Sca (gt i j) (g i j)) : OpT K (rI0 g) (i2F fun i j k => k (.val (gt i j))) := by
  intro B0 H0 ρ σ B H x y vx vy k Q R hx _ hy _ h q
  obtain ⟨i, j, rfl, rfl, hk⟩ := i2F_inv h
  exact ⟨i, j, hx, hy, kn_val R q (hg i j).is hk⟩
theorem unT_i {g : Int → V} {gt : Int → T} (hg : ∀ i, Sca (gt i) (g i)) : UnT K (rU g) (i1F fun i k => k (.val (gt i))) := by
  intro B0 H0 ρ σ B H x vx k Q R hx _ h q
  obtain ⟨i, rfl, hk⟩ := i1F_inv h
  exact ⟨i, hx, kn_val R q (hg i).is hk⟩
def subF := i2F fun i j k => k (.val (.int (i - j)))
def mulF := i2F fun i j k => CMulX i j ∧ k (.val (.int (i * j)))
/-- // and % by positive divisors -/
def fdvF := i2F fun i j k => CDivW i j ∧ k (.val (.int (i / j)))
def modF := i2F fun i j k => 0 < j ∧ k (.val (.int (i % j)))
/-- .. by any -/
def CDivZ (i j : Int) : Prop := j ≠ 0 ∧ j.natAbs.log2 < 9000
def fdvZF := i2F fun i j k => CDivZ i j ∧ k (.val (.int (i.fdiv j)))
def modZF := i2F fun i j k => j ≠ 0 ∧ k (.val (.int (i.fmod j)))
def powF := i2F fun i j k => CPow i j ∧ k (.val (.int (i ^ j.toNat)))
def shlF := i2F fun i j k => CShl i j ∧ k (.val (.int (i * 2 ^ j.toNat)))
def shrF := i2F fun i j k => 0 ≤ j ∧ k (.val (.int (i / 2 ^ j.toNat)))
def andF := i2F fun i j k => k (.val (.int (Builtin.bitAnd i j)))
def orF := i2F fun i j k => k (.val (.int (Builtin.bitOr i j)))
def xorF := i2F fun i j k => k (.val (.int (Builtin.bitXor i j)))
def ltF := i2F fun i j k => k (.val (.bl (decide (i < j))))
def leF := i2F fun i j k => k (.val (.bl (decide (i ≤ j))))
def gtF := i2F fun i j k => k (.val (.bl (decide (j < i))))
def geF := i2F fun i j k => k (.val (.bl (decide (j ≤ i))))
def negF := i1F fun i k => k (.val (.int (-i)))

/-! ### + -/
theorem two_cases {P : Sl → Sl → (Sl → Prop) → Prop} : True := trivial
def lstOf : Sl → Option (List T)
  | .val (.lst ds) => some ds
  | .bor ds => some ds
  | _ => none
theorem lstOf_at {ds : List T} (e : lstOf s = some ds) (h : IsSl K H0 B H s v) (x : Ex B H) : ∃ l xs, v = .ref l ∧ H l = some (.lst xs) ∧ IsAll K B ds xs := by
  cases s with
  | val d =>
    cases d with
    | lst es =>
      have e : es = ds := by injection e
      subst e
      obtain ⟨a, xs, e1, e2, e3⟩ := (show ∃ a xs, v = .ref a ∧ B a = some (.lst xs) ∧ IsAll K B es xs from h)
      exact ⟨a, xs, e1, x _ _ e2, e3⟩
    | _ => cases e
  | own es => cases e
  | bor es =>
    have e : es = ds := by injection e
    subst e
    exact h
inductive Two : Sl → Sl → Prop
  | ii (i j : Int) : Two (.val (.int i)) (.val (.int j))
  | ss (a b : Str) : Two (.val (.str a)) (.val (.str b))
  | oo (x y : Sl) : Two x y
def addF : Sl → Sl → (Sl → Prop) → Prop
  | .val (.int i), .val (.int j), k => k (.val (.int (i + j)))
  | .val (.str a), .val (.str b), k => a.length + b.length ≤ 16000000 ∧ k (.val (.str (a ++ b)))
  | x, y, k => ∃ ds es, lstOf x = some ds ∧ lstOf y = some es ∧ ds.length + es.length ≤ 16000000 ∧ k (.own (ds ++ es))
def rAddU : R2 := fun x y H Q => (rI0 (fun i j => .int (i + j)) x y H Q ∨ (∃ i j, x = .str i ∧ y = .str j ∧ i.length + j.length ≤ sizeLine ∧ Q (.str (i ++ j)) H)) ∨ rCat x y H Q
theorem op_addU {X : Cx} : OpR X (binaryOp .Add) rAddU := (op_add.or op_add_str).or op_cat
theorem le16 {n : Nat} (h : n ≤ 16000000) : n ≤ sizeLine := Nat.le_trans h (by decide)
theorem opT_add : OpT K rAddU addF := by
  intro B0 H0 ρ σ B H x y vx vy k Q R hx _ hy _ h q
  unfold addF at h
  split at h
  · exact .inl (.inl ⟨_, _, hx, hy, kn_val R q (d := .int _) rfl h⟩)
  · exact .inl (.inr ⟨_, _, hx, hy, le16 h.1, kn_val R q (d := .str _) rfl h.2⟩)
  · obtain ⟨ds, es, e1, e2, hz, hk⟩ := h
    obtain ⟨l, xs, rfl, h2, h3⟩ := lstOf_at e1 hx R.ex
    obtain ⟨l', ys, rfl, h5, h6⟩ := lstOf_at e2 hy R.ex
    exact .inr ⟨l, l', xs, ys, rfl, rfl, h2, h5, by rw [h3.length, h6.length]; exact le16 hz, fun p hp => kn_own R q (h3.append h6) hp hk⟩

/-! ### None, truth values by is -/
def isNn : Sl → Bool
  | .val .non => true
  | _ => false
def isNF : Sl → (Sl → Prop) → Prop := fun x k => k (.val (.bl (isNn x)))
def notNF : Sl → (Sl → Prop) → Prop := fun x k => k (.val (.bl (!isNn x)))
theorem non_dec {d : Sl} (hn : ∀ φ, d ≠ .val (.ext φ)) (h : IsSl K H0 B H d v) : decide (v = V.non) = isNn d := by
  cases d with
  | val d =>
    cases d with
    | non => have h : v = .non := h; subst h; rfl
    | bl b => have h : v = .bl b := h; subst h; exact decide_eq_false (fun z => nomatch z)
    | int b => have h : v = .int b := h; subst h; exact decide_eq_false (fun z => nomatch z)
    | str b => have h : v = .str b := h; subst h; exact decide_eq_false (fun z => nomatch z)
    | lst ds => obtain ⟨a, xs, e, _⟩ := (show ∃ a xs, v = .ref a ∧ B a = some (.lst xs) ∧ IsAll K B ds xs from h); subst e; exact decide_eq_false (fun z => nomatch z)
    | tup ds => obtain ⟨a, xs, e, _⟩ := (show ∃ a xs, v = .ref a ∧ SqT K B a xs ∧ IsAll K B ds xs from h); subst e; exact decide_eq_false (fun z => nomatch z)
    | ins c ds => obtain ⟨a, dx, xs, e, _⟩ := (show ∃ a dx xs, v = .ref a ∧ B a = some (.ins (He.ga K (cln c)) dx ((fns c).zip xs)) ∧ (fns c).length = xs.length ∧ IsAll K B ds xs from h); subst e; exact decide_eq_false (fun z => nomatch z)
    | scr ns => obtain ⟨a, e, _⟩ := (show ∃ a, v = .ref a ∧ SqL K B a (ns.map V.int) from h); subst e; exact decide_eq_false (fun z => nomatch z)
    | ext φ => exact absurd rfl (hn φ)
  | own ds => obtain ⟨a, xs, e, _⟩ := h; subst e; exact decide_eq_false (fun z => nomatch z)
  | bor ds => obtain ⟨a, xs, e, _⟩ := h; subst e; exact decide_eq_false (fun z => nomatch z)
def notExt : Sl → Prop
  | .val (.ext _) => False
  | _ => True
theorem notExt_of (h : notExt s) : ∀ φ, s ≠ .val (.ext φ) := fun φ e => by subst e; exact h
def rIsNU : R2 := fun x y H Q => y = .non ∧ Q (.bl (decide (x = .non))) H
def rNotNU : R2 := fun x y H Q => y = .non ∧ Q (.bl (!decide (x = .non))) H
def isF : Sl → Sl → (Sl → Prop) → Prop
  | x, .val .non, k => notExt x ∧ k (.val (.bl (isNn x)))
  | .val (.bl a), .val (.bl b), k => k (.val (.bl (decide (a = b))))
  | _, _, _ => False
def isnF : Sl → Sl → (Sl → Prop) → Prop
  | x, .val .non, k => notExt x ∧ k (.val (.bl (!(isNn x))))
  | .val (.bl a), .val (.bl b), k => k (.val (.bl (!decide (a = b))))
  | _, _, _ => False
def rIsU : R2 := fun x y H Q => rIsNU x y H Q ∨ rIsB x y H Q
def rNotU : R2 := fun x y H Q => rNotNU x y H Q ∨ rNotB x y H Q
theorem op_isU {X : Cx} : OpR X (compareOp .Is) rIsU := op_isN.or op_isBl
theorem op_notU {X : Cx} : OpR X (compareOp .IsNot) rNotU := op_notN.or op_notBl
theorem opT_is : OpT K rIsU isF := by
  intro B0 H0 ρ σ B H x y vx vy k Q R hx _ hy _ h q
  unfold isF at h
  split at h
  · refine .inl ⟨hy, ?_⟩
    rw [non_dec (notExt_of h.1) hx]
    exact kn_val R q (d := .bl _) rfl h.2
  · exact .inr ⟨_, _, hx, hy, kn_val R q (d := .bl _) rfl h⟩
  · exact h.elim
theorem opT_isn : OpT K rNotU isnF := by
  intro B0 H0 ρ σ B H x y vx vy k Q R hx _ hy _ h q
  unfold isnF at h
  split at h
  · refine .inl ⟨hy, ?_⟩
    rw [non_dec (notExt_of h.1) hx]
    exact kn_val R q (d := .bl _) rfl h.2
  · exact .inr ⟨_, _, hx, hy, kn_val R q (d := .bl _) rfl h⟩
  · exact h.elim

/-! ### == of data -/
mutual
def toD : T → PyData
  | .non => .none
  | .bl b => .bool b
  | .int i => .int i
  | .str x => .str x
  | .lst ds => .list (toDs ds)
  | .tup ds => .tuple (toDs ds)
  | .ins _ _ => .dict []
  | .scr _ => .dict []
  | .ext _ => .dict []
def toDs : List T → List PyData
  | [] => []
  | d :: ds => toD d :: toDs ds
end
mutual
theorem dp_of : ∀ (d : T) (v : V), Is K H d v → PyData.canLay0 (toD d) = true → Dp K H v (toD d)
  | .non, v, h, _ => by have h : v = .non := h; subst h; exact .non
  | .bl b, v, h, _ => by have h : v = .bl b := h; subst h; exact .bl b
  | .int b, v, h, _ => by have h : v = .int b := h; subst h; exact .int b
  | .str b, v, h, _ => by have h : v = .str b := h; subst h; exact .str b
  | .lst ds, v, h, c => by
    obtain ⟨a, xs, e1, e2, e3⟩ := (show ∃ a xs, v = .ref a ∧ H a = some (.lst xs) ∧ IsAll K H ds xs from h)
    subst e1
    exact .lst (SqL.of e2) (dps_of ds xs e3 (by simpa [toD, PyData.canLay0] using c))
  | .tup ds, v, h, c => by
    obtain ⟨a, xs, e1, e2, e3⟩ := (show ∃ a xs, v = .ref a ∧ SqT K H a xs ∧ IsAll K H ds xs from h)
    subst e1
    exact .tup e2 (dps_of ds xs e3 (by simpa [toD, PyData.canLay0] using c))
  | .ins _ _, _, _, c => by simp [toD, PyData.canLay0] at c
  | .scr _, _, _, c => by simp [toD, PyData.canLay0] at c
  | .ext _, _, _, c => by simp [toD, PyData.canLay0] at c
theorem dps_of : ∀ (ds : List T) (xs : List V), IsAll K H ds xs → PyData.canLayAll0 (toDs ds) = true → DpAll K H xs (toDs ds)
  | [], xs, h, _ => by have h : xs = [] := h; subst h; exact .nil
  | d :: ds, xs, h, c => by
    obtain ⟨v, vs, e1, e2, e3⟩ := IsAll.uncons h
    subst e1
    have c' : PyData.canLay0 (toD d) = true ∧ PyData.canLayAll0 (toDs ds) = true := by simpa [toDs, PyData.canLayAll0] using c
    exact .cons (dp_of d v e2 c'.1) (dps_of ds vs e3 c'.2)
end
/-- two ints, two texts -/
def scal2 : Sl → Sl → Option Bool
  | .val (.int i), .val (.int j) => some (decide (i = j))
  | .val (.str i), .val (.str j) => some (decide (i = j))
  | _, _ => none
def eqF (x y : Sl) (k : Sl → Prop) : Prop := match scal2 x y with
  | some b => k (.val (.bl b))
  | none => SeqAt.shaped (toD x.t) = true ∧ SeqAt.shaped (toD y.t) = true ∧ k (.val (.bl (PyData.eqv (toD x.t) (toD y.t))))
def neF (x y : Sl) (k : Sl → Prop) : Prop := match scal2 x y with
  | some b => k (.val (.bl (!b)))
  | none => SeqAt.shaped (toD x.t) = true ∧ SeqAt.shaped (toD y.t) = true ∧ k (.val (.bl (!PyData.eqv (toD x.t) (toD y.t))))
theorem sh_lay {d : PyData} (h : SeqAt.shaped d = true) : d.canLay0 = true := SeqAt.canLay_of_shaped h
theorem scal2_ok {x y : Sl} {vx vy : V} {b : Bool} (e : scal2 x y = some b) (hx : IsSl K H0 B H x vx) (hy : IsSl K H0 B H y vy) : scal vx vy = true ∧ decide (vx = vy) = b := by
  unfold scal2 at e
  split at e
  · have hx : vx = .int _ := hx
    have hy : vy = .int _ := hy
    subst hx hy
    cases e
    exact ⟨rfl, by simp⟩
  · have hx : vx = .str _ := hx
    have hy : vy = .str _ := hy
    subst hx hy
    cases e
    exact ⟨rfl, by simp⟩
  · cases e
def rEqU (K : PySem.W.Frag) : R2 := fun x y H Q => rEq x y H Q ∨ rEqD K x y H Q
def rNeU (K : PySem.W.Frag) : R2 := fun x y H Q => rNe x y H Q ∨ rNeD K x y H Q
theorem op_eqU {X : Cx} (hu : X.A.units + 64 < cLine) : OpR X (compareOp .Eq) (rEqU X.K) := op_eq.or (op_eqD hu)
theorem op_neU {X : Cx} (hu : X.A.units + 64 < cLine) : OpR X (compareOp .NotEq) (rNeU X.K) := op_ne.or (op_neD hu)
theorem opT_eq : OpT K (rEqU K) eqF := by
  intro B0 H0 ρ σ B H x y vx vy k Q R hx _ hy _ h q
  unfold eqF at h
  split at h
  · rename_i e
    obtain ⟨h1, h2⟩ := scal2_ok e hx hy
    exact .inl ⟨h1, by rw [h2]; exact kn_val R q (d := .bl _) rfl h⟩
  · exact .inr ⟨_, _, dp_of _ _ (hx.isH R.ex) (sh_lay h.1), dp_of _ _ (hy.isH R.ex) (sh_lay h.2.1), h.1, h.2.1, kn_val R q (d := .bl _) rfl h.2.2⟩
theorem opT_ne : OpT K (rNeU K) neF := by
  intro B0 H0 ρ σ B H x y vx vy k Q R hx _ hy _ h q
  unfold neF at h
  split at h
  · rename_i e
    obtain ⟨h1, h2⟩ := scal2_ok e hx hy
    exact .inl ⟨h1, by rw [h2]; exact kn_val R q (d := .bl _) rfl h⟩
  · exact .inr ⟨_, _, dp_of _ _ (hx.isH R.ex) (sh_lay h.1), dp_of _ _ (hy.isH R.ex) (sh_lay h.2.1), h.1, h.2.1, kn_val R q (d := .bl _) rfl h.2.2⟩

/-! ### subscripts -/
/-- the item of a tree at a place of any sign -/
def atD : T → Int → Option T
  | .lst ds, i => atI ds i
  | .tup ds, i => atI ds i
  | .scr ns, i => (atI ns i).map T.int
  | .str z, i => if z.length ≤ 16000000 then (atI z.cps.toList i).map fun c => .str ⟨#[c]⟩ else none
  | _, _ => none
def ixF : Sl → Sl → (Sl → Prop) → Prop
  | x, .val (.int i), k => ∃ d, atD x.t i = some d ∧ k (.val d)
  | _, _, _ => False
theorem ixF_inv {x y : Sl} {k : Sl → Prop} (h : ixF x y k) : ∃ i d, y = .val (.int i) ∧ atD x.t i = some d ∧ k (.val d) := by
  unfold ixF at h
  split at h
  · obtain ⟨d, h1, h2⟩ := h
    exact ⟨_, d, rfl, h1, h2⟩
  · exact h.elim
theorem atI_all {ds : List T} {xs : List V} {i : Int} {d : T} (h : IsAll K B ds xs) (e : atI ds i = some d) : ∃ v, atI xs i = some v ∧ Is K B d v := by
  unfold atI at e ⊢
  rw [h.length]
  cases q : ixN ds.length i with
  | none => rw [q] at e; cases e
  | some n =>
    rw [q] at e
    exact h.get e
theorem atI_map {α β : Type} (f : α → β) (xs : List α) (i : Int) : atI (xs.map f) i = (atI xs i).map f := by
  unfold atI
  rw [List.length_map]
  cases ixN xs.length i with
  | none => rfl
  | some n => exact List.getElem?_map ..
theorem opT_ix : OpT K (rIx K) ixF := by
  intro B0 H0 ρ σ B H x y vx vy k Q R hx _ hy _ h q
  obtain ⟨i, d, rfl, e, hk⟩ := ixF_inv h
  have hy : vy = .int i := hy
  have lc : ∀ {ds : List T} {l : Addr} {xs : List V}, H l = some (.lst xs) → IsAll K B ds xs → atI ds i = some d → vx = .ref l → rIx K vx vy H Q := by
    intro ds l xs h1 h2 h3 h4
    obtain ⟨w, h5, h6⟩ := atI_all h2 h3
    exact .inl ⟨l, xs, i, w, h4, hy, SqL.of h1, h5, kn_val R q h6 hk⟩
  cases x with
  | val t =>
    cases t with
    | lst ds =>
      obtain ⟨a, xs, e1, e2, e3⟩ := (show ∃ a xs, vx = .ref a ∧ B a = some (.lst xs) ∧ IsAll K B ds xs from hx)
      exact lc (R.ex _ _ e2) e3 e e1
    | tup ds =>
      obtain ⟨a, xs, e1, e2, e3⟩ := (show ∃ a xs, vx = .ref a ∧ SqT K B a xs ∧ IsAll K B ds xs from hx)
      obtain ⟨w, h5, h6⟩ := atI_all e3 (show atI ds i = some d from e)
      exact .inr (.inl ⟨a, xs, i, w, e1, hy, R.ex.st e2, h5, kn_val R q h6 hk⟩)
    | scr ns =>
      obtain ⟨a, e1, e2⟩ := (show ∃ a, vx = .ref a ∧ SqL K B a (ns.map V.int) from hx)
      obtain ⟨m, em, ed⟩ := Option.map_eq_some_iff.mp (show (atI ns i).map T.int = some d from e)
      exact .inl ⟨a, _, i, .int m, e1, hy, R.ex.sl e2, by rw [atI_map, em]; rfl, kn_val R q (d := d) (by rw [← ed]; exact rfl) hk⟩
    | str z =>
      have e : (if z.length ≤ 16000000 then (atI z.cps.toList i).map fun c => T.str ⟨#[c]⟩ else none) = some d := e
      split at e
      · rename_i hz
        obtain ⟨m, em, ed⟩ := Option.map_eq_some_iff.mp e
        exact .inr (.inr ⟨z, i, m, hx, hy, le16 hz, em, kn_val R q (d := d) (by rw [← ed]; exact rfl) hk⟩)
      · cases e
    | _ => cases e
  | own ds =>
    obtain ⟨l, xs, a, b, c, d2, g⟩ := hx
    exact lc d2 g e a
  | bor ds =>
    obtain ⟨l, xs, a, b, c⟩ := hx
    exact lc b c e a
/-- a slice of a list, of a text -/
def cutT (ds : List T) (lo hi : Option Int) : List T := (ds.drop (HT.sIx ds.length 0 lo)).take (HT.sIx ds.length ds.length hi - HT.sIx ds.length 0 lo)
theorem cut_all {ds : List T} {xs : List V} (lo hi : Option Int) (h : IsAll K B ds xs) : IsAll K B (cutT ds lo hi) (cutV xs lo hi) := by
  unfold cutT cutV
  rw [h.length]
  exact (h.drop _).take _

/-! ### built-ins -/
def lenT : T → Option Nat
  | .lst ds => some ds.length
  | .tup ds => some ds.length
  | .scr ns => some ns.length
  | .str z => if z.length ≤ 16000000 then some z.length else none
  | _ => none
def sl1 : List Sl → (Sl → Prop) → Prop
  | [x], k => k x
  | _, _ => False
theorem sl1_inv {ss : List Sl} {k : Sl → Prop} (h : sl1 ss k) : ∃ x, ss = [x] ∧ k x := by
  unfold sl1 at h
  split at h
  · exact ⟨_, rfl, h⟩
  · exact h.elim
def sl2 : List Sl → (Sl → Sl → Prop) → Prop
  | [x, y], k => k x y
  | _, _ => False
theorem sl2_inv {ss : List Sl} {k : Sl → Sl → Prop} (h : sl2 ss k) : ∃ x y, ss = [x, y] ∧ k x y := by
  unfold sl2 at h
  split at h
  · exact ⟨_, _, rfl, h⟩
  · exact h.elim
def lenF : List Sl → (Sl → Prop) → Prop := fun ss k => sl1 ss fun x => ∃ n, lenT x.t = some n ∧ k (.val (.int n))
def rLenU (K : PySem.W.Frag) : List V → Hp → VK → Prop := fun xs H Q => ∃ x n, xs = [x] ∧ LenV K x H n ∧ Q (.int n) H
theorem lenV_of {d : T} {n : Nat} (e : lenT d = some n) (h : Is K H d v) : LenV K v H n := by
  cases d with
  | lst ds =>
    obtain ⟨a, xs, e1, e2, e3⟩ := (show ∃ a xs, v = .ref a ∧ H a = some (.lst xs) ∧ IsAll K H ds xs from h)
    have e : ds.length = n := by injection e
    subst e1
    exact .inl ⟨xs, SqL.of e2, by rw [e3.length, e]⟩
  | tup ds =>
    obtain ⟨a, xs, e1, e2, e3⟩ := (show ∃ a xs, v = .ref a ∧ SqT K H a xs ∧ IsAll K H ds xs from h)
    have e : ds.length = n := by injection e
    subst e1
    exact .inr ⟨xs, e2, by rw [e3.length, e]⟩
  | scr ns =>
    obtain ⟨a, e1, e2⟩ := (show ∃ a, v = .ref a ∧ SqL K H a (ns.map V.int) from h)
    have e : ns.length = n := by injection e
    subst e1
    exact .inl ⟨_, e2, by rw [List.length_map, e]⟩
  | str z =>
    have h : v = .str z := h
    subst h
    have e : (if z.length ≤ 16000000 then some z.length else none) = some n := e
    split at e
    · rename_i hz
      have e : z.length = n := by injection e
      exact ⟨le16 hz, e.symm⟩
    · cases e
  | _ => cases e
theorem caT_len : CaT K (rLenU K) lenF := by
  intro B0 H0 ρ σ B H ss vs k Q R hs h q
  obtain ⟨x, rfl, n, e, hk⟩ := sl1_inv h
  obtain ⟨v, rfl, hv⟩ := IsSls.one hs
  exact ⟨v, n, rfl, lenV_of e (hv.isH R.ex), kn_val R q (d := .int n) rfl hk⟩
def absF : List Sl → (Sl → Prop) → Prop := fun ss k => sl1 ss fun x => i1F (fun i k => k (.val (.int (if i < 0 then -i else i)))) x k
def rAbs : List V → Hp → VK → Prop := fun xs H Q => ∃ i, xs = [.int i] ∧ Q (.int (if i < 0 then -i else i)) H
theorem caT_abs : CaT K rAbs absF := by
  intro B0 H0 ρ σ B H ss vs k Q R hs h q
  obtain ⟨x, rfl, h⟩ := sl1_inv h
  obtain ⟨i, rfl, hk⟩ := i1F_inv h
  obtain ⟨v, rfl, hv⟩ := IsSls.one hs
  have hv : v = .int i := hv
  subst hv
  exact ⟨i, rfl, kn_val R q (d := .int _) rfl hk⟩
def minF : List Sl → (Sl → Prop) → Prop := fun ss k => sl2 ss fun x y => i2F (fun i j k => k (.val (.int (if j < i then j else i)))) x y k
def rMin2 : List V → Hp → VK → Prop := fun xs H Q => ∃ i j, xs = [.int i, .int j] ∧ Q (.int (if j < i then j else i)) H
theorem caT_min : CaT K rMin2 minF := by
  intro B0 H0 ρ σ B H ss vs k Q R hs h q
  obtain ⟨x, y, rfl, h⟩ := sl2_inv h
  obtain ⟨i, j, rfl, rfl, hk⟩ := i2F_inv h
  obtain ⟨v, w, rfl, hv, hw⟩ := IsSls.two hs
  have hv : v = .int i := hv
  have hw : w = .int j := hw
  subst hv hw
  exact ⟨i, j, rfl, kn_val R q (d := .int _) rfl hk⟩
def dvmF : List Sl → (Sl → Prop) → Prop := fun ss k => sl2 ss fun x y => i2F (fun i j k => CDivP i j ∧ k (.val (.tup [.int (i / j), .int (i % j)]))) x y k
def rDvm : List V → Hp → VK → Prop := fun xs H Q => ∃ i j, xs = [.int i, .int j] ∧ CDivP i j ∧ ∀ p, H p = none → Q (.ref p) (upd H p (.tup [.int (i / j), .int (i % j)]))
theorem caT_dvm : CaT K rDvm dvmF := by
  intro B0 H0 ρ σ B H ss vs k Q R hs h q
  obtain ⟨x, y, rfl, h⟩ := sl2_inv h
  obtain ⟨i, j, rfl, rfl, hc, hk⟩ := i2F_inv h
  obtain ⟨v, w, rfl, hv, hw⟩ := IsSls.two hs
  have hv : v = .int i := hv
  have hw : w = .int j := hw
  subst hv hw
  exact ⟨i, j, rfl, hc, fun p hp => kn_new (d := .tup [.int (i / j), .int (i % j)]) R q hp (fun e => ⟨p, _, rfl, SqT.of upd_same, _, _, rfl, rfl, _, _, rfl, rfl, rfl⟩) hk⟩
def strIF : List Sl → (Sl → Prop) → Prop := fun ss k => sl1 ss fun x => i1F (fun i k => i.natAbs.log2 < 1920 ∧ k (.val (.str (toString i)))) x k
def rStrI : List V → Hp → VK → Prop := fun xs H Q => ∃ i, xs = [.int i] ∧ i.natAbs.log2 < 1920 ∧ Q (.str (toString i)) H
theorem caT_strI : CaT K rStrI strIF := by
  intro B0 H0 ρ σ B H ss vs k Q R hs h q
  obtain ⟨x, rfl, h⟩ := sl1_inv h
  obtain ⟨i, rfl, hc, hk⟩ := i1F_inv h
  obtain ⟨v, rfl, hv⟩ := IsSls.one hs
  have hv : v = .int i := hv
  subst hv
  exact ⟨i, rfl, hc, kn_val R q (d := .str _) rfl hk⟩
/-- list(x), x a list or a tuple -/
def lstF : List Sl → (Sl → Prop) → Prop := fun ss k => sl1 ss fun x => ∃ ds, (match x with | .val (.tup ds) => some ds | s => lstOf s) = some ds ∧ k (.own ds)
def rListU (K : PySem.W.Frag) : List V → Hp → VK → Prop := fun xs H Q => ∃ p ys, xs = [.ref p] ∧ (SqL K H p ys ∨ SqT K H p ys) ∧ ∀ l, H l = none → Q (.ref l) (upd H l (.lst ys))
theorem caT_list : CaT K (rListU K) lstF := by
  intro B0 H0 ρ σ B H ss vs k Q R hs h q
  obtain ⟨x, rfl, ds, e, hk⟩ := sl1_inv h
  obtain ⟨v, rfl, hv⟩ := IsSls.one hs
  split at e
  · rename_i es
    have e : es = ds := by injection e
    subst e
    obtain ⟨a, xs, e1, e2, e3⟩ := (show ∃ a xs, v = .ref a ∧ SqT K B a xs ∧ IsAll K B es xs from hv)
    subst e1
    exact ⟨a, xs, rfl, .inr (R.ex.st e2), fun l hl => kn_own R q e3 hl hk⟩
  · obtain ⟨l, xs, rfl, h2, h3⟩ := lstOf_at e hv R.ex
    exact ⟨l, xs, rfl, .inl (SqL.of h2), fun l hl => kn_own R q h3 hl hk⟩

/-! ### isinstance, built-in classes -/
inductive Ty where
  | int | bool | str | list | tuple
def Ty.nm : Ty → String
  | .int => "int" | .bool => "bool" | .str => "str" | .list => "list" | .tuple => "tuple"
/-- a tree's class among these: 0 None -/
def tag : T → Option (Option Ty)
  | .non => some none
  | .bl _ => some (some .bool)
  | .int _ => some (some .int)
  | .str _ => some (some .str)
  | .lst _ => some (some .list)
  | .scr _ => some (some .list)
  | .tup _ => some (some .tuple)
  | _ => none
def tagN : Option Ty → String
  | none => "NoneType"
  | some t => t.nm
def isTy : Option Ty → Ty → Bool
  | some .int, .int => true
  | some .bool, .int => true
  | some .bool, .bool => true
  | some .str, .str => true
  | some .list, .list => true
  | some .tuple, .tuple => true
  | _, _ => false
theorem isTy_ok (a : Option Ty) (b : Ty) : kitB (tagN a) b.nm = some (isTy a b) := by
  cases a with
  | none => cases b <;> decide +kernel
  | some a => cases a <;> cases b <;> decide +kernel
def isiF (b : Ty) : Sl → (Sl → Prop) → Prop := fun x k => ∃ t, tag x.t = some t ∧ k (.val (.bl (isTy t b)))
def isiC (b : Ty) (a : E') : E' := fun ρ k W => a ρ (fun x => isiF b x.f k) W
theorem tyX_of {d : T} {t : Option Ty} (e : tag d = some t) (h : Is K H d v) : TyX K H v (.type (tagN t)) := by
  cases d with
  | non => have h : v = .non := h; subst h; cases e; exact .base .non
  | bl b => have h : v = .bl b := h; subst h; cases e; exact .base (.bl b)
  | int b => have h : v = .int b := h; subst h; cases e; exact .base (.int b)
  | str b => have h : v = .str b := h; subst h; cases e; exact .base (.str b)
  | lst ds =>
    obtain ⟨a, xs, e1, e2, e3⟩ := (show ∃ a xs, v = .ref a ∧ H a = some (.lst xs) ∧ IsAll K H ds xs from h)
    subst e1; cases e
    exact .base (.lst e2)
  | tup ds =>
    obtain ⟨a, xs, e1, e2, e3⟩ := (show ∃ a xs, v = .ref a ∧ SqT K H a xs ∧ IsAll K H ds xs from h)
    subst e1; cases e
    rcases e2 with (e2 | ⟨o, e2⟩) | ⟨o, its, n, h1, h2, _⟩
    · exact .base (.tup e2)
    · exact .fTuple e2
    · exact .kTuple h1 h2
  | scr ns =>
    obtain ⟨a, e1, e2⟩ := (show ∃ a, v = .ref a ∧ SqL K H a (ns.map V.int) from h)
    subst e1; cases e
    rcases e2 with (e2 | ⟨o, e2⟩) | ⟨o, its, n, h1, h2, _⟩
    · exact .base (.lst e2)
    · exact .base (.frz e2)
    · exact .kList h1 h2
  | _ => cases e
theorem simE_isi {b : Ty} {ta : TE} {ca : E'} (ha : SimE K E ta ca) : SimE K E (tCB (rIsi K) (tCons ta (tCons (tC (.ty b.nm)) tNil))) (isiC b ca) := by
  intro B0 H0 ρ σ B H k W Q R hc q w
  refine ha.frz (k := fun x => isiF b x k) R hc (fun x vx B1 H1 R1 eB1 eH1 hx fx h1 => ?_) w
  obtain ⟨t, e, hk⟩ := h1
  refine ⟨vx, .ty b.nm, .type (tagN t), .type b.nm, isTy t b, rfl, .ty _, tyX_of e (hx.isH R1.ex), kit_ty (isTy_ok t b), ?_⟩
  exact q (.val (.bl _)) (.bl _) B1 H1 R1 eB1 eH1 rfl trivial hk
end
end Ff

/-! The tree layer: syntax. -/
namespace Ff
open PySem PySem.Spec L2
section
variable {X : Cx} {E : XK} {a b c e : Expr} {es : List Expr} {ca cb cc ce : E'} {cas : A'} {pos p : Pos} {x : Str}
theorem pd_var (i : Nat) (hN : X.N[i]? = some x := by rfl) (hv : Vis X.env.scope x := by first | exact Or.inl rfl | exact Or.inr (Or.inl rfl) | exact Or.inr (Or.inr rfl)) (hd : (x == ("__debug__" : Str)) = false := by decide)
    (hcd : (x == ("__classdict__" : Str)) = false := by decide) : PE' X E (.Name x pos) (varC i) := ⟨_, pe_var hN hv hd hcd, simE_var i⟩
theorem pd_int {i j} : PE' X E (.Constant (.int i) j pos) (cstC (.int i)) := ⟨_, pe_int, simE_cst rfl⟩
theorem pd_str {i j} : PE' X E (.Constant (.str i) j pos) (cstC (.str i)) := ⟨_, pe_str, simE_cst rfl⟩
theorem pd_bl {i j} : PE' X E (.Constant (.bool i) j pos) (cstC (.bl i)) := ⟨_, pe_bl, simE_cst rfl⟩
theorem pd_non {j} : PE' X E (.Constant .none j pos) (cstC .non) := ⟨_, pe_non, simE_cst rfl⟩
/-- a constant of the module -/
theorem pd_glob {d : T} {v : V} {u : Value} (hm : X.mg x = some u) (r : RelV v u) (his : ∀ B, Is X.K B d v) (hg : Gl X x := by rfl) (hd : (x == ("__debug__" : Str)) = false := by decide) : PE' X E (.Name x pos) (cstC d) :=
  ⟨_, pe_glob hg hm r hd, fun B0 H0 ρ σ B H k W Q R hc q w => q (.val d) v B H R (Ex.refl B) (Ex.refl H) (his B) trivial hc⟩

/-! ### operators -/
theorem pd_bin {op : Operator} {r : R2} {f : Sl → Sl → (Sl → Prop) → Prop} (ho : OpR X (binaryOp op) r) (ht : OpT X.K r f) (ha : PE' X E a ca) (hb : PE' X E b cb) : PE' X E (.BinOp a op b pos) (binC f ca cb) := by
  obtain ⟨ta, p1, s1⟩ := ha.ex
  obtain ⟨tb, p2, s2⟩ := hb.ex
  exact ⟨_, pe_op ho p1 p2, simE_bin ht s1 s2⟩
theorem pd_add (ha : PE' X E a ca) (hb : PE' X E b cb) : PE' X E (.BinOp a .Add b pos) (binC addF ca cb) := pd_bin op_addU opT_add ha hb
theorem pd_sub (ha : PE' X E a ca) (hb : PE' X E b cb) : PE' X E (.BinOp a .Sub b pos) (binC subF ca cb) := pd_bin op_sub (opT_i0 fun _ _ => rfl) ha hb
theorem pd_mul (ha : PE' X E a ca) (hb : PE' X E b cb) : PE' X E (.BinOp a .Mult b pos) (binC mulF ca cb) := pd_bin op_mulX (opT_i fun _ _ => rfl) ha hb
theorem pd_fdv (ha : PE' X E a ca) (hb : PE' X E b cb) : PE' X E (.BinOp a .FloorDiv b pos) (binC fdvF ca cb) := pd_bin op_fdivW (opT_i fun _ _ => rfl) ha hb
theorem pd_mod (ha : PE' X E a ca) (hb : PE' X E b cb) : PE' X E (.BinOp a .Mod b pos) (binC modF ca cb) := pd_bin op_mod (opT_i fun _ _ => rfl) ha hb
theorem op_fdivZ : OpR X (binaryOp .FloorDiv) (rI CDivZ fun i j => .int (i.fdiv j)) := opI fun i j _ _ _ _ _ hc q => PyProof.Rows.floordiv_int hc.1 q (.inl (PyProof.noPylong_of_log2 hc.2))
theorem pd_fdvZ (ha : PE' X E a ca) (hb : PE' X E b cb) : PE' X E (.BinOp a .FloorDiv b pos) (binC fdvZF ca cb) := pd_bin op_fdivZ (opT_i fun _ _ => rfl) ha hb
theorem pd_modZ (ha : PE' X E a ca) (hb : PE' X E b cb) : PE' X E (.BinOp a .Mod b pos) (binC modZF ca cb) := pd_bin op_modN (opT_i fun _ _ => rfl) ha hb
theorem pd_pow (ha : PE' X E a ca) (hb : PE' X E b cb) : PE' X E (.BinOp a .Pow b pos) (binC powF ca cb) := pd_bin op_pow (opT_i fun _ _ => rfl) ha hb
theorem pd_shl (ha : PE' X E a ca) (hb : PE' X E b cb) : PE' X E (.BinOp a .LShift b pos) (binC shlF ca cb) := pd_bin op_shlW (opT_i fun _ _ => rfl) ha hb
theorem pd_shr (ha : PE' X E a ca) (hb : PE' X E b cb) : PE' X E (.BinOp a .RShift b pos) (binC shrF ca cb) := pd_bin op_shr (opT_i fun _ _ => rfl) ha hb
theorem pd_band (ha : PE' X E a ca) (hb : PE' X E b cb) : PE' X E (.BinOp a .BitAnd b pos) (binC andF ca cb) := pd_bin op_and (opT_i0 fun _ _ => rfl) ha hb
theorem pd_bor (ha : PE' X E a ca) (hb : PE' X E b cb) : PE' X E (.BinOp a .BitOr b pos) (binC orF ca cb) := pd_bin op_or (opT_i0 fun _ _ => rfl) ha hb
theorem pd_bxor (ha : PE' X E a ca) (hb : PE' X E b cb) : PE' X E (.BinOp a .BitXor b pos) (binC xorF ca cb) := pd_bin op_xor (opT_i0 fun _ _ => rfl) ha hb
theorem pd_neg (ha : PE' X E a ca) : PE' X E (.UnaryOp .USub a pos) (unC negF ca) := by
  obtain ⟨ta, p1, s1⟩ := ha.ex
  exact ⟨_, pe_un un_neg p1, simE_un (unT_i fun _ => rfl) s1⟩
theorem pd_cmp {op : CmpOp} {r : R2} {f : Sl → Sl → (Sl → Prop) → Prop} (ho : OpR X (compareOp op) r) (ht : OpT X.K r f) (hm : behindInMarks op b = false) (ha : PE' X E a ca) (hb : PE' X E b cb) : PE' X E (.Compare a [op] [b] pos) (binC f ca cb) := by
  obtain ⟨ta, p1, s1⟩ := ha.ex
  obtain ⟨tb, p2, s2⟩ := hb.ex
  exact ⟨_, pe_cmpR ho p1 p2 hm, simE_bin ht s1 s2⟩
theorem qd_cmp {op : CmpOp} {r : R2} {f : Sl → Sl → (Sl → Prop) → Prop} (ho : OpR X (compareOp op) r) (ht : OpT X.K r f) (hm : behindInMarks op b = false) (ha : PE' X E a ca) (hb : PE' X E b cb) : PT' X E (.Compare a [op] [b] pos) (tstC (binC f ca cb)) := by
  obtain ⟨ta, p1, s1⟩ := ha.ex
  obtain ⟨tb, p2, s2⟩ := hb.ex
  exact ⟨_, pt_cmpR ho p1 p2 hm, simB_test (simE_bin ht s1 s2)⟩
theorem pd_lt (ha : PE' X E a ca) (hb : PE' X E b cb) : PE' X E (.Compare a [.Lt] [b] pos) (binC ltF ca cb) := pd_cmp op_lt (opT_i0 fun _ _ => rfl) (nomark _) ha hb
theorem pd_le (ha : PE' X E a ca) (hb : PE' X E b cb) : PE' X E (.Compare a [.LtE] [b] pos) (binC leF ca cb) := pd_cmp op_le (opT_i0 fun _ _ => rfl) (nomark _) ha hb
theorem pd_gt (ha : PE' X E a ca) (hb : PE' X E b cb) : PE' X E (.Compare a [.Gt] [b] pos) (binC gtF ca cb) := pd_cmp op_gt (opT_i0 fun _ _ => rfl) (nomark _) ha hb
theorem pd_ge (ha : PE' X E a ca) (hb : PE' X E b cb) : PE' X E (.Compare a [.GtE] [b] pos) (binC geF ca cb) := pd_cmp op_ge (opT_i0 fun _ _ => rfl) (nomark _) ha hb
theorem qd_lt (ha : PE' X E a ca) (hb : PE' X E b cb) : PT' X E (.Compare a [.Lt] [b] pos) (tstC (binC ltF ca cb)) := qd_cmp op_lt (opT_i0 fun _ _ => rfl) (nomark _) ha hb
theorem qd_le (ha : PE' X E a ca) (hb : PE' X E b cb) : PT' X E (.Compare a [.LtE] [b] pos) (tstC (binC leF ca cb)) := qd_cmp op_le (opT_i0 fun _ _ => rfl) (nomark _) ha hb
theorem qd_gt (ha : PE' X E a ca) (hb : PE' X E b cb) : PT' X E (.Compare a [.Gt] [b] pos) (tstC (binC gtF ca cb)) := qd_cmp op_gt (opT_i0 fun _ _ => rfl) (nomark _) ha hb
theorem qd_ge (ha : PE' X E a ca) (hb : PE' X E b cb) : PT' X E (.Compare a [.GtE] [b] pos) (tstC (binC geF ca cb)) := qd_cmp op_ge (opT_i0 fun _ _ => rfl) (nomark _) ha hb
theorem pd_eq {k : Nat} (hr : Room k X.A) (ha : PE' X E a ca) (hb : PE' X E b cb) : PE' X E (.Compare a [.Eq] [b] pos) (binC eqF ca cb) := pd_cmp (op_eqU hr.units) opT_eq (nomark _) ha hb
theorem pd_ne {k : Nat} (hr : Room k X.A) (ha : PE' X E a ca) (hb : PE' X E b cb) : PE' X E (.Compare a [.NotEq] [b] pos) (binC neF ca cb) := pd_cmp (op_neU hr.units) opT_ne (nomark _) ha hb
theorem qd_eq {k : Nat} (hr : Room k X.A) (ha : PE' X E a ca) (hb : PE' X E b cb) : PT' X E (.Compare a [.Eq] [b] pos) (tstC (binC eqF ca cb)) := qd_cmp (op_eqU hr.units) opT_eq (nomark _) ha hb
theorem qd_ne {k : Nat} (hr : Room k X.A) (ha : PE' X E a ca) (hb : PE' X E b cb) : PT' X E (.Compare a [.NotEq] [b] pos) (tstC (binC neF ca cb)) := qd_cmp (op_neU hr.units) opT_ne (nomark _) ha hb
theorem pd_is (ha : PE' X E a ca) (hb : PE' X E b cb) : PE' X E (.Compare a [.Is] [b] pos) (binC isF ca cb) := pd_cmp op_isU opT_is (nomark _) ha hb
theorem pd_isn (ha : PE' X E a ca) (hb : PE' X E b cb) : PE' X E (.Compare a [.IsNot] [b] pos) (binC isnF ca cb) := pd_cmp op_notU opT_isn (nomark _) ha hb
theorem qd_is (ha : PE' X E a ca) (hb : PE' X E b cb) : PT' X E (.Compare a [.Is] [b] pos) (tstC (binC isF ca cb)) := qd_cmp op_isU opT_is (nomark _) ha hb
theorem qd_isn (ha : PE' X E a ca) (hb : PE' X E b cb) : PT' X E (.Compare a [.IsNot] [b] pos) (tstC (binC isnF ca cb)) := qd_cmp op_notU opT_isn (nomark _) ha hb
/-- a op1 b op2 c -/
theorem pd_lele (ha : PE' X E a ca) (hb : PE' X E b cb) (hc : PE' X E c cc) (hm : lastMarks [.LtE, .LtE] [b, c] = false := by with_unfolding_all rfl) : PE' X E (.Compare a [.LtE, .LtE] [b, c] pos) (chnC leF leF ca cb cc) := by
  obtain ⟨ta, p1, s1⟩ := ha.ex
  obtain ⟨tb, p2, s2⟩ := hb.ex
  obtain ⟨tc, p3, s3⟩ := hc.ex
  exact ⟨_, pe_chain op_le op_le p1 p2 p3 hm, simE_chn (opT_i0 fun _ _ => rfl) (opT_i0 fun _ _ => rfl) s1 s2 s3⟩
theorem pd_lelt (ha : PE' X E a ca) (hb : PE' X E b cb) (hc : PE' X E c cc) (hm : lastMarks [.LtE, .Lt] [b, c] = false := by with_unfolding_all rfl) : PE' X E (.Compare a [.LtE, .Lt] [b, c] pos) (chnC leF ltF ca cb cc) := by
  obtain ⟨ta, p1, s1⟩ := ha.ex
  obtain ⟨tb, p2, s2⟩ := hb.ex
  obtain ⟨tc, p3, s3⟩ := hc.ex
  exact ⟨_, pe_chain op_le op_lt p1 p2 p3 hm, simE_chn (opT_i0 fun _ _ => rfl) (opT_i0 fun _ _ => rfl) s1 s2 s3⟩
theorem qd_lelt (ha : PE' X E a ca) (hb : PE' X E b cb) (hc : PE' X E c cc) (hm : lastMarks [.LtE, .Lt] [b, c] = false := by with_unfolding_all rfl) : PT' X E (.Compare a [.LtE, .Lt] [b, c] pos) (tstC (chnC leF ltF ca cb cc)) := by
  obtain ⟨ta, p1, s1⟩ := ha.ex
  obtain ⟨tb, p2, s2⟩ := hb.ex
  obtain ⟨tc, p3, s3⟩ := hc.ex
  exact ⟨_, pt_chain op_le op_lt p1 p2 p3 hm, simB_test (simE_chn (opT_i0 fun _ _ => rfl) (opT_i0 fun _ _ => rfl) s1 s2 s3)⟩
theorem pd_ix (ha : PE' X E a ca) (hb : PE' X E b cb) (hs : PlainIx b := by exact fun _ _ => rfl) : PE' X E (.Subscript a b pos) (binC ixF ca cb) := by
  obtain ⟨ta, p1, s1⟩ := ha.ex
  obtain ⟨tb, p2, s2⟩ := hb.ex
  exact ⟨_, pe_ix ix_seq p1 p2 hs, simE_bin opT_ix s1 s2⟩

/-! ### and, or, not -/
variable {rest : List Expr} {ba bb : B'}
theorem qd_tst (ha : PE' X E a ca) (he : ∀ whole, isTrue a X.env whole = (do let v ← whole; standAt a.pos; holding [v] (truthy v)) := by intro _; rfl) : PT' X E a (tstC ca) := by
  obtain ⟨ta, p1, s1⟩ := ha.ex
  exact ⟨_, pt_val p1 he, simB_B s1⟩
theorem qd_tru (ha : PE' X E a ca) (he : ∀ whole, isTrue a X.env whole = (do let v ← whole; standAt a.pos; holding [v] (truthy v)) := by intro _; rfl) : PT' X E a (truC ca) := by
  obtain ⟨ta, p1, s1⟩ := ha.ex
  exact ⟨_, pt_truth p1 he, simB_tru s1⟩
theorem PW'.pt (h : PW' X E a ba) : PT' X E a ba := by
  obtain ⟨t, p1, s1⟩ := h.ex
  exact ⟨_, p1.pt, s1⟩
theorem wd_and1 (ha : PT' X E a ba) : PW' X E (.BoolOp .And [a] pos) ba := by
  obtain ⟨t, p1, s1⟩ := ha.ex
  exact ⟨_, pw_and1 p1, s1⟩
theorem wd_or1 (ha : PT' X E a ba) : PW' X E (.BoolOp .Or [a] pos) ba := by
  obtain ⟨t, p1, s1⟩ := ha.ex
  exact ⟨_, pw_or1 p1, s1⟩
theorem wd_and (ha : PT' X E a ba) (hb : PW' X E (.BoolOp .And (b :: rest) pos) bb) : PW' X E (.BoolOp .And (a :: b :: rest) pos) (andC ba bb) := by
  obtain ⟨t, p1, s1⟩ := ha.ex
  obtain ⟨u, p2, s2⟩ := hb.ex
  exact ⟨_, pw_and p1 p2, simB_and s1 s2⟩
theorem wd_or (ha : PT' X E a ba) (hb : PW' X E (.BoolOp .Or (b :: rest) pos) bb) : PW' X E (.BoolOp .Or (a :: b :: rest) pos) (orC ba bb) := by
  obtain ⟨t, p1, s1⟩ := ha.ex
  obtain ⟨u, p2, s2⟩ := hb.ex
  exact ⟨_, pw_or p1 p2, simB_or s1 s2⟩
theorem qd_not (ha : PT' X E a ba) : PT' X E (.UnaryOp .Not a pos) (notC ba) := by
  obtain ⟨t, p1, s1⟩ := ha.ex
  exact ⟨_, pt_not p1, simB_not s1⟩
theorem pd_one {op} (ha : PE' X E a ca) : PE' X E (.BoolOp op [a] pos) ca := by
  obtain ⟨t, p1, s1⟩ := ha.ex
  exact ⟨_, pe_one p1, s1⟩
theorem pd_and (ha : PE' X E a ca) (hb : PE' X E (.BoolOp .And (b :: rest) pos) cb) : PE' X E (.BoolOp .And (a :: b :: rest) pos) (andV ca cb) := by
  obtain ⟨t, p1, s1⟩ := ha.ex
  obtain ⟨u, p2, s2⟩ := hb.ex
  exact ⟨_, pe_and p1 p2, simE_andV s1 s2⟩
theorem pd_or (ha : PE' X E a ca) (hb : PE' X E (.BoolOp .Or (b :: rest) pos) cb) : PE' X E (.BoolOp .Or (a :: b :: rest) pos) (orV ca cb) := by
  obtain ⟨t, p1, s1⟩ := ha.ex
  obtain ⟨u, p2, s2⟩ := hb.ex
  exact ⟨_, pe_or p1 p2, simE_orV s1 s2⟩
theorem pd_not (ha : PE' X E a ca) : PE' X E (.UnaryOp .Not a pos) (notV ca) := by
  obtain ⟨t, p1, s1⟩ := ha.ex
  exact ⟨_, pe_not p1, simE_notV s1⟩
theorem pd_ite (hc : PT' X E c ba) (ha : PE' X E a ca) (hb : PE' X E b cb) : PE' X E (.IfExp c a b pos) (iteC ba ca cb) := by
  obtain ⟨t, p1, s1⟩ := ha.ex
  obtain ⟨u, p2, s2⟩ := hb.ex
  obtain ⟨v, p3, s3⟩ := hc.ex
  exact ⟨_, pe_ifExp p3 p1 p2, simE_ite s3 s1 s2⟩

/-! ### arguments, displays, calls -/
theorem ad_nil : PA' X E [] nilA := ⟨_, pa_nil, simA_nil⟩
theorem ad_cons (ha : PE' X E e ce) (hr : PA' X E es cas) (hs : starEach (e :: es) X.env = (false, eval e X.env) :: starEach es X.env := by rfl) : PA' X E (e :: es) (consA ce cas) := by
  obtain ⟨t, p1, s1⟩ := ha.ex
  obtain ⟨u, p2, s2⟩ := hr.ex
  exact ⟨_, pa_cons p1 p2 hs, simA_cons s1 s2⟩
theorem pd_tup {k} (ha : PA' X E es cas) : PE' X E (.Tuple es k pos) (tupC cas) := by
  obtain ⟨t, p1, s1⟩ := ha.ex
  exact ⟨_, pe_tup p1, simE_tup s1⟩
theorem pd_lst (ha : PA' X E es cas) : PE' X E (.List es pos) (lstC cas) := by
  obtain ⟨t, p1, s1⟩ := ha.ex
  exact ⟨_, pe_lst p1, simE_lst s1⟩
/-- a def that keeps a contract -/
structure Cal (P : Program) (w : World) (K : PySem.W.Frag) (mg : Str → Option Value) (base : Heap) (x : Str) (lvl : Nat) (C : C') : Prop where
  ex : ∃ (f : Addr) (fd : FuncData) (ps : List Str), mg x = some (.ref f) ∧ PySem.W.keepIn K (.ref f) = true ∧ Binds K fd ps [] ∧ FnOk P w K mg base (L2.CX P w) lvl f fd ps (SpC K C)
theorem pd_call {lvl k : Nat} {C : C'} (F : Cal X.prog X.w X.K X.mg X.base x lvl C) (hr : Room k X.A) (hl : lvl ≤ k) (ha : PA' X E (e :: es) cas) (hg : Gl X x := by rfl) (hdb : (x == ("__debug__" : Str)) = false := by decide)
    (he : starEach (e :: es) X.env = (false, eval e X.env) :: starEach es X.env := by rfl) (hpl : (backTo pos (starEach es X.env)).any (·.1) = false := by rfl) : PE' X E (.Call (.Name x p) (e :: es) [] pos) (callC C cas) := by
  obtain ⟨t, p1, s1⟩ := ha.ex
  obtain ⟨f, fd, ps, h1, h2, h3, h4⟩ := F.ex
  exact ⟨_, pe_call h4 (hr.mono hl) hg h1 h2 h3 .nil passL p1 hdb he hpl, simE_call s1⟩
theorem pd_call0 {lvl k : Nat} {C : C'} (F : Cal X.prog X.w X.K X.mg X.base x lvl C) (hr : Room k X.A) (hl : lvl ≤ k) (hg : Gl X x := by rfl) (hdb : (x == ("__debug__" : Str)) = false := by decide) : PE' X E (.Call (.Name x p) [] [] pos) (callC C nilA) := by
  obtain ⟨f, fd, ps, h1, h2, h3, h4⟩ := F.ex
  exact ⟨_, pe_call0 h4 (hr.mono hl) hg h1 h2 h3 .nil passL hdb, simE_call simA_nil⟩
/-- a built-in function, class -/
theorem pd_cb {id : String} {r : List V → Hp → VK → Prop} {f : List Sl → (Sl → Prop) → Prop} (hc : CallR X (.builtin id) r) (ht : CaT X.K r f) (hv : bootBuiltins x = some (.builtin id)) (hm : X.mg x = none) (ha : PA' X E (e :: es) cas) (hg : Gl X x := by rfl) (hn : x ≠ "__name__" := by decide)
    (hdb : (x == ("__debug__" : Str)) = false := by decide) (he : starEach (e :: es) X.env = (false, eval e X.env) :: starEach es X.env := by rfl) (hpl : (backTo pos (starEach es X.env)).any (·.1) = false := by rfl) : PE' X E (.Call (.Name x p) (e :: es) [] pos) (blC f cas) := by
  obtain ⟨t, p1, s1⟩ := ha.ex
  exact ⟨_, pe_callB hc hg hm hv p1 hn hdb he hpl, simE_cb ht s1⟩
theorem pd_cty {id : String} {r : List V → Hp → VK → Prop} {f : List Sl → (Sl → Prop) → Prop} (hc : CallR X (.type id) r) (ht : CaT X.K r f) (hv : bootBuiltins x = some (.type id)) (hm : X.mg x = none) (ha : PA' X E (e :: es) cas) (hg : Gl X x := by rfl) (hn : x ≠ "__name__" := by decide)
    (hdb : (x == ("__debug__" : Str)) = false := by decide) (he : starEach (e :: es) X.env = (false, eval e X.env) :: starEach es X.env := by rfl) (hpl : (backTo pos (starEach es X.env)).any (·.1) = false := by rfl) : PE' X E (.Call (.Name x p) (e :: es) [] pos) (blC f cas) := by
  obtain ⟨t, p1, s1⟩ := ha.ex
  exact ⟨_, pe_callTy hc hg hm hv p1 hn hdb he hpl, simE_cb ht s1⟩
theorem bb_abs : bootBuiltins "abs" = some (.builtin "abs") := by decide +kernel
theorem bb_len : bootBuiltins "len" = some (.builtin "len") := by decide +kernel
theorem bb_min : bootBuiltins "min" = some (.builtin "min") := by decide +kernel
theorem bb_divmod : bootBuiltins "divmod" = some (.builtin "divmod") := by decide +kernel
theorem bb_isinstance : bootBuiltins "isinstance" = some (.builtin "isinstance") := by decide +kernel
theorem bb_str : bootBuiltins "str" = some (.type "str") := by decide +kernel
theorem bb_list : bootBuiltins "list" = some (.type "list") := by decide +kernel
theorem bb_int : bootBuiltins "int" = some (.type "int") := by decide +kernel
theorem bb_bool : bootBuiltins "bool" = some (.type "bool") := by decide +kernel
theorem bb_tuple : bootBuiltins "tuple" = some (.type "tuple") := by decide +kernel
/-- isinstance(e, T) -/
theorem pd_isi {n : Str} {p2 : Pos} (b : Ty) (hv : bootBuiltins n = some (.type b.nm)) (hm : X.mg n = none) (hmI : X.mg "isinstance" = none) (ha : PE' X E e ce) (hg : Gl X n := by rfl) (hgI : Gl X "isinstance" := by rfl) (hn : n ≠ "__name__" := by decide) (hd : (n == ("__debug__" : Str)) = false := by decide)
    (he : starEach (e :: [.Name n p2]) X.env = (false, eval e X.env) :: starEach [.Name n p2] X.env := by rfl) (he2 : starEach [.Name n p2] X.env = (false, eval (.Name n p2) X.env) :: starEach [] X.env := by rfl) (hpl : (backTo pos (starEach [.Name n p2] X.env)).any (·.1) = false := by rfl) :
    PE' X E (.Call (.Name "isinstance" p) [e, .Name n p2] [] pos) (isiC b ce) := by
  obtain ⟨t, p1, s1⟩ := ha.ex
  exact ⟨_, pe_callB call_isi hgI hmI bb_isinstance (pa_cons p1 (pa_cons (pe_bltn hg hm hv (v := .ty b.nm) rfl hn hd) pa_nil he2) he) (by decide) (by decide) he hpl, simE_isi s1⟩

/-! ### statements -/
variable {st : Stmt} {sts : List Stmt} {cs ct cu : S'} {i j : Nat}
theorem sd_nil : PSs' X E [] nextC := ⟨_, pss_nil, simS_next⟩
theorem sd_one (h : PS' X E st cs) : PSs' X E [st] cs := by
  obtain ⟨t, p1, s1⟩ := h.ex
  exact ⟨_, pss_one p1, s1⟩
theorem sd_cons (h : PS' X E st cs) (hr : PSs' X E sts ct) : PSs' X E (st :: sts) (seqC cs ct) := by
  obtain ⟨t, p1, s1⟩ := h.ex
  obtain ⟨u, p2, s2⟩ := hr.ex
  exact ⟨_, pss_cons p1 p2, simS_seq s1 s2⟩
theorem sd_frz (i : Nat) (h : PSs' X E sts cs) : PSs' X E sts (seqC (frzC i) cs) := by
  obtain ⟨t, p1, s1⟩ := h.ex
  exact ⟨_, p1, simS_frz s1⟩
theorem sd_pass : PS' X E (.Pass pos) nextC := ⟨_, ps_pass, simS_next⟩
theorem sd_never : PS' X E st neverC := ⟨_, ps_never, simS_never⟩
theorem sd_set {pos' : Pos} (i : Nat) (he : PE' X E e ce) (hN : X.N.Nodup := by first | assumption | decide +kernel) (hi : X.N[i]? = some x := by rfl) (hx : Loc X.env.scope x := by first | exact Or.inl rfl | exact Or.inr rfl) (hs : swapsWith e (some (.Name x pos')) pos.line X.env = pure false := by rfl)
    (hf : X.fn x = true ∨ X.env.scope.names.lookup x = some .local := by first | exact .inl rfl | exact .inr rfl | assumption) : PS' X E (.Assign [.Name x pos'] e pos) (asgC i ce) := by
  obtain ⟨t, p1, s1⟩ := he.ex
  exact ⟨_, ps_set hN hi hx p1 hs hf, simS_asg s1⟩
theorem sd_setV {pos' : Pos} (i : Nat) (he : PE' X E e ce) (hN : X.N.Nodup := by first | assumption | decide +kernel) (hi : X.N[i]? = some x := by rfl) (hx : Loc X.env.scope x := by first | exact Or.inl rfl | exact Or.inr rfl) (hs : swapsWith e (some (.Name x pos')) pos.line X.env = pure false := by rfl)
    (hf : X.fn x = true ∨ X.env.scope.names.lookup x = some .local := by first | exact .inl rfl | exact .inr rfl | assumption) : PS' X E (.Assign [.Name x pos'] e pos) (asgV i ce) := by
  obtain ⟨t, p1, s1⟩ := he.ex
  exact ⟨_, ps_set hN hi hx p1 hs hf, simS_asgV s1⟩
theorem sd_ret (he : PE' X E e ce) : PS' X E (.Return (some e) pos) (retC ce) := by
  obtain ⟨t, p1, s1⟩ := he.ex
  exact ⟨_, ps_ret p1, simS_ret s1⟩
theorem sd_retO (i : Nat) (hN : X.N[i]? = some x := by rfl) (hv : Vis X.env.scope x := by first | exact Or.inl rfl | exact Or.inr (Or.inl rfl) | exact Or.inr (Or.inr rfl)) (hd : (x == ("__debug__" : Str)) = false := by decide)
    (hcd : (x == ("__classdict__" : Str)) = false := by decide) : PS' X E (.Return (some (.Name x p)) pos) (retO i) := ⟨_, ps_ret (pe_var hN hv hd hcd), simS_retO⟩
theorem sd_retN : PS' X E (.Return none pos) retN := ⟨_, ps_retN, simS_retN⟩
theorem sd_expr (he : PE' X E e ce) (hs : swapsWith e none pos.line X.env = pure false := by rfl) : PS' X E (.Expr e pos) (dropC ce) := by
  obtain ⟨t, p1, s1⟩ := he.ex
  exact ⟨_, ps_expr p1 hs, simS_drop s1⟩
theorem sd_if {as bs : List Stmt} (hc : PT' X E c ba) (ha : PSs' X E as ct) (hb : PSs' X E bs cu) : PS' X E (.If c as bs pos) (ifC ba ct cu) := by
  obtain ⟨t, p1, s1⟩ := ha.ex
  obtain ⟨u, p2, s2⟩ := hb.ex
  obtain ⟨v, p3, s3⟩ := hc.ex
  exact ⟨_, ps_if p3 p1 p2, simS_if s3 s1 s2⟩
theorem sd_par {y : Str} {px py pt : Pos} {kt k2 pt2} (i j : Nat) (ha : PA' X E [a, b] cas) (hij : i ≠ j := by decide) (hN : X.N.Nodup := by first | assumption | decide +kernel) (hc : X.calm = true := by rfl) (hi : X.N[i]? = some x := by rfl) (hj : X.N[j]? = some y := by rfl)
    (hx : X.env.scope.names.lookup x = some .local := by rfl) (hy : X.env.scope.names.lookup y = some .local := by rfl)
    (hw : swappedStores [.Tuple [.Name x px, .Name y py] kt pt] (.Tuple [a, b] k2 pt2) X.env = pure (some [x, y]) := by rfl)
    (hs : swapsWithSole [.Tuple [.Name x px, .Name y py] kt pt] (.Tuple [a, b] k2 pt2) pos.line X.env = pure false := by rfl) : PS' X E (.Assign [.Tuple [.Name x px, .Name y py] kt pt] (.Tuple [a, b] k2 pt2) pos) (parC i j cas) := by
  obtain ⟨t, p1, s1⟩ := ha.ex
  exact ⟨_, ps_par hc hN hi hj hij hx hy p1 hw hs, simS_par s1⟩
/-- names as targets -/
structure PGn (X : Cx) (es : List Expr) (is : List Nat) : Prop where
  ex : PGs X es (gNames is)
theorem gd_nil : PGn X [] [] := ⟨pgs_nil⟩
theorem gd_cons {is : List Nat} (i : Nat) (hr : PGn X es is) (hN : X.N.Nodup := by first | assumption | decide +kernel) (hi : X.N[i]? = some x := by rfl) (hx : Loc X.env.scope x := by first | exact Or.inl rfl | exact Or.inr rfl) (hf : X.fn x = true ∨ X.env.scope.names.lookup x = some .local := by first | exact .inl rfl | exact .inr rfl | assumption)
    (hs : (assignEach (.Name x p :: es) X.env).map (·.2) = assign (.Name x p) X.env :: (assignEach es X.env).map (·.2) := by rfl) : PGn X (.Name x p :: es) (i :: is) := ⟨pgs_cons (pg_name hN hi hx hf) hr.ex hs⟩
theorem sd_up {is : List Nat} {n k : Nat} {pt : Pos} (hg : PGn X es is) (he : PE' X E e ce) (hn : is.length = n := by rfl) (hc : X.calm = true := by rfl) (hl : (assignEach es X.env).length = n := by rfl) (hst : (assignEach es X.env).findIdx? (·.1) = none := by rfl)
    (hs : swapsWithSole [.Tuple es k pt] e pos.line X.env = pure false := by rfl) (hw : swappedStores [.Tuple es k pt] e X.env = pure none := by rfl) (h1 : (assignEach [.Tuple es k pt] X.env).map (·.2) = [assign (.Tuple es k pt) X.env] := by rfl) : PS' X E (.Assign [.Tuple es k pt] e pos) (upC is ce) := by
  obtain ⟨t, p1, s1⟩ := he.ex
  exact ⟨_, ps_asg p1 (pg_tup hc hg.ex hl hst) hs hw h1, simS_up hn s1⟩
theorem sd_while {body : List Stmt} (hp : PassesOwn (model X.prog X.w) X.A X.env X.xe) (hc : PT' X E c ba) (hb : PSs' X E body cs) : PS' X E (.While c body [] pos) (whileC ba cs) := by
  obtain ⟨t, p1, s1⟩ := hc.ex
  obtain ⟨u, p2, s2⟩ := hb.ex
  exact ⟨_, ps_while hp p1 p2, simS_while s1 s2⟩
theorem sd_forR {body : List Stmt} {pt : Pos} (j : Nat) (hp : PassesOwn (model X.prog X.w) X.A X.env X.xe) (hm : X.mg "range" = none) (ha : PA' X E [a] cas) (hb : PSs' X E body cs) (hN : X.N.Nodup := by first | assumption | decide +kernel) (hc : X.calm = true := by rfl) (hg : Gl X "range" := by rfl) (hi : X.N[j]? = some x := by rfl)
    (hx : Loc X.env.scope x := by first | exact Or.inl rfl | exact Or.inr rfl) (hf : X.fn x = true ∨ X.env.scope.names.lookup x = some .local := by first | exact .inl rfl | exact .inr rfl | assumption)
    (hs : starEach [a] X.env = [(false, eval a X.env)] := by rfl) (hs2 : ∀ z, foldedSetIterable (.Call (.Name "range" p) [a] [] pt) X.env z = pure z := by intro _; rfl) {px : Pos} : PS' X E (.For (.Name x px) (.Call (.Name "range" p) [a] [] pt) body [] pos) (forR j cas cs) := by
  obtain ⟨t, p1, s1⟩ := ha.ex
  obtain ⟨u, p2, s2⟩ := hb.ex
  exact ⟨_, ps_for hp hc (pi_range1 hg hm p1 hs) (pg_name hN hi hx hf) p2 hs2, simS_forR s1 s2⟩
theorem sd_forR2 {body : List Stmt} {pt : Pos} (j : Nat) (hp : PassesOwn (model X.prog X.w) X.A X.env X.xe) (hm : X.mg "range" = none) (ha : PA' X E [a, b] cas) (hb : PSs' X E body cs) (hN : X.N.Nodup := by first | assumption | decide +kernel) (hc : X.calm = true := by rfl) (hg : Gl X "range" := by rfl) (hi : X.N[j]? = some x := by rfl)
    (hx : Loc X.env.scope x := by first | exact Or.inl rfl | exact Or.inr rfl) (hf : X.fn x = true ∨ X.env.scope.names.lookup x = some .local := by first | exact .inl rfl | exact .inr rfl | assumption)
    (hs : starEach [a, b] X.env = [(false, eval a X.env), (false, eval b X.env)] := by rfl) (hsb : starEach [b] X.env = [(false, eval b X.env)] := by rfl) (hs2 : ∀ z, foldedSetIterable (.Call (.Name "range" p) [a, b] [] pt) X.env z = pure z := by intro _; rfl) {px : Pos} :
    PS' X E (.For (.Name x px) (.Call (.Name "range" p) [a, b] [] pt) body [] pos) (forR2 j cas cs) := by
  obtain ⟨t, p1, s1⟩ := ha.ex
  obtain ⟨u, p2, s2⟩ := hb.ex
  exact ⟨_, ps_for hp hc (pi_range2 hg hm p1 hs hsb) (pg_name hN hi hx hf) p2 hs2, simS_forR2 s1 s2⟩
theorem sd_for {body : List Stmt} {px : Pos} (j : Nat) (hp : PassesOwn (model X.prog X.w) X.A X.env X.xe) (hi' : PE' X E e ce) (hb : PSs' X E body cs) (hN : X.N.Nodup := by first | assumption | decide +kernel) (hc : X.calm = true := by rfl) (hi : X.N[j]? = some x := by rfl)
    (hx : Loc X.env.scope x := by first | exact Or.inl rfl | exact Or.inr rfl) (hf : X.fn x = true ∨ X.env.scope.names.lookup x = some .local := by first | exact .inl rfl | exact .inr rfl | assumption)
    (hs2 : ∀ z, foldedSetIterable e X.env z = pure z := by intro _; rfl) : PS' X E (.For (.Name x px) e body [] pos) (forC ce (gN j) cs) := by
  obtain ⟨t, p1, s1⟩ := hi'.ex
  obtain ⟨u, p2, s2⟩ := hb.ex
  exact ⟨_, ps_for hp hc (pi_seq p1) (pg_name hN hi hx hf) p2 hs2, simS_for s1 simG_n s2⟩
theorem sd_forT {body : List Stmt} {pt : Pos} {ts : List Expr} {is : List Nat} {n k : Nat} (hg : PGn X ts is) (hp : PassesOwn (model X.prog X.w) X.A X.env X.xe) (hi' : PE' X E e ce) (hb : PSs' X E body cs) (hn : is.length = n := by rfl) (hc : X.calm = true := by rfl) (hl : (assignEach ts X.env).length = n := by rfl)
    (hst : (assignEach ts X.env).findIdx? (·.1) = none := by rfl) (hs2 : ∀ z, foldedSetIterable e X.env z = pure z := by intro _; rfl) : PS' X E (.For (.Tuple ts k pt) e body [] pos) (forC ce (gTs is) cs) := by
  obtain ⟨t, p1, s1⟩ := hi'.ex
  obtain ⟨u, p2, s2⟩ := hb.ex
  exact ⟨_, ps_for hp hc (pi_seq p1) (pg_tup hc hg.ex hl hst) p2 hs2, simS_for s1 (simG_ts hn) s2⟩
/-- x.append(e) -/
theorem sd_app {apos p2 : Pos} (i : Nat) (he : PE' X E e ce) (hN : X.N[i]? = some x := by rfl) (hv : Vis X.env.scope x := by first | exact Or.inl rfl | exact Or.inr (Or.inl rfl) | exact Or.inr (Or.inr rfl)) (hd : (x == ("__debug__" : Str)) = false := by decide)
    (hcd : (x == ("__classdict__" : Str)) = false := by decide) (hbase : attributeBase (.Name x p) "append" X.env (eval (.Name x p) X.env) = eval (.Name x p) X.env := by rfl)
    (hfew : ((backTo pos (starEach [e] X.env)).all (fun x => !x.1) && (backToKw pos (keywordEach [] X.env)).all (fun x => x.1.isSome)
      && decide ([e].length + ([] : List Keyword).length + (if ([] : List Keyword).isEmpty then 0 else 1) < 30)) = true := by rfl)
    (hline : (apos.endLine == pos.line) = true := by rfl) (hs : starEach [e] X.env = (false, eval e X.env) :: starEach [] X.env := by rfl) (hplain : (backTo pos (starEach [] X.env)).any (·.1) = false := by rfl)
    (hsw : swapsWith (.Call (.Attribute (.Name x p) "append" apos) [e] [] pos) none p2.line X.env = pure false := by rfl) : PS' X E (.Expr (.Call (.Attribute (.Name x p) "append" apos) [e] [] pos) p2) (appC i ce) := by
  obtain ⟨t, p1, s1⟩ := he.ex
  exact ⟨_, ps_expr (pe_bm PySem.F.plainAttrs_list PySem.F.slot_list_append PySem.F.type_list_append mt_append (pe_var hN hv hd hcd) (pa_cons p1 pa_nil hs) hbase hfew hline hs hplain) hsw, simS_app s1⟩
end
/-! ### a def -/
def startR (N : List Str) (ds : List T) : Rho := ds.map (fun d => some (Sl.val d)) ++ List.replicate (N.length - ds.length) none
theorem rep_start {K : PySem.W.Frag} {B H : Hp} {N : List Str} {ds : List T} {vs : List V} (e : Ex B H) (h : IsAll K B ds vs) : Rep K B H (startR N ds) (L2.start N vs) B H := by
  have hl := h.length
  have key : ∀ (i : Nat) (s : Sl), (startR N ds)[i]? = some (some s) → ∃ d, s = .val d ∧ ds[i]? = some d := by
    intro i s hs
    unfold startR at hs
    by_cases hi : i < ds.length
    · rw [List.getElem?_append_left (by simpa using hi), List.getElem?_map, List.getElem?_eq_getElem hi] at hs
      have hs : some (Sl.val ds[i]) = some s := by injection hs
      injection hs with hs
      exact ⟨ds[i], hs.symm, List.getElem?_eq_getElem hi⟩
    · rw [List.getElem?_append_right (by simpa using hi), List.getElem?_replicate] at hs
      split at hs <;> cases hs
  refine ⟨e, Ex.refl H, Ex.refl B, fun _ _ => rfl, ?_, fun i s hs => ?_, fun i es hs => ?_, fun i j es fs v _ hs _ _ => ?_⟩
  · unfold L2.start startR
    simp [hl]
  · obtain ⟨d, rfl, hd⟩ := key i s hs
    obtain ⟨v, hv, hv2⟩ := h.get hd
    refine ⟨v, ?_, hv2⟩
    unfold L2.start
    have hi := (List.getElem?_eq_some_iff.mp hv).1
    rw [List.getElem?_append_left (by simpa using hi), List.getElem?_map, hv]
    rfl
  · obtain ⟨d, z, _⟩ := key i _ hs
    cases z
  · obtain ⟨d, z, _⟩ := key i _ hs
    cases z
section
variable {P : Program} {w : World} {K : PySem.W.Frag} {mg : Str → Option Value} {base : Heap} {x qual : Str} {params : Arguments} {body : List Stmt} {scope : Scope} {dvs : List V} {kws : List (Str × V)} {f : Addr} {fd : FuncData} {N ps : List Str} {k : Nat} {C : C'} {code : S'}
theorem sim_fn {E : XK} {ts : TS} {vs : List V} {H : Hp} {Q : VK} (hs : SimS K E ts code) (thm : ∀ ds k W, C ds k W → code (startR N ds) (fun _ => k (.val .non)) k W) (h : SpC K C vs H Q E) : ts { nx := fun _ H' => Q .non H', rt := Q } (L2.start N vs) H := by
  obtain ⟨B, ds, k, W, e, hv, hC, q, w'⟩ := h
  refine hs B H _ _ B H _ _ W _ (rep_start e hv) (thm ds k W hC) (fun ρ' σ' B' H' R' _ hk => ?_) (fun s v B' H' F hv hk => q s v B' H' F hv hk) fun x cls d H' hx eH hi => w' x cls d H' hx eH hi
  exact q (.val .non) .non B' H' R'.fin rfl hk
theorem okT (F : FunD K x qual params body scope dvs kws f fd) (S : FnScope N ps scope) (len : ∀ ds k W, C ds k W → ds.length = ps.length) (thm : ∀ ds k W, C ds k W → code (startR N ds) (fun _ => k (.val .non)) k W)
    (hb : ∀ (cdv : Value) (A : Around) (outer : List Env) (s : Shared) (H : Hp) (E : XK), Room k (A.deeper (PyProof.Rows.envOfC qual scope s.heap.objs.size f cdv)) → PSs' (cxOf (L2.CX P w) P w K mg base N qual scope f cdv A outer s H E) E body code) :
    FnOk P w K mg base (L2.CX P w) (k + 1) f fd ps (SpC K C) := by
  refine F.ok S (fun vs H Q E h => ?_) fun cdv A outer s H vs Q E hr h => ?_
  · obtain ⟨B, ds, k, W, e, hv, hC, q, w'⟩ := h
    rw [hv.length, len ds k W hC]
  · obtain ⟨ts, p1, s1⟩ := (hb cdv A outer s H E hr).ex
    exact ⟨ts, p1, sim_fn s1 thm h⟩
theorem calT {n : Nat} (F : FunD K x qual params body scope [] kws f fd) (gf : mg x = some (.ref f)) (hb : Binds K fd ps []) (h : FnOk P w K mg base (L2.CX P w) n f fd ps (SpC K C)) : Cal P w K mg base x n C := ⟨f, fd, ps, gf, F.kp, hb, h⟩
theorem Cal.imp {C2 : C'} {n : Nat} (F : Cal P w K mg base x n C) (h : ∀ ds k W, C2 ds k W → C ds k W) : Cal P w K mg base x n C2 := by
  obtain ⟨f, fd, ps, h1, h2, h3, h4⟩ := F.ex
  refine ⟨f, fd, ps, h1, h2, h3, h4.imp fun vs H Q E ⟨B, ds, k, W, a, b, c, d, e⟩ => ⟨B, ds, k, W, a, b, h _ _ _ c, d, e⟩⟩
end
end Ff

/-! The tree layer: ends, constants of the module. -/
namespace Ff
open PySem PySem.Spec L2
theorem cx_no {P : Program} {w : World} {H : Hp} {s : Shared} {e : Value} {s' : Shared} (z : L2.CX P w [] H s (fun _ _ _ => False) e s') : False := by
  obtain ⟨_, _, _, _, _, _, _, _, _, _, _, _, z⟩ := z
  exact z
theorem law_sp {K : PySem.W.Frag} {C : C'} {H : Hp} {a : Addr} {ns : List Int} (hS : SqL K H a (ns.map V.int)) (h : C [.scr ns] (fun s => s = .val (.bl true)) (fun _ => False)) : SpC K C [.ref a] H (fun v _ => v = .bl true) (fun _ _ _ => False) :=
  ⟨H, [.scr ns], _, _, Ex.refl H, ⟨.ref a, [], rfl, ⟨a, rfl, hS⟩, rfl⟩, h, fun s v B' H' _ hs e => by subst e; exact hs, fun _ _ _ _ z => z.elim⟩
/-- a constant of the module, as a tree -/
structure GConst (mg : Str → Option Value) (K : PySem.W.Frag) (x : Str) (d : T) : Prop where
  ex : ∃ (v : V) (u : Value), mg x = some u ∧ RelV v u ∧ ∀ B, Is K B d v
theorem pd_globC {X : Cx} {E : XK} {x : Str} {pos : Pos} {d : T} (g : GConst X.mg X.K x d) (hg : Gl X x := by rfl) (hd : (x == ("__debug__" : Str)) = false := by decide) : PE' X E (.Name x pos) (cstC d) := by
  obtain ⟨v, u, h1, h2, h3⟩ := g.ex
  exact pd_glob h1 h2 h3 hg hd
end Ff

/-! Sizes of ints; places; small facts for the conditions of the readings. -/
namespace Ff
open PySem PySem.Spec L2
def bits (i : Int) : Nat := Builtin.Int.intBits i
theorem bits_lt (i : Int) : i.natAbs < 2 ^ bits i := PyProof.Rows.natAbs_lt_pow_bits i
theorem bits_le {i : Int} {n : Nat} (h : i.natAbs < 2 ^ n) : bits i ≤ n := PyProof.Rows.intBits_le h
theorem pow_mono {m n : Nat} (h : m ≤ n) : (2 : Nat) ^ m ≤ 2 ^ n := Nat.pow_le_pow_right (by decide) h
theorem bits_mul (i j : Int) : bits (i * j) ≤ bits i + bits j := by
  refine bits_le ?_
  rw [Int.natAbs_mul, Nat.pow_add]
  exact Nat.mul_lt_mul'' (bits_lt i) (bits_lt j)
theorem bits_add (i j : Int) : bits (i + j) ≤ max (bits i) (bits j) + 1 := by
  refine bits_le ?_
  have h1 := bits_lt i
  have h2 := bits_lt j
  have h3 := pow_mono (Nat.le_max_left (bits i) (bits j))
  have h4 := pow_mono (Nat.le_max_right (bits i) (bits j))
  have h5 : (2 : Nat) ^ (max (bits i) (bits j) + 1) = 2 * 2 ^ max (bits i) (bits j) := by rw [Nat.pow_succ, Nat.mul_comm]
  have h6 := Int.natAbs_add_le i j
  omega
theorem bits_neg (i : Int) : bits (-i) = bits i := by
  apply Nat.le_antisymm
  · exact bits_le (by rw [Int.natAbs_neg]; exact bits_lt i)
  · refine bits_le ?_
    have h := bits_lt (-i)
    rwa [Int.natAbs_neg] at h
theorem bits_sub (i j : Int) : bits (i - j) ≤ max (bits i) (bits j) + 1 := by
  have h := bits_add i (-j)
  rw [bits_neg] at h
  rw [Int.sub_eq_add_neg]
  exact h
theorem bits_of_le {i j : Int} (h : i.natAbs ≤ j.natAbs) : bits i ≤ bits j := bits_le (Nat.lt_of_le_of_lt h (bits_lt j))
theorem bits_mod (i : Int) {m : Int} (h : 0 < m) : bits (i % m) ≤ bits m := by
  refine bits_of_le ?_
  have h1 := Int.emod_nonneg i (show m ≠ 0 by omega)
  have h2 := Int.emod_lt_of_pos i h
  omega
theorem bits_div (i : Int) {m : Int} (h : 0 < m) : bits (i / m) ≤ bits i + 1 := by
  refine bits_le ?_
  have h1 := bits_lt i
  have h2 : (2 : Nat) ^ (bits i + 1) = 2 * 2 ^ bits i := by rw [Nat.pow_succ, Nat.mul_comm]
  have h3 : (i / m).natAbs ≤ i.natAbs := by
    by_cases hi : 0 ≤ i
    · have a := Int.ediv_nonneg hi (Int.le_of_lt h)
      have b := Int.ediv_le_self m hi
      omega
    · have a : i ≤ i / m := by
        have := Int.le_ediv_of_mul_le (a := i) (b := i) h (by
          have : i * m ≤ i * 1 := Int.mul_le_mul_of_nonpos_left (by omega) (by omega)
          omega)
        exact this
      have b : i / m < 0 := Int.ediv_neg_of_neg_of_pos (by omega) h
      omega
  omega
/-- |i| up to a literal -/
theorem bits_abs {i : Int} (j : Nat) (h : i.natAbs ≤ j) : bits i ≤ bits j := bits_of_le (by simpa using h)
theorem mulx {i j : Int} {m n : Nat} (h1 : bits i ≤ m) (h2 : bits j ≤ n) (h : m + n ≤ 134217728) : CMulX i j := by
  unfold CMulX
  unfold bits at h1 h2
  omega
theorem shlx {i : Int} {j : Int} {m : Nat} (h1 : bits i ≤ m) (h0 : 0 ≤ j) (h : (m : Int) + j ≤ 134217728) : CShl i j := by
  unfold CShl
  unfold bits at h1
  have e : (2 : Int) ^ 27 = 134217728 := by decide
  rw [e]
  omega
theorem log2_bits (i : Int) : i.natAbs.log2 ≤ bits i := by
  unfold bits Builtin.Int.intBits
  split
  · rename_i h
    have : i = 0 := by simpa using h
    subst this
    decide
  · omega
theorem cdivw {i j : Int} (h : 0 < j) (hb : bits j < 9000) : CDivW i j := ⟨h, Nat.lt_of_le_of_lt (log2_bits j) hb⟩
theorem cdivz {i j : Int} (h : j ≠ 0) (hb : bits j < 9000) : CDivZ i j := ⟨h, Nat.lt_of_le_of_lt (log2_bits j) hb⟩
theorem cdivp {i j : Int} (h : 0 < j) (hb : bits i ≤ bits j + 4000) : CDivP i j := divp_ok h hb
theorem atI_nn {α : Type} {xs : List α} {i : Int} (d : α) (h0 : 0 ≤ i) (h1 : i < xs.length) : atI xs i = some (xs.getD i.toNat d) := by
  unfold atI ixN
  rw [if_pos h0, if_pos h1]
  show xs[i.toNat]? = _
  have hl : i.toNat < xs.length := by omega
  rw [List.getElem?_eq_getElem hl, List.getD_eq_getElem?_getD, List.getElem?_eq_getElem hl]
  rfl
theorem getD_map {α β : Type} (f : α → β) (xs : List α) (n : Nat) (d : α) : (xs.map f).getD n (f d) = f (xs.getD n d) := by
  rw [List.getD_eq_getElem?_getD, List.getD_eq_getElem?_getD, List.getElem?_map]
  cases xs[n]? <;> rfl
theorem atD_ints {ns : List Int} {i : Int} (d : Int) (h0 : 0 ≤ i) (h1 : i < ns.length) : atD (.tup (ns.map T.int)) i = some (.int (ns.getD i.toNat d)) := by
  show atI (ns.map T.int) i = _
  rw [atI_nn (T.int d) h0 (by rw [List.length_map]; exact h1), getD_map]
theorem getD_mem {α : Type} {xs : List α} {n : Nat} (d : α) (h : n < xs.length) : xs.getD n d ∈ xs := by
  rw [List.getD_eq_getElem?_getD, List.getElem?_eq_getElem h]
  exact List.getElem_mem h
theorem atI_0 {α : Type} (a : α) (l : List α) : atI (a :: l) 0 = some a := by
  rw [atI_nn a (Int.le_refl _) (by simp only [List.length_cons]; omega)]; rfl
theorem atI_1 {α : Type} (a b : α) (l : List α) : atI (a :: b :: l) 1 = some b := by
  rw [atI_nn a (by decide) (by simp only [List.length_cons]; omega)]; rfl
theorem atI_2 {α : Type} (a b c : α) (l : List α) : atI (a :: b :: c :: l) 2 = some c := by
  rw [atI_nn a (by decide) (by simp only [List.length_cons]; omega)]; rfl
theorem atT0 (a : T) (l : List T) : atD (.tup (a :: l)) 0 = some a := atI_0 a l
theorem atT1 (a b : T) (l : List T) : atD (.tup (a :: b :: l)) 1 = some b := atI_1 a b l
theorem atT2 (a b c : T) (l : List T) : atD (.tup (a :: b :: c :: l)) 2 = some c := atI_2 a b c l
theorem atL0 (a : T) (l : List T) : atD (.lst (a :: l)) 0 = some a := atI_0 a l
theorem atL1 (a b : T) (l : List T) : atD (.lst (a :: b :: l)) 1 = some b := atI_1 a b l
theorem atL2 (a b c : T) (l : List T) : atD (.lst (a :: b :: c :: l)) 2 = some c := atI_2 a b c l
end Ff

/-! One step of the readings each: the simp rules (written by mkfs.py). -/
namespace Ff
open PySem PySem.Spec L2
def frz1 (ρ : Rho) (i : Nat) (o : Option (Option Sl)) (N : Rho → Prop) : Prop := match o with
  | some (some (.own ds)) => N (ρ.set i (some (.val (.lst ds))))
  | _ => N ρ
theorem e_f_val {d : T} : (Sl.f (.val d)) = (.val d) := rfl
theorem e_f_own {d : List T} : (Sl.f (.own d)) = (.val (.lst d)) := rfl
theorem e_f_bor {d : List T} : (Sl.f (.bor d)) = (.bor d) := rfl
theorem e_t_val {d : T} : (Sl.t (.val d)) = (d) := rfl
theorem e_t_own {d : List T} : (Sl.t (.own d)) = (.lst d) := rfl
theorem e_t_bor {d : List T} : (Sl.t (.bor d)) = (.lst d) := rfl
theorem e_varC0 {ρ : Rho} {k : Sl → Prop} {W : Xc → Prop} {d : T} : (varC 0 (some (.val d) :: ρ) k W) = (k (.val d)) := rfl
theorem e_varC0o {ρ : Rho} {k : Sl → Prop} {W : Xc → Prop} {d : List T} : (varC 0 (some (.own d) :: ρ) k W) = (k (.bor d)) := rfl
theorem e_varCs {ρ : Rho} {k : Sl → Prop} {W : Xc → Prop} {i : Nat} {x : Option Sl} : (varC (i + 1) (x :: ρ) k W) = (varC i ρ k W) := rfl
theorem e_cstC {ρ : Rho} {k : Sl → Prop} {W : Xc → Prop} {d : T} : (cstC d ρ k W) = (k (.val d)) := rfl
theorem e_binC {ρ : Rho} {k : Sl → Prop} {W : Xc → Prop} {f : Sl → Sl → (Sl → Prop) → Prop} {a b : E'} : (binC f a b ρ k W) = (a ρ (fun x => b ρ (fun y => f x.f y.f k) W) W) := rfl
theorem e_unC {ρ : Rho} {k : Sl → Prop} {W : Xc → Prop} {f : Sl → (Sl → Prop) → Prop} {a : E'} : (unC f a ρ k W) = (a ρ (fun x => f x.f k) W) := rfl
theorem e_nilA {ρ : Rho} {k : List Sl → Prop} {W : Xc → Prop} : (nilA ρ k W) = (k []) := rfl
theorem e_consA {ρ : Rho} {k : List Sl → Prop} {W : Xc → Prop} {a : E'} {r : A'} : (consA a r ρ k W) = (a ρ (fun x => r ρ (fun xs => k (x.f :: xs)) W) W) := rfl
theorem e_tupC {ρ : Rho} {k : Sl → Prop} {W : Xc → Prop} {a : A'} : (tupC a ρ k W) = (a ρ (fun ss => noBor ss = true ∧ ss.length ≤ 1000 ∧ k (.val (.tup (ss.map Sl.t)))) W) := rfl
theorem e_lstC {ρ : Rho} {k : Sl → Prop} {W : Xc → Prop} {a : A'} : (lstC a ρ k W) = (a ρ (fun ss => noBor ss = true ∧ ss.length ≤ 1000 ∧ k (.own (ss.map Sl.t))) W) := rfl
theorem e_callC {ρ : Rho} {k : Sl → Prop} {W : Xc → Prop} {C : C'} {a : A'} : (callC C a ρ k W) = (a ρ (fun ss => callF C ss k fun _ => False) W) := rfl
theorem e_callX {ρ : Rho} {k : Sl → Prop} {W : Xc → Prop} {C : C'} {a : A'} : (callX C a ρ k W) = (a ρ (fun ss => callF C ss k W) W) := rfl
theorem e_callF {C : C'} {ss : List Sl} {k : Sl → Prop} {W : Xc → Prop} (h : noBor ss = true) : (callF C ss k W) = (C (ss.map Sl.t) k W) := if_pos h
theorem e_dflA {ρ : Rho} {k : List Sl → Prop} {W : Xc → Prop} {ds : List T} {a : A'} : (dflA ds a ρ k W) = (a ρ (fun ss => k (ss ++ ds.map Sl.val)) W) := rfl
theorem e_blC {ρ : Rho} {k : Sl → Prop} {W : Xc → Prop} {f : List Sl → (Sl → Prop) → Prop} {a : A'} : (blC f a ρ k W) = (a ρ (fun ss => f ss k) W) := rfl
theorem e_truC {ρ : Rho} {k : Bool → Prop} {W : Xc → Prop} {a : E'} : (truC a ρ k W) = (a ρ (fun x => truF x.f k) W) := rfl
theorem e_tstC {ρ : Rho} {k : Bool → Prop} {W : Xc → Prop} {a : E'} : (tstC a ρ k W) = (a ρ (fun x => blF x.f k) W) := rfl
theorem e_truB {k : Bool → Prop} {b : Bool} : (truF (.val (.bl b)) k) = (k b) := rfl
theorem e_truN {k : Bool → Prop} : (truF (.val .non) k) = (k false) := rfl
theorem e_truI {k : Bool → Prop} {i : Int} : (truF (.val (.int i)) k) = (k (i != 0)) := rfl
theorem e_truL {k : Bool → Prop} {xs : List T} : (truF (.val (.lst xs)) k) = (k (!xs.isEmpty)) := rfl
theorem e_truT {k : Bool → Prop} {xs : List T} : (truF (.val (.tup xs)) k) = (k (!xs.isEmpty)) := rfl
theorem e_truO {k : Bool → Prop} {xs : List T} : (truF (.bor xs) k) = (k (!xs.isEmpty)) := rfl
theorem e_blF {k : Bool → Prop} {b : Bool} : (blF (.val (.bl b)) k) = (k b) := rfl
theorem e_andC {ρ : Rho} {k : Bool → Prop} {W : Xc → Prop} {a b : B'} : (andC a b ρ k W) = (a ρ (fun c => if c = true then b ρ k W else k false) W) := rfl
theorem e_orC {ρ : Rho} {k : Bool → Prop} {W : Xc → Prop} {a b : B'} : (orC a b ρ k W) = (a ρ (fun c => if c = true then k true else b ρ k W) W) := rfl
theorem e_notC {ρ : Rho} {k : Bool → Prop} {W : Xc → Prop} {a : B'} : (notC a ρ k W) = (a ρ (fun c => k (!c)) W) := rfl
theorem e_andV {ρ : Rho} {k : Sl → Prop} {W : Xc → Prop} {a b : E'} : (andV a b ρ k W) = (a ρ (fun x => blF x.f fun c => if c = true then b ρ k W else k (.val (.bl false))) W) := rfl
theorem e_orV {ρ : Rho} {k : Sl → Prop} {W : Xc → Prop} {a b : E'} : (orV a b ρ k W) = (a ρ (fun x => blF x.f fun c => if c = true then k (.val (.bl true)) else b ρ k W) W) := rfl
theorem e_notV {ρ : Rho} {k : Sl → Prop} {W : Xc → Prop} {a : E'} : (notV a ρ k W) = (a ρ (fun x => blF x.f fun c => k (.val (.bl (!c)))) W) := rfl
theorem e_iteC {ρ : Rho} {k : Sl → Prop} {W : Xc → Prop} {c : B'} {a b : E'} : (iteC c a b ρ k W) = (c ρ (fun d => if d = true then a ρ k W else b ρ k W) W) := rfl
theorem e_chnC {ρ : Rho} {k : Sl → Prop} {W : Xc → Prop} {f g : Sl → Sl → (Sl → Prop) → Prop} {a b c : E'} : (chnC f g a b c ρ k W) = (a ρ (fun x => b ρ (fun y => f x.f y.f fun z => blF z.f fun d => if d = true then c ρ (fun u => g y.f u.f k) W else k (.val (.bl false))) W) W) := rfl
theorem e_subF {k : Sl → Prop} {i j : Int} : (subF (.val (.int i)) (.val (.int j)) k) = (k (.val (.int (i - j)))) := rfl
theorem e_mulF {k : Sl → Prop} {i j : Int} : (mulF (.val (.int i)) (.val (.int j)) k) = (CMulX i j ∧ k (.val (.int (i * j)))) := rfl
theorem e_fdvF {k : Sl → Prop} {i j : Int} : (fdvF (.val (.int i)) (.val (.int j)) k) = (CDivW i j ∧ k (.val (.int (i / j)))) := rfl
theorem e_modF {k : Sl → Prop} {i j : Int} : (modF (.val (.int i)) (.val (.int j)) k) = (0 < j ∧ k (.val (.int (i % j)))) := rfl
theorem e_fdvZF {k : Sl → Prop} {i j : Int} : (fdvZF (.val (.int i)) (.val (.int j)) k) = (CDivZ i j ∧ k (.val (.int (i.fdiv j)))) := rfl
theorem e_modZF {k : Sl → Prop} {i j : Int} : (modZF (.val (.int i)) (.val (.int j)) k) = (j ≠ 0 ∧ k (.val (.int (i.fmod j)))) := rfl
theorem e_powF {k : Sl → Prop} {i j : Int} : (powF (.val (.int i)) (.val (.int j)) k) = (CPow i j ∧ k (.val (.int (i ^ j.toNat)))) := rfl
theorem e_shlF {k : Sl → Prop} {i j : Int} : (shlF (.val (.int i)) (.val (.int j)) k) = (CShl i j ∧ k (.val (.int (i * 2 ^ j.toNat)))) := rfl
theorem e_shrF {k : Sl → Prop} {i j : Int} : (shrF (.val (.int i)) (.val (.int j)) k) = (0 ≤ j ∧ k (.val (.int (i / 2 ^ j.toNat)))) := rfl
theorem e_andF {k : Sl → Prop} {i j : Int} : (andF (.val (.int i)) (.val (.int j)) k) = (k (.val (.int (Builtin.bitAnd i j)))) := rfl
theorem e_orF {k : Sl → Prop} {i j : Int} : (orF (.val (.int i)) (.val (.int j)) k) = (k (.val (.int (Builtin.bitOr i j)))) := rfl
theorem e_xorF {k : Sl → Prop} {i j : Int} : (xorF (.val (.int i)) (.val (.int j)) k) = (k (.val (.int (Builtin.bitXor i j)))) := rfl
theorem e_ltF {k : Sl → Prop} {i j : Int} : (ltF (.val (.int i)) (.val (.int j)) k) = (k (.val (.bl (decide (i < j))))) := rfl
theorem e_leF {k : Sl → Prop} {i j : Int} : (leF (.val (.int i)) (.val (.int j)) k) = (k (.val (.bl (decide (i ≤ j))))) := rfl
theorem e_gtF {k : Sl → Prop} {i j : Int} : (gtF (.val (.int i)) (.val (.int j)) k) = (k (.val (.bl (decide (j < i))))) := rfl
theorem e_geF {k : Sl → Prop} {i j : Int} : (geF (.val (.int i)) (.val (.int j)) k) = (k (.val (.bl (decide (j ≤ i))))) := rfl
theorem e_addF {k : Sl → Prop} {i j : Int} : (addF (.val (.int i)) (.val (.int j)) k) = (k (.val (.int (i + j)))) := rfl
theorem e_eqF {k : Sl → Prop} {i j : Int} : (eqF (.val (.int i)) (.val (.int j)) k) = (k (.val (.bl (decide (i = j))))) := rfl
theorem e_neF {k : Sl → Prop} {i j : Int} : (neF (.val (.int i)) (.val (.int j)) k) = (k (.val (.bl (!decide (i = j))))) := rfl
theorem e_negF {k : Sl → Prop} {i : Int} : (negF (.val (.int i)) k) = (k (.val (.int (-i)))) := rfl
theorem e_addFs {k : Sl → Prop} {a b : Str} : (addF (.val (.str a)) (.val (.str b)) k) = (a.length + b.length ≤ 16000000 ∧ k (.val (.str (a ++ b)))) := rfl
theorem e_eqFs {k : Sl → Prop} {a b : Str} : (eqF (.val (.str a)) (.val (.str b)) k) = (k (.val (.bl (decide (a = b))))) := rfl
theorem e_neFs {k : Sl → Prop} {a b : Str} : (neF (.val (.str a)) (.val (.str b)) k) = (k (.val (.bl (!decide (a = b))))) := rfl
theorem e_addFll {k : Sl → Prop} {a b : List T} : (addF (.val (.lst a)) (.val (.lst b)) k) = (a.length + b.length ≤ 16000000 ∧ k (.own (a ++ b))) := by show (∃ ds es, lstOf _ = some ds ∧ lstOf _ = some es ∧ _) = _; simp [lstOf]
theorem e_addFlb {k : Sl → Prop} {a b : List T} : (addF (.val (.lst a)) (.bor b) k) = (a.length + b.length ≤ 16000000 ∧ k (.own (a ++ b))) := by show (∃ ds es, lstOf _ = some ds ∧ lstOf _ = some es ∧ _) = _; simp [lstOf]
theorem e_addFbl {k : Sl → Prop} {a b : List T} : (addF (.bor a) (.val (.lst b)) k) = (a.length + b.length ≤ 16000000 ∧ k (.own (a ++ b))) := by show (∃ ds es, lstOf _ = some ds ∧ lstOf _ = some es ∧ _) = _; simp [lstOf]
theorem e_addFbb {k : Sl → Prop} {a b : List T} : (addF (.bor a) (.bor b) k) = (a.length + b.length ≤ 16000000 ∧ k (.own (a ++ b))) := by show (∃ ds es, lstOf _ = some ds ∧ lstOf _ = some es ∧ _) = _; simp [lstOf]
theorem e_eqFll {k : Sl → Prop} {a b : List T} : (eqF (.val (.lst a)) (.val (.lst b)) k) = (SeqAt.shaped (toD (.lst a)) = true ∧ SeqAt.shaped (toD (.lst b)) = true ∧ k (.val (.bl (PyData.eqv (toD (.lst a)) (toD (.lst b)))))) := rfl
theorem e_neFll {k : Sl → Prop} {a b : List T} : (neF (.val (.lst a)) (.val (.lst b)) k) = (SeqAt.shaped (toD (.lst a)) = true ∧ SeqAt.shaped (toD (.lst b)) = true ∧ k (.val (.bl (!PyData.eqv (toD (.lst a)) (toD (.lst b)))))) := rfl
theorem e_eqFtt {k : Sl → Prop} {a b : List T} : (eqF (.val (.tup a)) (.val (.tup b)) k) = (SeqAt.shaped (toD (.tup a)) = true ∧ SeqAt.shaped (toD (.tup b)) = true ∧ k (.val (.bl (PyData.eqv (toD (.tup a)) (toD (.tup b)))))) := rfl
theorem e_neFtt {k : Sl → Prop} {a b : List T} : (neF (.val (.tup a)) (.val (.tup b)) k) = (SeqAt.shaped (toD (.tup a)) = true ∧ SeqAt.shaped (toD (.tup b)) = true ∧ k (.val (.bl (!PyData.eqv (toD (.tup a)) (toD (.tup b)))))) := rfl
theorem e_eqFlb {k : Sl → Prop} {a b : List T} : (eqF (.val (.lst a)) (.bor b) k) = (SeqAt.shaped (toD (.lst a)) = true ∧ SeqAt.shaped (toD (.lst b)) = true ∧ k (.val (.bl (PyData.eqv (toD (.lst a)) (toD (.lst b)))))) := rfl
theorem e_neFlb {k : Sl → Prop} {a b : List T} : (neF (.val (.lst a)) (.bor b) k) = (SeqAt.shaped (toD (.lst a)) = true ∧ SeqAt.shaped (toD (.lst b)) = true ∧ k (.val (.bl (!PyData.eqv (toD (.lst a)) (toD (.lst b)))))) := rfl
theorem e_eqFbl {k : Sl → Prop} {a b : List T} : (eqF (.bor a) (.val (.lst b)) k) = (SeqAt.shaped (toD (.lst a)) = true ∧ SeqAt.shaped (toD (.lst b)) = true ∧ k (.val (.bl (PyData.eqv (toD (.lst a)) (toD (.lst b)))))) := rfl
theorem e_neFbl {k : Sl → Prop} {a b : List T} : (neF (.bor a) (.val (.lst b)) k) = (SeqAt.shaped (toD (.lst a)) = true ∧ SeqAt.shaped (toD (.lst b)) = true ∧ k (.val (.bl (!PyData.eqv (toD (.lst a)) (toD (.lst b)))))) := rfl
theorem e_eqFbb {k : Sl → Prop} {a b : List T} : (eqF (.bor a) (.bor b) k) = (SeqAt.shaped (toD (.lst a)) = true ∧ SeqAt.shaped (toD (.lst b)) = true ∧ k (.val (.bl (PyData.eqv (toD (.lst a)) (toD (.lst b)))))) := rfl
theorem e_neFbb {k : Sl → Prop} {a b : List T} : (neF (.bor a) (.bor b) k) = (SeqAt.shaped (toD (.lst a)) = true ∧ SeqAt.shaped (toD (.lst b)) = true ∧ k (.val (.bl (!PyData.eqv (toD (.lst a)) (toD (.lst b)))))) := rfl
theorem e_isF {k : Sl → Prop} {x : Sl} : (isF x (.val .non) k) = (notExt x ∧ k (.val (.bl (isNn x)))) := by cases x with | val d => cases d <;> rfl | _ => rfl
theorem e_isnF {k : Sl → Prop} {x : Sl} : (isnF x (.val .non) k) = (notExt x ∧ k (.val (.bl (!(isNn x))))) := by cases x with | val d => cases d <;> rfl | _ => rfl
theorem e_isFb {k : Sl → Prop} {a b : Bool} : (isF (.val (.bl a)) (.val (.bl b)) k) = (k (.val (.bl (decide (a = b))))) := rfl
theorem e_isnFb {k : Sl → Prop} {a b : Bool} : (isnF (.val (.bl a)) (.val (.bl b)) k) = (k (.val (.bl (!decide (a = b))))) := rfl
theorem e_nx_non  : (notExt (.val .non)) = (True) := rfl
theorem e_nn_non  : (isNn (.val .non)) = (true) := rfl
theorem e_tag_non  : (tag .non) = (some (none)) := rfl
theorem e_nx_bl {b : Bool} : (notExt (.val (.bl b))) = (True) := rfl
theorem e_nn_bl {b : Bool} : (isNn (.val (.bl b))) = (false) := rfl
theorem e_tag_bl {b : Bool} : (tag (.bl b)) = (some (some .bool)) := rfl
theorem e_nx_int {b : Int} : (notExt (.val (.int b))) = (True) := rfl
theorem e_nn_int {b : Int} : (isNn (.val (.int b))) = (false) := rfl
theorem e_tag_int {b : Int} : (tag (.int b)) = (some (some .int)) := rfl
theorem e_nx_str {b : Str} : (notExt (.val (.str b))) = (True) := rfl
theorem e_nn_str {b : Str} : (isNn (.val (.str b))) = (false) := rfl
theorem e_tag_str {b : Str} : (tag (.str b)) = (some (some .str)) := rfl
theorem e_nx_lst {b : List T} : (notExt (.val (.lst b))) = (True) := rfl
theorem e_nn_lst {b : List T} : (isNn (.val (.lst b))) = (false) := rfl
theorem e_tag_lst {b : List T} : (tag (.lst b)) = (some (some .list)) := rfl
theorem e_nx_tup {b : List T} : (notExt (.val (.tup b))) = (True) := rfl
theorem e_nn_tup {b : List T} : (isNn (.val (.tup b))) = (false) := rfl
theorem e_tag_tup {b : List T} : (tag (.tup b)) = (some (some .tuple)) := rfl
theorem e_nx_ins {c : Nat} {b : List T} : (notExt (.val (.ins c b))) = (True) := rfl
theorem e_nn_ins {c : Nat} {b : List T} : (isNn (.val (.ins c b))) = (false) := rfl
theorem e_ixF {k : Sl → Prop} {x : Sl} {i : Int} : (ixF x (.val (.int i)) k) = (∃ d, atD x.t i = some d ∧ k (.val d)) := by cases x with | val d => cases d <;> rfl | _ => rfl
theorem e_sl1 {k : Sl → Prop} {x : Sl} : (sl1 [x] k) = (k x) := rfl
theorem e_sl2 {k : Sl → Sl → Prop} {x y : Sl} : (sl2 [x, y] k) = (k x y) := rfl
theorem e_lenF {k : Sl → Prop} {x : Sl} : (lenF [x] k) = (∃ n, lenT x.t = some n ∧ k (.val (.int n))) := rfl
theorem e_lenTl {ds : List T} : (lenT (.lst ds)) = (some ds.length) := rfl
theorem e_lenTt {ds : List T} : (lenT (.tup ds)) = (some ds.length) := rfl
theorem e_lenTs {ns : List Int} : (lenT (.scr ns)) = (some ns.length) := rfl
theorem abs_nat (a : Int) : (if a < 0 then -a else a) = (a.natAbs : Int) := by split <;> omega
theorem min_if (i j : Int) : (if j < i then j else i) = min i j := by split <;> omega
theorem e_absF {k : Sl → Prop} {i : Int} : (absF [.val (.int i)] k) = (k (.val (.int (i.natAbs : Int)))) := by rw [← abs_nat]; rfl
theorem e_minF {k : Sl → Prop} {i j : Int} : (minF [.val (.int i), .val (.int j)] k) = (k (.val (.int (min i j)))) := by rw [← min_if]; rfl
theorem e_dvmF {k : Sl → Prop} {i j : Int} : (dvmF [.val (.int i), .val (.int j)] k) = (CDivP i j ∧ k (.val (.tup [.int (i / j), .int (i % j)]))) := rfl
theorem e_strIF {k : Sl → Prop} {i : Int} : (strIF [.val (.int i)] k) = (i.natAbs.log2 < 1920 ∧ k (.val (.str (toString i)))) := rfl
theorem e_lstFt {k : Sl → Prop} {a : List T} : (lstF [.val (.tup a)] k) = (k (.own a)) := by show (∃ ds, some a = some ds ∧ _) = _; simp
theorem e_lstFl {k : Sl → Prop} {a : List T} : (lstF [.val (.lst a)] k) = (k (.own a)) := by show (∃ ds, some a = some ds ∧ _) = _; simp
theorem e_lstFb {k : Sl → Prop} {a : List T} : (lstF [.bor a] k) = (k (.own a)) := by show (∃ ds, some a = some ds ∧ _) = _; simp
theorem e_isiC {ρ : Rho} {k : Sl → Prop} {W : Xc → Prop} {b : Ty} {a : E'} : (isiC b a ρ k W) = (a ρ (fun x => isiF b x.f k) W) := rfl
theorem e_isiF {k : Sl → Prop} {b : Ty} {x : Sl} : (isiF b x k) = (∃ t, tag x.t = some t ∧ k (.val (.bl (isTy t b)))) := rfl
theorem e_seqC {ρ : Rho} {N : Rho → Prop} {R : Sl → Prop} {W : Xc → Prop} {a b : S'} : (seqC a b ρ N R W) = (a ρ (fun ρ' => b ρ' N R W) R W) := rfl
theorem e_nextC {ρ : Rho} {N : Rho → Prop} {R : Sl → Prop} {W : Xc → Prop} : (nextC ρ N R W) = (N ρ) := rfl
theorem e_neverC {ρ : Rho} {N : Rho → Prop} {R : Sl → Prop} {W : Xc → Prop} : (neverC ρ N R W) = (False) := rfl
theorem e_asgFv {d : T} {k : Sl → Prop} : (asgF (.val d) k) = (k (.val d)) := rfl
theorem e_asgFo {d : List T} {k : Sl → Prop} : (asgF (.own d) k) = (k (.own d)) := rfl
theorem e_asgC {ρ : Rho} {N : Rho → Prop} {R : Sl → Prop} {W : Xc → Prop} {i : Nat} {e : E'} : (asgC i e ρ N R W) = (e ρ (fun s => asgF s fun s' => N (ρ.set i (some s'))) W) := rfl
theorem e_asgV {ρ : Rho} {N : Rho → Prop} {R : Sl → Prop} {W : Xc → Prop} {i : Nat} {e : E'} : (asgV i e ρ N R W) = (e ρ (fun s => asgF s.f fun s' => N (ρ.set i (some s'))) W) := rfl
theorem e_retC {ρ : Rho} {N : Rho → Prop} {R : Sl → Prop} {W : Xc → Prop} {e : E'} : (retC e ρ N R W) = (e ρ (fun s => asgF s R) W) := rfl
theorem e_retO0 {ρ : Rho} {N : Rho → Prop} {R : Sl → Prop} {W : Xc → Prop} {s : Sl} : (retO 0 (some s :: ρ) N R W) = (R s) := rfl
theorem e_retOs {ρ : Rho} {N : Rho → Prop} {R : Sl → Prop} {W : Xc → Prop} {i : Nat} {x : Option Sl} : (retO (i + 1) (x :: ρ) N R W) = (retO i ρ N R W) := rfl
theorem e_retN {ρ : Rho} {N : Rho → Prop} {R : Sl → Prop} {W : Xc → Prop} : (retN ρ N R W) = (R (.val .non)) := rfl
theorem e_dropC {ρ : Rho} {N : Rho → Prop} {R : Sl → Prop} {W : Xc → Prop} {e : E'} : (dropC e ρ N R W) = (e ρ (fun _ => N ρ) W) := rfl
theorem e_ifC {ρ : Rho} {N : Rho → Prop} {R : Sl → Prop} {W : Xc → Prop} {c : B'} {t u : S'} : (ifC c t u ρ N R W) = (c ρ (fun b => if b = true then t ρ N R W else u ρ N R W) W) := rfl
theorem e_frzC {ρ : Rho} {N : Rho → Prop} {R : Sl → Prop} {W : Xc → Prop} {i : Nat} : (frzC i ρ N R W) = (frz1 ρ i ρ[i]? N) := rfl
theorem e_frz1o {ρ : Rho} {i : Nat} {N : Rho → Prop} {ds : List T} : (frz1 ρ i (some (some (.own ds))) N) = (N (ρ.set i (some (.val (.lst ds))))) := rfl
theorem e_frz1v {ρ : Rho} {i : Nat} {N : Rho → Prop} {ds : T} : (frz1 ρ i (some (some (.val ds))) N) = (N ρ) := rfl
theorem e_frz1n {ρ : Rho} {i : Nat} {N : Rho → Prop} : (frz1 ρ i (some none) N) = (N ρ) := rfl
theorem e_parC {ρ : Rho} {N : Rho → Prop} {R : Sl → Prop} {W : Xc → Prop} {i j : Nat} {a : A'} : (parC i j a ρ N R W) = (a ρ (fun ss => pairF ss fun d e => N ((ρ.set i (some (.val d))).set j (some (.val e)))) W) := rfl
theorem e_pairF {d e : T} {k : T → T → Prop} : (pairF [.val d, .val e] k) = (k d e) := rfl
theorem e_oneF {d : T} {k : T → Prop} : (oneF [.val d] k) = (k d) := rfl
theorem e_intF {i : Int} {k : Int → Prop} : (intF (.int i) k) = (k i) := rfl
theorem e_upC {ρ : Rho} {N : Rho → Prop} {R : Sl → Prop} {W : Xc → Prop} {is : List Nat} {e : E'} : (upC is e ρ N R W) = (e ρ (fun s => upF is ρ s.f N) W) := rfl
theorem e_upF {is : List Nat} {ρ : Rho} {N : Rho → Prop} {ds : List T} : (upF is ρ (.val (.tup ds)) N) = ((ds.length = is.length ∧ N ((is.zip ds).foldl (fun r p => r.set p.1 (some (.val p.2))) ρ))) := rfl
theorem e_sqFl {ds : List T} {k : List T → Prop} : (sqF (.val (.lst ds)) k) = (k ds) := rfl
theorem e_sqFt {ds : List T} {k : List T → Prop} : (sqF (.val (.tup ds)) k) = (k ds) := rfl
theorem e_valF {d : T} {k : T → Prop} : (valF (.val d) k) = (k d) := rfl
theorem e_ownF0 {ρ : Rho} {ds : List T} {k : List T → Prop} : (ownF (some (.own ds) :: ρ) 0 k) = (k ds) := rfl
theorem e_ownFs {ρ : Rho} {i : Nat} {x : Option Sl} {k : List T → Prop} : (ownF (x :: ρ) (i + 1) k) = (ownF ρ i k) := rfl
theorem e_appC {ρ : Rho} {N : Rho → Prop} {R : Sl → Prop} {W : Xc → Prop} {i : Nat} {e : E'} : (appC i e ρ N R W) = (((∃ ds, ρ[i]? = some (some (.own ds))) ∧ e ρ (fun s => appF i ρ N s.f) W)) := rfl
theorem e_appF {i : Nat} {ρ : Rho} {N : Rho → Prop} {d : T} : (appF i ρ N (.val d)) = (ownF ρ i fun ds => ds.length < 16000000 ∧ N (ρ.set i (some (.own (ds ++ [d]))))) := rfl
theorem e_gN {j : Nat} {d : T} {ρ : Rho} {N : Rho → Prop} : (gN j d ρ N) = (N (ρ.set j (some (.val d)))) := rfl
theorem e_gTs {is : List Nat} {d : T} {ρ : Rho} {N : Rho → Prop} : (gTs is d ρ N) = (upF is ρ (.val d) N) := rfl
/-- loops, by an invariant -/
theorem r_forR {j : Nat} {b : S'} {ρ : Rho} {N : Rho → Prop} {R : Sl → Prop} {W : Xc → Prop} {a : A'} {m : Int} (I : Nat → Rho → Prop) (ha : ∀ k : List Sl → Prop, k [.val (.int m)] → a ρ k W) (h0 : -(2 ^ 62) ≤ m ∧ m < 2 ^ 62) (hI : I 0 ρ) (hs : ∀ (i : Nat) ρ', i < m.toNat → I i ρ' → b (ρ'.set j (some (.val (.int i)))) (I (i + 1)) R W) (hN : ∀ ρ', I m.toNat ρ' → N ρ') : forR j a b ρ N R W :=
  ha _ ⟨h0.2, h0.1, I, hI, hs, hN⟩
theorem r_forR2 {j : Nat} {b : S'} {ρ : Rho} {N : Rho → Prop} {R : Sl → Prop} {W : Xc → Prop} {a : A'} {lo m : Int} (I : Nat → Rho → Prop) (ha : ∀ k : List Sl → Prop, k [.val (.int lo), .val (.int m)] → a ρ k W) (h0 : -(2 ^ 62) ≤ lo ∧ lo < 2 ^ 62 ∧ -(2 ^ 62) ≤ m ∧ m < 2 ^ 62) (hI : I 0 ρ) (hs : ∀ (i : Nat) ρ', i < (m - lo).toNat → I i ρ' → b (ρ'.set j (some (.val (.int (lo + i))))) (I (i + 1)) R W) (hN : ∀ ρ', I (m - lo).toNat ρ' → N ρ') : forR2 j a b ρ N R W :=
  ha _ ⟨h0, I, hI, hs, hN⟩
theorem r_while {c : B'} {b : S'} {ρ : Rho} {N : Rho → Prop} {R : Sl → Prop} {W : Xc → Prop} (I : Nat → Rho → Prop) (hI : ∃ m, I m ρ) (hs : ∀ m ρ', I m ρ' → c ρ' (fun d => if d = true then b ρ' (fun ρ2 => ∃ m', m' < m ∧ I m' ρ2) R W else N ρ') W) : whileC c b ρ N R W := ⟨I, hI, hs⟩
theorem r_for {it : E'} {g : G'} {b : S'} {ρ : Rho} {N : Rho → Prop} {R : Sl → Prop} {W : Xc → Prop} {ds : List T} (I : Nat → Rho → Prop) (ha : ∀ k : Sl → Prop, k (.val (.lst ds)) → it ρ k W) (hI : I 0 ρ) (hs : ∀ (i : Nat) d ρ', ds[i]? = some d → I i ρ' → g d ρ' (fun ρ2 => b ρ2 (I (i + 1)) R W)) (hN : ∀ ρ', I ds.length ρ' → N ρ') : forC it g b ρ N R W :=
  ha _ ⟨I, hI, hs, hN⟩
/-- a statement, then the rest from what it leaves -/
theorem r_seq {a b : S'} {ρ : Rho} {N : Rho → Prop} {R : Sl → Prop} {W : Xc → Prop} (h : a ρ (fun ρ' => b ρ' N R W) R W) : seqC a b ρ N R W := h
/-- the same, cut: what stands behind a statement told once -/
def cutC (a b : S') : S' := fun ρ N R W => ∃ M : Rho → Prop, a ρ M R W ∧ ∀ ρ', M ρ' → b ρ' N R W
theorem r_cut {a b : S'} {ρ : Rho} {N : Rho → Prop} {R : Sl → Prop} {W : Xc → Prop} (M : Rho → Prop) (h : a ρ M R W) (g : ∀ ρ', M ρ' → b ρ' N R W) : cutC a b ρ N R W := ⟨M, h, g⟩
theorem simS_cut {K : PySem.W.Frag} {E : XK} {t u : TS} {a b : S'} (ha : SimS K E t a) (hb : SimS K E u b) : SimS K E (tSeq t u) (cutC a b) := by
  intro B0 H0 ρ σ B H N R W D Rp hc n r w
  obtain ⟨M, hc, g⟩ := hc
  exact ha B0 H0 ρ σ B H _ R W { D with nx := u D } Rp hc (fun ρ' σ' B' H' R' e h => hb B0 H0 ρ' σ' B' H' N R W D R' (g ρ' h) (fun ρ2 σ2 B2 H2 R2 e2 h2 => n ρ2 σ2 B2 H2 R2 (e.trans e2) h2) r w) r w
theorem sd_cut {X : Cx} {E : XK} {st : Stmt} {sts : List Stmt} {cs ct : S'} (h : PS' X E st cs) (hr : PSs' X E sts ct) : PSs' X E (st :: sts) (cutC cs ct) := by
  obtain ⟨t, p1, s1⟩ := h.ex
  obtain ⟨u, p2, s2⟩ := hr.ex
  exact ⟨_, pss_cons p1 p2, simS_cut s1 s2⟩
theorem e_nb0 : noBor [] = true := rfl
theorem e_nbv {d : T} {r : List Sl} : noBor (.val d :: r) = noBor r := rfl
theorem e_nbo {d : List T} {r : List Sl} : noBor (.own d :: r) = noBor r := rfl
theorem e_call0 {C : C'} {k : Sl → Prop} {W : Xc → Prop}  : callF C [] k W = C [] k W := rfl
theorem e_call1 {C : C'} {k : Sl → Prop} {W : Xc → Prop} {a : T} : callF C [.val a] k W = C [a] k W := rfl
theorem e_call2 {C : C'} {k : Sl → Prop} {W : Xc → Prop} {a b : T} : callF C [.val a, .val b] k W = C [a, b] k W := rfl
theorem e_call3 {C : C'} {k : Sl → Prop} {W : Xc → Prop} {a b c : T} : callF C [.val a, .val b, .val c] k W = C [a, b, c] k W := rfl
theorem e_call4 {C : C'} {k : Sl → Prop} {W : Xc → Prop} {a b c d : T} : callF C [.val a, .val b, .val c, .val d] k W = C [a, b, c, d] k W := rfl
theorem e_call5 {C : C'} {k : Sl → Prop} {W : Xc → Prop} {a b c d e : T} : callF C [.val a, .val b, .val c, .val d, .val e] k W = C [a, b, c, d, e] k W := rfl
theorem e_call6 {C : C'} {k : Sl → Prop} {W : Xc → Prop} {a b c d e f : T} : callF C [.val a, .val b, .val c, .val d, .val e, .val f] k W = C [a, b, c, d, e, f] k W := rfl
theorem e_call7 {C : C'} {k : Sl → Prop} {W : Xc → Prop} {a b c d e f g : T} : callF C [.val a, .val b, .val c, .val d, .val e, .val f, .val g] k W = C [a, b, c, d, e, f, g] k W := rfl
theorem e_ty_none_int : isTy none .int = false := rfl
theorem e_ty_none_bool : isTy none .bool = false := rfl
theorem e_ty_none_str : isTy none .str = false := rfl
theorem e_ty_none_list : isTy none .list = false := rfl
theorem e_ty_none_tuple : isTy none .tuple = false := rfl
theorem e_ty_int_int : isTy (some .int) .int = true := rfl
theorem e_ty_int_bool : isTy (some .int) .bool = false := rfl
theorem e_ty_int_str : isTy (some .int) .str = false := rfl
theorem e_ty_int_list : isTy (some .int) .list = false := rfl
theorem e_ty_int_tuple : isTy (some .int) .tuple = false := rfl
theorem e_ty_bool_int : isTy (some .bool) .int = true := rfl
theorem e_ty_bool_bool : isTy (some .bool) .bool = true := rfl
theorem e_ty_bool_str : isTy (some .bool) .str = false := rfl
theorem e_ty_bool_list : isTy (some .bool) .list = false := rfl
theorem e_ty_bool_tuple : isTy (some .bool) .tuple = false := rfl
theorem e_ty_str_int : isTy (some .str) .int = false := rfl
theorem e_ty_str_bool : isTy (some .str) .bool = false := rfl
theorem e_ty_str_str : isTy (some .str) .str = true := rfl
theorem e_ty_str_list : isTy (some .str) .list = false := rfl
theorem e_ty_str_tuple : isTy (some .str) .tuple = false := rfl
theorem e_ty_list_int : isTy (some .list) .int = false := rfl
theorem e_ty_list_bool : isTy (some .list) .bool = false := rfl
theorem e_ty_list_str : isTy (some .list) .str = false := rfl
theorem e_ty_list_list : isTy (some .list) .list = true := rfl
theorem e_ty_list_tuple : isTy (some .list) .tuple = false := rfl
theorem e_ty_tuple_int : isTy (some .tuple) .int = false := rfl
theorem e_ty_tuple_bool : isTy (some .tuple) .bool = false := rfl
theorem e_ty_tuple_str : isTy (some .tuple) .str = false := rfl
theorem e_ty_tuple_list : isTy (some .tuple) .list = false := rfl
theorem e_ty_tuple_tuple : isTy (some .tuple) .tuple = true := rfl
theorem cpow18 : CPow 10 18 := ⟨by decide, by decide, by decide⟩
theorem cpow17 : CPow 10 17 := ⟨by decide, by decide, by decide⟩
theorem cpow9 : CPow 10 9 := ⟨by decide, by decide, by decide⟩
theorem e_pow18 : (10 : Int) ^ (18 : Int).toNat = 1000000000000000000 := by decide
theorem e_pow17 : (10 : Int) ^ (17 : Int).toNat = 100000000000000000 := by decide
theorem e_pow9 : (10 : Int) ^ (9 : Int).toNat = 1000000000 := by decide
/-- a loop, then the rest: not stepped by simp -/
def lopC (a b : S') : S' := seqC a b
theorem sd_lop {X : Cx} {E : XK} {st : Stmt} {sts : List Stmt} {cs ct : S'} (h : PS' X E st cs) (hr : PSs' X E sts ct) : PSs' X E (st :: sts) (lopC cs ct) := sd_cons h hr
end Ff

namespace Ff
open PySem PySem.Spec L2
def N_draw : List Str := ["_law_cell", "_law_k", "_law_many", "_law_primes", "_law_blend"]
def c_draw : S' :=
    (seqC (asgV 3 (tupC (consA (cstC (.int 1000003)) (consA (cstC (.int 1000033)) (consA (cstC (.int 1000037)) (consA (cstC (.int 1000039)) (consA (cstC (.int 1000081)) (consA (cstC (.int 1000099)) (consA (cstC (.int 1000117)) (consA (cstC (.int 1000121)) nilA)))))))))) (seqC (asgV 4 (binC addF (binC addF (binC mulF (varC 0) (cstC (.int 48271))) (binC mulF (varC 1) (cstC (.int 69621)))) (binC mulF (binC modF (binC fdvF (varC 0) (cstC (.int 1000003))) (cstC (.int 1000003))) (cstC (.int 40692))))) (retC (binC modF (binC modF (varC 4) (binC ixF (varC 3) (binC modF (varC 1) (cstC (.int 8))))) (varC 2)))))

def N_far : List Str := ["_law_cell"]
def c_far : S' :=
    (seqC (ifC (tstC (binC ltF (binC modF (varC 0) (cstC (.int 3))) (cstC (.int 2))))
    (retC (binC subF (binC modF (binC fdvF (varC 0) (cstC (.int 3))) (cstC (.int 41))) (cstC (.int 20))))
    nextC) (retC (binC subF (binC modF (binC fdvF (varC 0) (cstC (.int 3))) (binC addF (binC mulF (cstC (.int 2)) (binC powF (cstC (.int 10)) (cstC (.int 18)))) (cstC (.int 1)))) (binC powF (cstC (.int 10)) (cstC (.int 18))))))

/-! ### a drawn number, a far one -/
def primes : List Int := [1000003, 1000033, 1000037, 1000039, 1000081, 1000099, 1000117, 1000121]
def blend (c k : Int) : Int := c * 48271 + k * 69621 + c / 1000003 % 1000003 * 40692
def drawF (c k m : Int) : Int := blend c k % (primes.getD (k % 8).toNat 1) % m
theorem draw_nn {c k m : Int} (h : 0 < m) : 0 ≤ drawF c k m := Int.emod_nonneg _ (by omega)
theorem draw_lt {c k m : Int} (h : 0 < m) : drawF c k m < m := Int.emod_lt_of_pos _ h
theorem prime_pos (k : Int) : 0 < primes.getD (k % 8).toNat 1 := by
  have h : (k % 8).toNat < primes.length := by
    have := Int.emod_lt_of_pos k (show (0 : Int) < 8 by decide)
    have := Int.emod_nonneg k (show (8 : Int) ≠ 0 by decide)
    show _ < 8
    omega
  have hm := getD_mem 1 h
  have ha : ∀ p ∈ primes, 0 < p := by decide
  exact ha _ hm
def C_draw : C' := fun ds k W => ∃ (c q m : Int), ds = [.int c, .int q, .int m] ∧ (bits c ≤ 2000000 ∧ bits q ≤ 1000 ∧ 0 < m ∧ k (.val (.int (drawF c q m))))
theorem l_draw : ∀ ds k W, C_draw ds k W → ds.length = 3 := by
  rintro ds k W ⟨c, q, m, rfl, _⟩; rfl
theorem u_draw {c q m : Int} {k : Sl → Prop} {W : Xc → Prop} : C_draw [.int c, .int q, .int m] k W ↔ (bits c ≤ 2000000 ∧ bits q ≤ 1000 ∧ 0 < m ∧ k (.val (.int (drawF c q m)))) := ⟨by
  rintro ⟨_, _, _, e, h⟩
  cases e
  exact h, fun h => ⟨_, _, _, rfl, h⟩⟩
theorem t_draw : ∀ ds k W, C_draw ds k W → c_draw (startR N_draw ds) (fun _ => k (.val .non)) k W := by
  rintro ds k W ⟨c, q, m, rfl, hc, hq, hm, h⟩
  show c_draw [some (.val (.int c)), some (.val (.int q)), some (.val (.int m)), none, none] _ k W
  simp only [c_draw, ↓e_f_val, ↓e_f_own, ↓e_f_bor, ↓e_t_val, ↓e_t_own, ↓e_t_bor, ↓e_varC0, ↓e_varC0o, ↓e_varCs, ↓e_cstC, ↓e_binC, ↓e_unC, ↓e_nilA, ↓e_consA, ↓e_tupC, ↓e_lstC, ↓e_callC, ↓e_callX, ↓e_dflA, ↓e_blC, ↓e_truC, ↓e_tstC, ↓e_truB, ↓e_truN, ↓e_truI, ↓e_truL, ↓e_truT, ↓e_truO, ↓e_blF, ↓e_andC, ↓e_orC, ↓e_notC, ↓e_andV, ↓e_orV, ↓e_notV, ↓e_iteC, ↓e_chnC, ↓e_subF, ↓e_mulF, ↓e_fdvF, ↓e_modF, ↓e_fdvZF, ↓e_modZF, ↓e_powF, ↓e_shlF, ↓e_shrF, ↓e_andF, ↓e_orF, ↓e_xorF, ↓e_ltF, ↓e_leF, ↓e_gtF, ↓e_geF, ↓e_addF, ↓e_eqF, ↓e_neF, ↓e_negF, ↓e_addFs, ↓e_eqFs, ↓e_neFs, ↓e_addFll, ↓e_addFlb, ↓e_addFbl, ↓e_addFbb, ↓e_eqFll, ↓e_neFll, ↓e_eqFtt, ↓e_neFtt, ↓e_eqFlb, ↓e_neFlb, ↓e_eqFbl, ↓e_neFbl, ↓e_eqFbb, ↓e_neFbb, ↓e_isF, ↓e_isnF, ↓e_isFb, ↓e_isnFb, ↓e_nx_non, ↓e_nn_non, ↓e_tag_non, ↓e_nx_bl, ↓e_nn_bl, ↓e_tag_bl, ↓e_nx_int, ↓e_nn_int, ↓e_tag_int, ↓e_nx_str, ↓e_nn_str, ↓e_tag_str, ↓e_nx_lst, ↓e_nn_lst, ↓e_tag_lst, ↓e_nx_tup, ↓e_nn_tup, ↓e_tag_tup, ↓e_nx_ins, ↓e_nn_ins, ↓e_ixF, ↓e_sl1, ↓e_sl2, ↓e_lenF, ↓e_lenTl, ↓e_lenTt, ↓e_lenTs, ↓e_absF, ↓e_minF, ↓e_dvmF, ↓e_strIF, ↓e_lstFt, ↓e_lstFl, ↓e_lstFb, ↓e_isiC, ↓e_isiF, ↓e_seqC, ↓e_nextC, ↓e_neverC, ↓e_asgFv, ↓e_asgFo, ↓e_asgC, ↓e_asgV, ↓e_retC, ↓e_retO0, ↓e_retOs, ↓e_retN, ↓e_dropC, ↓e_ifC, ↓e_frzC, ↓e_frz1o, ↓e_frz1v, ↓e_frz1n, ↓e_parC, ↓e_pairF, ↓e_oneF, ↓e_intF, ↓e_upC, ↓e_upF, ↓e_sqFl, ↓e_sqFt, ↓e_valF, ↓e_ownF0, ↓e_ownFs, ↓e_appC, ↓e_appF, ↓e_gN, ↓e_gTs, ↓e_call0, ↓e_call1, ↓e_call2, ↓e_call3, ↓e_call4, ↓e_call5, ↓e_call6, ↓e_call7, e_ty_none_int, e_ty_none_bool, e_ty_none_str, e_ty_none_list, e_ty_none_tuple, e_ty_int_int, e_ty_int_bool, e_ty_int_str, e_ty_int_list, e_ty_int_tuple, e_ty_bool_int, e_ty_bool_bool, e_ty_bool_str, e_ty_bool_list, e_ty_bool_tuple, e_ty_str_int, e_ty_str_bool, e_ty_str_str, e_ty_str_list, e_ty_str_tuple, e_ty_list_int, e_ty_list_bool, e_ty_list_str, e_ty_list_list, e_ty_list_tuple, e_ty_tuple_int, e_ty_tuple_bool, e_ty_tuple_str, e_ty_tuple_list, e_ty_tuple_tuple, e_pow18, e_pow17, e_pow9, e_nb0, e_nbv, e_nbo, decide_eq_true_eq, Bool.not_eq_true', decide_eq_false_iff_not, ne_eq, not_false_eq_true, not_true_eq_false, atT0, atT1, atT2, atL0, atL1, atL2, eq_self, List.set_cons_succ, List.set_cons_zero, List.getElem?_cons_succ, List.getElem?_cons_zero, List.length_cons, List.length_nil, List.map_cons, List.map_nil, List.isEmpty_cons, List.isEmpty_nil, List.zip_cons_cons, List.zip_nil_right, List.foldl_cons, List.foldl_nil, List.nil_append, List.cons_append, if_true, if_false, Bool.not_true, Bool.not_false, true_and, and_true, exists_eq_left', exists_eq_left, Option.some.injEq, Bool.false_eq_true, Bool.true_eq_false, reduceIte]
  have b1 : bits 48271 ≤ 16 := by decide +kernel
  have b2 : bits 69621 ≤ 17 := by decide +kernel
  have b3 : bits 1000003 ≤ 20 := by decide +kernel
  have b4 : bits 40692 ≤ 16 := by decide +kernel
  refine ⟨by decide, mulx hc b1 (by decide), mulx hq b2 (by decide), cdivw (by decide) (Nat.lt_of_le_of_lt b3 (by decide)), by decide, mulx (Nat.le_trans (bits_mod _ (by decide)) b3) b4 (by decide), by decide, .int (primes.getD (q % 8).toNat 1), ?_, prime_pos q, hm, h⟩
  exact atD_ints (ns := primes) 1 (Int.emod_nonneg _ (by decide)) (Int.emod_lt_of_pos _ (by decide))
def e18 : Int := 1000000000000000000
def farF (c : Int) : Int := if c % 3 < 2 then c / 3 % 41 - 20 else c / 3 % 2000000000000000001 - 1000000000000000000
theorem far_ge (c : Int) : -1000000000000000000 ≤ farF c := by
  unfold farF
  split <;> omega
theorem far_le (c : Int) : farF c ≤ 1000000000000000000 := by
  unfold farF
  split <;> omega
def C_far : C' := fun ds k W => ∃ (c : Int), ds = [.int c] ∧ (k (.val (.int (farF c))))
theorem l_far : ∀ ds k W, C_far ds k W → ds.length = 1 := by
  rintro ds k W ⟨c, rfl, _⟩; rfl
theorem u_far {c : Int} {k : Sl → Prop} {W : Xc → Prop} : C_far [.int c] k W ↔ (k (.val (.int (farF c)))) := ⟨by
  rintro ⟨_, e, h⟩
  cases e
  exact h, fun h => ⟨_, rfl, h⟩⟩
theorem t_far : ∀ ds k W, C_far ds k W → c_far (startR N_far ds) (fun _ => k (.val .non)) k W := by
  rintro ds k W ⟨c, rfl, h⟩
  show c_far [some (.val (.int c))] _ k W
  simp only [c_far, ↓e_f_val, ↓e_f_own, ↓e_f_bor, ↓e_t_val, ↓e_t_own, ↓e_t_bor, ↓e_varC0, ↓e_varC0o, ↓e_varCs, ↓e_cstC, ↓e_binC, ↓e_unC, ↓e_nilA, ↓e_consA, ↓e_tupC, ↓e_lstC, ↓e_callC, ↓e_callX, ↓e_dflA, ↓e_blC, ↓e_truC, ↓e_tstC, ↓e_truB, ↓e_truN, ↓e_truI, ↓e_truL, ↓e_truT, ↓e_truO, ↓e_blF, ↓e_andC, ↓e_orC, ↓e_notC, ↓e_andV, ↓e_orV, ↓e_notV, ↓e_iteC, ↓e_chnC, ↓e_subF, ↓e_mulF, ↓e_fdvF, ↓e_modF, ↓e_fdvZF, ↓e_modZF, ↓e_powF, ↓e_shlF, ↓e_shrF, ↓e_andF, ↓e_orF, ↓e_xorF, ↓e_ltF, ↓e_leF, ↓e_gtF, ↓e_geF, ↓e_addF, ↓e_eqF, ↓e_neF, ↓e_negF, ↓e_addFs, ↓e_eqFs, ↓e_neFs, ↓e_addFll, ↓e_addFlb, ↓e_addFbl, ↓e_addFbb, ↓e_eqFll, ↓e_neFll, ↓e_eqFtt, ↓e_neFtt, ↓e_eqFlb, ↓e_neFlb, ↓e_eqFbl, ↓e_neFbl, ↓e_eqFbb, ↓e_neFbb, ↓e_isF, ↓e_isnF, ↓e_isFb, ↓e_isnFb, ↓e_nx_non, ↓e_nn_non, ↓e_tag_non, ↓e_nx_bl, ↓e_nn_bl, ↓e_tag_bl, ↓e_nx_int, ↓e_nn_int, ↓e_tag_int, ↓e_nx_str, ↓e_nn_str, ↓e_tag_str, ↓e_nx_lst, ↓e_nn_lst, ↓e_tag_lst, ↓e_nx_tup, ↓e_nn_tup, ↓e_tag_tup, ↓e_nx_ins, ↓e_nn_ins, ↓e_ixF, ↓e_sl1, ↓e_sl2, ↓e_lenF, ↓e_lenTl, ↓e_lenTt, ↓e_lenTs, ↓e_absF, ↓e_minF, ↓e_dvmF, ↓e_strIF, ↓e_lstFt, ↓e_lstFl, ↓e_lstFb, ↓e_isiC, ↓e_isiF, ↓e_seqC, ↓e_nextC, ↓e_neverC, ↓e_asgFv, ↓e_asgFo, ↓e_asgC, ↓e_asgV, ↓e_retC, ↓e_retO0, ↓e_retOs, ↓e_retN, ↓e_dropC, ↓e_ifC, ↓e_frzC, ↓e_frz1o, ↓e_frz1v, ↓e_frz1n, ↓e_parC, ↓e_pairF, ↓e_oneF, ↓e_intF, ↓e_upC, ↓e_upF, ↓e_sqFl, ↓e_sqFt, ↓e_valF, ↓e_ownF0, ↓e_ownFs, ↓e_appC, ↓e_appF, ↓e_gN, ↓e_gTs, ↓e_call0, ↓e_call1, ↓e_call2, ↓e_call3, ↓e_call4, ↓e_call5, ↓e_call6, ↓e_call7, e_ty_none_int, e_ty_none_bool, e_ty_none_str, e_ty_none_list, e_ty_none_tuple, e_ty_int_int, e_ty_int_bool, e_ty_int_str, e_ty_int_list, e_ty_int_tuple, e_ty_bool_int, e_ty_bool_bool, e_ty_bool_str, e_ty_bool_list, e_ty_bool_tuple, e_ty_str_int, e_ty_str_bool, e_ty_str_str, e_ty_str_list, e_ty_str_tuple, e_ty_list_int, e_ty_list_bool, e_ty_list_str, e_ty_list_list, e_ty_list_tuple, e_ty_tuple_int, e_ty_tuple_bool, e_ty_tuple_str, e_ty_tuple_list, e_ty_tuple_tuple, e_pow18, e_pow17, e_pow9, e_nb0, e_nbv, e_nbo, decide_eq_true_eq, Bool.not_eq_true', decide_eq_false_iff_not, ne_eq, not_false_eq_true, not_true_eq_false, atT0, atT1, atT2, atL0, atL1, atL2, eq_self, List.set_cons_succ, List.set_cons_zero, List.getElem?_cons_succ, List.getElem?_cons_zero, List.length_cons, List.length_nil, List.map_cons, List.map_nil, List.isEmpty_cons, List.isEmpty_nil, List.zip_cons_cons, List.zip_nil_right, List.foldl_cons, List.foldl_nil, List.nil_append, List.cons_append, if_true, if_false, Bool.not_true, Bool.not_false, true_and, and_true, exists_eq_left', exists_eq_left, Option.some.injEq, Bool.false_eq_true, Bool.true_eq_false, reduceIte]
  have b3 : bits 3 ≤ 20 := by decide +kernel
  refine ⟨by decide, ?_⟩
  unfold farF at h
  split
  · rename_i h1
    rw [if_pos h1] at h
    exact ⟨cdivw (by decide) (Nat.lt_of_le_of_lt b3 (by decide)), by decide, h⟩
  · rename_i h1
    rw [if_neg h1] at h
    exact ⟨cdivw (by decide) (Nat.lt_of_le_of_lt b3 (by decide)), cpow18, mulx (Nat.le_refl _) (Nat.le_refl _) (by decide +kernel), by decide, cpow18, h⟩
theorem scr_at {ns : List Int} {i : Int} (h0 : -(ns.length : Int) ≤ i) (h1 : i < ns.length) : ∃ n, n ∈ ns ∧ atD (.scr ns) i = some (.int n) := by
  by_cases h : 0 ≤ i
  · refine ⟨ns.getD i.toNat 0, getD_mem 0 (by omega), ?_⟩
    show (atI ns i).map T.int = _
    rw [atI_nn 0 h h1]
    rfl
  · have hl : (i + ns.length).toNat < ns.length := by omega
    refine ⟨ns[(i + ns.length).toNat], List.getElem_mem hl, ?_⟩
    show (atI ns i).map T.int = _
    unfold atI ixN
    rw [if_neg h, if_pos h0]
    show (ns[(i + ns.length).toNat]?).map T.int = _
    rw [List.getElem?_eq_getElem hl]
    rfl
theorem bits_far (c : Int) : bits (farF c) ≤ 61 := by
  refine bits_le ?_
  have h1 := far_ge c
  have h2 := far_le c
  have e : (2 : Nat) ^ 61 = 2305843009213693952 := by decide
  omega
theorem bits_far9 (c : Int) : bits (farF c) ≤ 8000 := Nat.le_trans (bits_far c) (by decide)
theorem bits_sm {i : Int} (n : Nat) (h : i.natAbs < 2 ^ n) : bits i ≤ n := bits_le h
theorem cell_bits {n : Int} {i : Nat} (h : bits n ≤ 1048576) (hi : i < 63) : bits (n + 977 * i) ≤ 1048578 := by
  have h1 : bits (977 * (i : Int)) ≤ 17 := bits_le (by
    have : (2 : Nat) ^ 17 = 131072 := by decide
    omega)
  have := bits_add n (977 * i)
  omega
theorem cell_mul {i : Nat} (hi : i < 63) : CMulX 977 (i : Int) := mulx (m := 10) (n := 6) (bits_le (by decide)) (bits_le (by
  have : (2 : Nat) ^ 6 = 64 := by decide
  omega)) (by decide)
/-- a number below a power of two, told by literals -/
theorem bits_b {i : Int} {n : Nat} (m : Nat) (hm : m < 2 ^ n) (h : i.natAbs ≤ m) : bits i ≤ n := bits_le (Nat.lt_of_le_of_lt h hm)
end Ff

namespace Ff
open PySem PySem.Spec L2
/-! ### bits turned -/
def rot (n s w : Nat) : Nat := (n <<< s ||| n >>> (w - s)) % 2 ^ w
theorem rot_lt (n s w : Nat) : rot n s w < 2 ^ w := Nat.mod_lt _ (Nat.pow_pos (by decide))
theorem rot_bit {n s w j : Nat} (hn : n < 2 ^ w) (hs : s < w) (hj : j < w) : (rot n s w).testBit ((j + s) % w) = n.testBit j := by
  unfold rot
  have hp : (j + s) % w < w := Nat.mod_lt _ (by omega)
  rw [Nat.testBit_mod_two_pow, decide_eq_true hp, Bool.true_and, Nat.testBit_or, Nat.testBit_shiftLeft, Nat.testBit_shiftRight]
  by_cases h : j + s < w
  · rw [Nat.mod_eq_of_lt h]
    have e : n.testBit (w - s + (j + s)) = false := Nat.testBit_lt_two_pow (Nat.lt_of_lt_of_le hn (Nat.pow_le_pow_right (by decide) (by omega)))
    rw [e, Bool.or_false, decide_eq_true (by omega), Bool.true_and, Nat.add_sub_cancel]
  · have e : (j + s) % w = j + s - w := by
      rw [Nat.mod_eq_sub_mod (by omega), Nat.mod_eq_of_lt (by omega)]
    rw [e, decide_eq_false (by omega), Bool.false_and, Bool.false_or]
    congr 1
    omega
theorem pow2_cast (n : Nat) : (2 : Int) ^ n = ((2 ^ n : Nat) : Int) := by rw [Int.natCast_pow]; rfl
theorem band_nat (a b : Nat) : Builtin.bitAnd (a : Int) (b : Int) = ((a &&& b : Nat) : Int) := by
  have h1 : (0 : Int) ≤ (a : Int) := Int.natCast_nonneg _
  have h2 : (0 : Int) ≤ (b : Int) := Int.natCast_nonneg _
  simp [Builtin.bitAnd, h1, h2]
theorem rot_int (n s w : Nat) : Builtin.bitAnd (Builtin.bitOr ((n : Int) * 2 ^ s) ((n : Int) / 2 ^ (w - s))) (1 * 2 ^ w - 1) = ((rot n s w : Nat) : Int) := by
  have h1 : 1 ≤ 2 ^ w := Nat.pow_pos (by decide)
  have e1 : (n : Int) * 2 ^ s = ((n <<< s : Nat) : Int) := by rw [pow2_cast, Nat.shiftLeft_eq, Int.natCast_mul]
  have e2 : (n : Int) / 2 ^ (w - s) = ((n >>> (w - s) : Nat) : Int) := by rw [pow2_cast, Nat.shiftRight_eq_div_pow]; rfl
  have e3 : (1 : Int) * 2 ^ w - 1 = ((2 ^ w - 1 : Nat) : Int) := by rw [pow2_cast]; omega
  rw [e1, e2, e3, bitOr_nn (Int.natCast_nonneg _) (Int.natCast_nonneg _)]
  simp only [Int.toNat_natCast]
  rw [band_nat, Nat.and_two_pow_sub_one_eq_mod]
  rfl
theorem bit_div (m p : Nat) : (m : Int) / 2 ^ p % 2 = ((m.testBit p).toNat : Int) := by
  rw [pow2_cast, Nat.toNat_testBit]
  rfl
def C_turned : C' := fun ds k W => ∃ (n w : Nat) (c : Int), ds = [.int (n : Nat), .int c, .int (w : Nat)] ∧ (0 < w ∧ w ≤ 100000 ∧ n < 2 ^ w ∧ k (.val (.int (rot n (c % w).toNat w : Nat))))
theorem l_turned : ∀ ds k W, C_turned ds k W → ds.length = 3 := by
  rintro ds k W ⟨n, w, c, rfl, _⟩; rfl
theorem u_turned {n w : Nat} {c : Int} {k : Sl → Prop} {W : Xc → Prop} : C_turned [.int (n : Nat), .int c, .int (w : Nat)] k W ↔ (0 < w ∧ w ≤ 100000 ∧ n < 2 ^ w ∧ k (.val (.int (rot n (c % w).toNat w : Nat)))) := ⟨by
  rintro ⟨_, _, _, e, h⟩
  cases e
  exact h, fun h => ⟨_, _, _, rfl, h⟩⟩
def N_turned : List Str := ["bits", "by", "width"]
def c_turned : S' :=
    (seqC (asgV 1 (binC modF (varC 1) (varC 2))) (retC (binC andF (binC orF (binC shlF (varC 0) (varC 1)) (binC shrF (varC 0) (binC subF (varC 2) (varC 1)))) (binC subF (binC shlF (cstC (.int 1)) (varC 2)) (cstC (.int 1))))))

theorem t_turned : ∀ ds k W, C_turned ds k W → c_turned (startR N_turned ds) (fun _ => k (.val .non)) k W := by
  rintro ds k W ⟨n, w, c, rfl, hw, hl, hn, h⟩
  show c_turned [some (.val (.int n)), some (.val (.int c)), some (.val (.int w))] _ k W
  simp only [c_turned, ↓e_f_val, ↓e_f_own, ↓e_f_bor, ↓e_t_val, ↓e_t_own, ↓e_t_bor, ↓e_varC0, ↓e_varC0o, ↓e_varCs, ↓e_cstC, ↓e_binC, ↓e_unC, ↓e_nilA, ↓e_consA, ↓e_tupC, ↓e_lstC, ↓e_callC, ↓e_callX, ↓e_dflA, ↓e_blC, ↓e_truC, ↓e_tstC, ↓e_truB, ↓e_truN, ↓e_truI, ↓e_truL, ↓e_truT, ↓e_truO, ↓e_blF, ↓e_andC, ↓e_orC, ↓e_notC, ↓e_andV, ↓e_orV, ↓e_notV, ↓e_iteC, ↓e_chnC, ↓e_subF, ↓e_mulF, ↓e_fdvF, ↓e_modF, ↓e_fdvZF, ↓e_modZF, ↓e_powF, ↓e_shlF, ↓e_shrF, ↓e_andF, ↓e_orF, ↓e_xorF, ↓e_ltF, ↓e_leF, ↓e_gtF, ↓e_geF, ↓e_addF, ↓e_eqF, ↓e_neF, ↓e_negF, ↓e_addFs, ↓e_eqFs, ↓e_neFs, ↓e_addFll, ↓e_addFlb, ↓e_addFbl, ↓e_addFbb, ↓e_eqFll, ↓e_neFll, ↓e_eqFtt, ↓e_neFtt, ↓e_eqFlb, ↓e_neFlb, ↓e_eqFbl, ↓e_neFbl, ↓e_eqFbb, ↓e_neFbb, ↓e_isF, ↓e_isnF, ↓e_isFb, ↓e_isnFb, ↓e_nx_non, ↓e_nn_non, ↓e_tag_non, ↓e_nx_bl, ↓e_nn_bl, ↓e_tag_bl, ↓e_nx_int, ↓e_nn_int, ↓e_tag_int, ↓e_nx_str, ↓e_nn_str, ↓e_tag_str, ↓e_nx_lst, ↓e_nn_lst, ↓e_tag_lst, ↓e_nx_tup, ↓e_nn_tup, ↓e_tag_tup, ↓e_nx_ins, ↓e_nn_ins, ↓e_ixF, ↓e_sl1, ↓e_sl2, ↓e_lenF, ↓e_lenTl, ↓e_lenTt, ↓e_lenTs, ↓e_absF, ↓e_minF, ↓e_dvmF, ↓e_strIF, ↓e_lstFt, ↓e_lstFl, ↓e_lstFb, ↓e_isiC, ↓e_isiF, ↓e_seqC, ↓e_nextC, ↓e_neverC, ↓e_asgFv, ↓e_asgFo, ↓e_asgC, ↓e_asgV, ↓e_retC, ↓e_retO0, ↓e_retOs, ↓e_retN, ↓e_dropC, ↓e_ifC, ↓e_frzC, ↓e_frz1o, ↓e_frz1v, ↓e_frz1n, ↓e_parC, ↓e_pairF, ↓e_oneF, ↓e_intF, ↓e_upC, ↓e_upF, ↓e_sqFl, ↓e_sqFt, ↓e_valF, ↓e_ownF0, ↓e_ownFs, ↓e_appC, ↓e_appF, ↓e_gN, ↓e_gTs, ↓e_call0, ↓e_call1, ↓e_call2, ↓e_call3, ↓e_call4, ↓e_call5, ↓e_call6, ↓e_call7, e_ty_none_int, e_ty_none_bool, e_ty_none_str, e_ty_none_list, e_ty_none_tuple, e_ty_int_int, e_ty_int_bool, e_ty_int_str, e_ty_int_list, e_ty_int_tuple, e_ty_bool_int, e_ty_bool_bool, e_ty_bool_str, e_ty_bool_list, e_ty_bool_tuple, e_ty_str_int, e_ty_str_bool, e_ty_str_str, e_ty_str_list, e_ty_str_tuple, e_ty_list_int, e_ty_list_bool, e_ty_list_str, e_ty_list_list, e_ty_list_tuple, e_ty_tuple_int, e_ty_tuple_bool, e_ty_tuple_str, e_ty_tuple_list, e_ty_tuple_tuple, e_pow18, e_pow17, e_pow9, e_nb0, e_nbv, e_nbo, decide_eq_true_eq, Bool.not_eq_true', decide_eq_false_iff_not, ne_eq, not_false_eq_true, not_true_eq_false, atT0, atT1, atT2, atL0, atL1, atL2, eq_self, List.set_cons_succ, List.set_cons_zero, List.getElem?_cons_succ, List.getElem?_cons_zero, List.length_cons, List.length_nil, List.map_cons, List.map_nil, List.isEmpty_cons, List.isEmpty_nil, List.zip_cons_cons, List.zip_nil_right, List.foldl_cons, List.foldl_nil, List.nil_append, List.cons_append, if_true, if_false, Bool.not_true, Bool.not_false, true_and, and_true, exists_eq_left', exists_eq_left, Option.some.injEq, Bool.false_eq_true, Bool.true_eq_false, reduceIte]
  have h0 := Int.emod_nonneg c (show (w : Int) ≠ 0 by omega)
  have h1 := Int.emod_lt_of_pos c (show (0 : Int) < w by omega)
  refine ⟨by omega, shlx (m := w) (bits_le (by simpa using hn)) h0 (by omega), by omega, shlx (m := 1) (bits_le (by decide)) (by omega) (by omega), ?_⟩
  have e : ((w : Int) - c % w).toNat = w - (c % w).toNat := by omega
  rw [e, Int.toNat_natCast, rot_int]
  exact h
end Ff

namespace Ff
open PySem PySem.Spec L2
def C_law : C' := fun ds k W => ∃ (ns : List Int), ds = [.scr ns] ∧ ((∀ n ∈ ns, bits n ≤ 1048576) ∧ ns.length ≤ 63 ∧ k (.val (.bl true)))
theorem l_law : ∀ ds k W, C_law ds k W → ds.length = 1 := by
  rintro ds k W ⟨ns, rfl, _⟩; rfl
theorem u_law {ns : List Int} {k : Sl → Prop} {W : Xc → Prop} : C_law [.scr ns] k W ↔ ((∀ n ∈ ns, bits n ≤ 1048576) ∧ ns.length ≤ 63 ∧ k (.val (.bl true))) := ⟨by
  rintro ⟨_, e, h⟩
  cases e
  exact h, fun h => ⟨_, rfl, h⟩⟩
def N_law : List Str := ["_law_script", "_law_at", "_law_cell", "_law_width", "_law_bits", "_law_k", "_law_by", "_law_found"]
def c_law : S' :=
    (lopC (forR 1 (consA (blC minF (consA (blC lenF (consA (varC 0) nilA)) (consA (cstC (.int 20)) nilA))) nilA)
    (seqC (asgV 2 (binC addF (binC ixF (varC 0) (varC 1)) (binC mulF (cstC (.int 977)) (varC 1)))) (seqC (asgV 3 (binC addF (cstC (.int 1)) (callC C_draw (consA (varC 2) (consA (cstC (.int 0)) (consA (cstC (.int 9)) nilA)))))) (cutC (ifC (tstC (binC eqF (callC C_draw (consA (varC 2) (consA (cstC (.int 1)) (consA (cstC (.int 5)) nilA)))) (cstC (.int 0))))
    (asgV 3 (binC addF (cstC (.int 1)) (callC C_draw (consA (varC 2) (consA (cstC (.int 2)) (consA (cstC (.int 200)) nilA))))))
    nextC)
    (seqC (asgV 4 (cstC (.int 0))) (lopC (forR 5 (consA (varC 3) nilA)
    (asgV 4 (binC addF (varC 4) (binC mulF (callC C_draw (consA (binC addF (varC 2) (binC mulF (cstC (.int 31)) (varC 5))) (consA (binC addF (cstC (.int 3)) (binC modF (varC 5) (cstC (.int 3)))) (consA (cstC (.int 2)) nilA)))) (binC shlF (cstC (.int 1)) (varC 5))))))
    (seqC (asgV 6 (callC C_far (consA (binC ixF (varC 0) (varC 1)) nilA))) (seqC (asgV 7 (callC C_turned (consA (varC 4) (consA (varC 6) (consA (varC 3) nilA))))) (seqC (ifC (orC (notC (truC (isiC .int (varC 7)))) (orC (truC (isiC .bool (varC 7))) (orC (tstC (binC ltF (varC 7) (cstC (.int 0)))) (tstC (binC geF (varC 7) (binC shlF (cstC (.int 1)) (varC 3)))))))
    (retC (cstC (.bl false)))
    nextC) (forR 5 (consA (varC 3) nilA)
    (ifC (tstC (binC neF (binC modF (binC fdvF (varC 7) (binC shlF (cstC (.int 1)) (binC modF (binC addF (varC 5) (varC 6)) (varC 3)))) (cstC (.int 2))) (binC modF (binC fdvF (varC 4) (binC shlF (cstC (.int 1)) (varC 5))) (cstC (.int 2)))))
    (retC (cstC (.bl false)))
    nextC)))))))))))
    (retC (cstC (.bl true))))

theorem t_law : ∀ ds k W, C_law ds k W → c_law (startR N_law ds) (fun _ => k (.val .non)) k W := by
  rintro ds k W ⟨ns, rfl, hb, hl, h⟩
  show c_law [some (.val (.scr ns)), none, none, none, none, none, none, none] _ k W
  unfold c_law
  refine r_seq (r_forR (fun _ ρ => ∃ a b c d e f g, ρ = [some (.val (.scr ns)), a, b, c, d, e, f, g]) (m := min (ns.length : Int) 20) ?_ ?_ ⟨_, _, _, _, _, _, _, rfl⟩ ?_ ?_)
  · intro k h
    simp only [↓e_f_val, ↓e_f_own, ↓e_f_bor, ↓e_t_val, ↓e_t_own, ↓e_t_bor, ↓e_varC0, ↓e_varC0o, ↓e_varCs, ↓e_cstC, ↓e_binC, ↓e_unC, ↓e_nilA, ↓e_consA, ↓e_tupC, ↓e_lstC, ↓e_callC, ↓e_callX, ↓e_dflA, ↓e_blC, ↓e_truC, ↓e_tstC, ↓e_truB, ↓e_truN, ↓e_truI, ↓e_truL, ↓e_truT, ↓e_truO, ↓e_blF, ↓e_andC, ↓e_orC, ↓e_notC, ↓e_andV, ↓e_orV, ↓e_notV, ↓e_iteC, ↓e_chnC, ↓e_subF, ↓e_mulF, ↓e_fdvF, ↓e_modF, ↓e_fdvZF, ↓e_modZF, ↓e_powF, ↓e_shlF, ↓e_shrF, ↓e_andF, ↓e_orF, ↓e_xorF, ↓e_ltF, ↓e_leF, ↓e_gtF, ↓e_geF, ↓e_addF, ↓e_eqF, ↓e_neF, ↓e_negF, ↓e_addFs, ↓e_eqFs, ↓e_neFs, ↓e_addFll, ↓e_addFlb, ↓e_addFbl, ↓e_addFbb, ↓e_eqFll, ↓e_neFll, ↓e_eqFtt, ↓e_neFtt, ↓e_eqFlb, ↓e_neFlb, ↓e_eqFbl, ↓e_neFbl, ↓e_eqFbb, ↓e_neFbb, ↓e_isF, ↓e_isnF, ↓e_isFb, ↓e_isnFb, ↓e_nx_non, ↓e_nn_non, ↓e_tag_non, ↓e_nx_bl, ↓e_nn_bl, ↓e_tag_bl, ↓e_nx_int, ↓e_nn_int, ↓e_tag_int, ↓e_nx_str, ↓e_nn_str, ↓e_tag_str, ↓e_nx_lst, ↓e_nn_lst, ↓e_tag_lst, ↓e_nx_tup, ↓e_nn_tup, ↓e_tag_tup, ↓e_nx_ins, ↓e_nn_ins, ↓e_ixF, ↓e_sl1, ↓e_sl2, ↓e_lenF, ↓e_lenTl, ↓e_lenTt, ↓e_lenTs, ↓e_absF, ↓e_minF, ↓e_dvmF, ↓e_strIF, ↓e_lstFt, ↓e_lstFl, ↓e_lstFb, ↓e_isiC, ↓e_isiF, ↓e_seqC, ↓e_nextC, ↓e_neverC, ↓e_asgFv, ↓e_asgFo, ↓e_asgC, ↓e_asgV, ↓e_retC, ↓e_retO0, ↓e_retOs, ↓e_retN, ↓e_dropC, ↓e_ifC, ↓e_frzC, ↓e_frz1o, ↓e_frz1v, ↓e_frz1n, ↓e_parC, ↓e_pairF, ↓e_oneF, ↓e_intF, ↓e_upC, ↓e_upF, ↓e_sqFl, ↓e_sqFt, ↓e_valF, ↓e_ownF0, ↓e_ownFs, ↓e_appC, ↓e_appF, ↓e_gN, ↓e_gTs, ↓e_call0, ↓e_call1, ↓e_call2, ↓e_call3, ↓e_call4, ↓e_call5, ↓e_call6, ↓e_call7, e_ty_none_int, e_ty_none_bool, e_ty_none_str, e_ty_none_list, e_ty_none_tuple, e_ty_int_int, e_ty_int_bool, e_ty_int_str, e_ty_int_list, e_ty_int_tuple, e_ty_bool_int, e_ty_bool_bool, e_ty_bool_str, e_ty_bool_list, e_ty_bool_tuple, e_ty_str_int, e_ty_str_bool, e_ty_str_str, e_ty_str_list, e_ty_str_tuple, e_ty_list_int, e_ty_list_bool, e_ty_list_str, e_ty_list_list, e_ty_list_tuple, e_ty_tuple_int, e_ty_tuple_bool, e_ty_tuple_str, e_ty_tuple_list, e_ty_tuple_tuple, e_pow18, e_pow17, e_pow9, e_nb0, e_nbv, e_nbo, decide_eq_true_eq, Bool.not_eq_true', decide_eq_false_iff_not, ne_eq, not_false_eq_true, not_true_eq_false, atT0, atT1, atT2, atL0, atL1, atL2, eq_self, List.set_cons_succ, List.set_cons_zero, List.getElem?_cons_succ, List.getElem?_cons_zero, List.length_cons, List.length_nil, List.map_cons, List.map_nil, List.isEmpty_cons, List.isEmpty_nil, List.zip_cons_cons, List.zip_nil_right, List.foldl_cons, List.foldl_nil, List.nil_append, List.cons_append, if_true, if_false, Bool.not_true, Bool.not_false, true_and, and_true, exists_eq_left', exists_eq_left, Option.some.injEq, Bool.false_eq_true, Bool.true_eq_false, reduceIte]
    exact h
  · omega
  · rintro i ρ hi ⟨o1, o2, o3, o4, o5, o6, o7, rfl⟩
    obtain ⟨x, hx, ex⟩ := scr_at (ns := ns) (i := i) (by omega) (by omega)
    have hc := cell_bits (i := i) (hb x hx) (by omega)
    simp only [↓e_f_val, ↓e_f_own, ↓e_f_bor, ↓e_t_val, ↓e_t_own, ↓e_t_bor, ↓e_varC0, ↓e_varC0o, ↓e_varCs, ↓e_cstC, ↓e_binC, ↓e_unC, ↓e_nilA, ↓e_consA, ↓e_tupC, ↓e_lstC, ↓e_callC, ↓e_callX, ↓e_dflA, ↓e_blC, ↓e_truC, ↓e_tstC, ↓e_truB, ↓e_truN, ↓e_truI, ↓e_truL, ↓e_truT, ↓e_truO, ↓e_blF, ↓e_andC, ↓e_orC, ↓e_notC, ↓e_andV, ↓e_orV, ↓e_notV, ↓e_iteC, ↓e_chnC, ↓e_subF, ↓e_mulF, ↓e_fdvF, ↓e_modF, ↓e_fdvZF, ↓e_modZF, ↓e_powF, ↓e_shlF, ↓e_shrF, ↓e_andF, ↓e_orF, ↓e_xorF, ↓e_ltF, ↓e_leF, ↓e_gtF, ↓e_geF, ↓e_addF, ↓e_eqF, ↓e_neF, ↓e_negF, ↓e_addFs, ↓e_eqFs, ↓e_neFs, ↓e_addFll, ↓e_addFlb, ↓e_addFbl, ↓e_addFbb, ↓e_eqFll, ↓e_neFll, ↓e_eqFtt, ↓e_neFtt, ↓e_eqFlb, ↓e_neFlb, ↓e_eqFbl, ↓e_neFbl, ↓e_eqFbb, ↓e_neFbb, ↓e_isF, ↓e_isnF, ↓e_isFb, ↓e_isnFb, ↓e_nx_non, ↓e_nn_non, ↓e_tag_non, ↓e_nx_bl, ↓e_nn_bl, ↓e_tag_bl, ↓e_nx_int, ↓e_nn_int, ↓e_tag_int, ↓e_nx_str, ↓e_nn_str, ↓e_tag_str, ↓e_nx_lst, ↓e_nn_lst, ↓e_tag_lst, ↓e_nx_tup, ↓e_nn_tup, ↓e_tag_tup, ↓e_nx_ins, ↓e_nn_ins, ↓e_ixF, ↓e_sl1, ↓e_sl2, ↓e_lenF, ↓e_lenTl, ↓e_lenTt, ↓e_lenTs, ↓e_absF, ↓e_minF, ↓e_dvmF, ↓e_strIF, ↓e_lstFt, ↓e_lstFl, ↓e_lstFb, ↓e_isiC, ↓e_isiF, ↓e_seqC, ↓e_nextC, ↓e_neverC, ↓e_asgFv, ↓e_asgFo, ↓e_asgC, ↓e_asgV, ↓e_retC, ↓e_retO0, ↓e_retOs, ↓e_retN, ↓e_dropC, ↓e_ifC, ↓e_frzC, ↓e_frz1o, ↓e_frz1v, ↓e_frz1n, ↓e_parC, ↓e_pairF, ↓e_oneF, ↓e_intF, ↓e_upC, ↓e_upF, ↓e_sqFl, ↓e_sqFt, ↓e_valF, ↓e_ownF0, ↓e_ownFs, ↓e_appC, ↓e_appF, ↓e_gN, ↓e_gTs, ↓e_call0, ↓e_call1, ↓e_call2, ↓e_call3, ↓e_call4, ↓e_call5, ↓e_call6, ↓e_call7, e_ty_none_int, e_ty_none_bool, e_ty_none_str, e_ty_none_list, e_ty_none_tuple, e_ty_int_int, e_ty_int_bool, e_ty_int_str, e_ty_int_list, e_ty_int_tuple, e_ty_bool_int, e_ty_bool_bool, e_ty_bool_str, e_ty_bool_list, e_ty_bool_tuple, e_ty_str_int, e_ty_str_bool, e_ty_str_str, e_ty_str_list, e_ty_str_tuple, e_ty_list_int, e_ty_list_bool, e_ty_list_str, e_ty_list_list, e_ty_list_tuple, e_ty_tuple_int, e_ty_tuple_bool, e_ty_tuple_str, e_ty_tuple_list, e_ty_tuple_tuple, e_pow18, e_pow17, e_pow9, e_nb0, e_nbv, e_nbo, decide_eq_true_eq, Bool.not_eq_true', decide_eq_false_iff_not, ne_eq, not_false_eq_true, not_true_eq_false, atT0, atT1, atT2, atL0, atL1, atL2, eq_self, List.set_cons_succ, List.set_cons_zero, List.getElem?_cons_succ, List.getElem?_cons_zero, List.length_cons, List.length_nil, List.map_cons, List.map_nil, List.isEmpty_cons, List.isEmpty_nil, List.zip_cons_cons, List.zip_nil_right, List.foldl_cons, List.foldl_nil, List.nil_append, List.cons_append, if_true, if_false, Bool.not_true, Bool.not_false, true_and, and_true, exists_eq_left', exists_eq_left, Option.some.injEq, Bool.false_eq_true, Bool.true_eq_false, reduceIte, ex, u_draw]
    have n0 := draw_nn (c := x + 977 * i) (k := 0) (show (0 : Int) < 9 by decide)
    have l0 := draw_lt (c := x + 977 * i) (k := 0) (show (0 : Int) < 9 by decide)
    have n2 := draw_nn (c := x + 977 * i) (k := 2) (show (0 : Int) < 200 by decide)
    have l2 := draw_lt (c := x + 977 * i) (k := 2) (show (0 : Int) < 200 by decide)
    refine ⟨cell_mul (by omega), by omega, by decide, by decide, ?_⟩
    generalize x + 977 * (i : Int) = c at *
    refine r_cut (fun ρ => ∃ w : Nat, ρ = [some (.val (.scr ns)), some (.val (.int i)), some (.val (.int c)), some (.val (.int w)), o4, o5, o6, o7] ∧ (0 < w ∧ w ≤ 200)) ?_ ?_
    · simp only [↓e_f_val, ↓e_f_own, ↓e_f_bor, ↓e_t_val, ↓e_t_own, ↓e_t_bor, ↓e_varC0, ↓e_varC0o, ↓e_varCs, ↓e_cstC, ↓e_binC, ↓e_unC, ↓e_nilA, ↓e_consA, ↓e_tupC, ↓e_lstC, ↓e_callC, ↓e_callX, ↓e_dflA, ↓e_blC, ↓e_truC, ↓e_tstC, ↓e_truB, ↓e_truN, ↓e_truI, ↓e_truL, ↓e_truT, ↓e_truO, ↓e_blF, ↓e_andC, ↓e_orC, ↓e_notC, ↓e_andV, ↓e_orV, ↓e_notV, ↓e_iteC, ↓e_chnC, ↓e_subF, ↓e_mulF, ↓e_fdvF, ↓e_modF, ↓e_fdvZF, ↓e_modZF, ↓e_powF, ↓e_shlF, ↓e_shrF, ↓e_andF, ↓e_orF, ↓e_xorF, ↓e_ltF, ↓e_leF, ↓e_gtF, ↓e_geF, ↓e_addF, ↓e_eqF, ↓e_neF, ↓e_negF, ↓e_addFs, ↓e_eqFs, ↓e_neFs, ↓e_addFll, ↓e_addFlb, ↓e_addFbl, ↓e_addFbb, ↓e_eqFll, ↓e_neFll, ↓e_eqFtt, ↓e_neFtt, ↓e_eqFlb, ↓e_neFlb, ↓e_eqFbl, ↓e_neFbl, ↓e_eqFbb, ↓e_neFbb, ↓e_isF, ↓e_isnF, ↓e_isFb, ↓e_isnFb, ↓e_nx_non, ↓e_nn_non, ↓e_tag_non, ↓e_nx_bl, ↓e_nn_bl, ↓e_tag_bl, ↓e_nx_int, ↓e_nn_int, ↓e_tag_int, ↓e_nx_str, ↓e_nn_str, ↓e_tag_str, ↓e_nx_lst, ↓e_nn_lst, ↓e_tag_lst, ↓e_nx_tup, ↓e_nn_tup, ↓e_tag_tup, ↓e_nx_ins, ↓e_nn_ins, ↓e_ixF, ↓e_sl1, ↓e_sl2, ↓e_lenF, ↓e_lenTl, ↓e_lenTt, ↓e_lenTs, ↓e_absF, ↓e_minF, ↓e_dvmF, ↓e_strIF, ↓e_lstFt, ↓e_lstFl, ↓e_lstFb, ↓e_isiC, ↓e_isiF, ↓e_seqC, ↓e_nextC, ↓e_neverC, ↓e_asgFv, ↓e_asgFo, ↓e_asgC, ↓e_asgV, ↓e_retC, ↓e_retO0, ↓e_retOs, ↓e_retN, ↓e_dropC, ↓e_ifC, ↓e_frzC, ↓e_frz1o, ↓e_frz1v, ↓e_frz1n, ↓e_parC, ↓e_pairF, ↓e_oneF, ↓e_intF, ↓e_upC, ↓e_upF, ↓e_sqFl, ↓e_sqFt, ↓e_valF, ↓e_ownF0, ↓e_ownFs, ↓e_appC, ↓e_appF, ↓e_gN, ↓e_gTs, ↓e_call0, ↓e_call1, ↓e_call2, ↓e_call3, ↓e_call4, ↓e_call5, ↓e_call6, ↓e_call7, e_ty_none_int, e_ty_none_bool, e_ty_none_str, e_ty_none_list, e_ty_none_tuple, e_ty_int_int, e_ty_int_bool, e_ty_int_str, e_ty_int_list, e_ty_int_tuple, e_ty_bool_int, e_ty_bool_bool, e_ty_bool_str, e_ty_bool_list, e_ty_bool_tuple, e_ty_str_int, e_ty_str_bool, e_ty_str_str, e_ty_str_list, e_ty_str_tuple, e_ty_list_int, e_ty_list_bool, e_ty_list_str, e_ty_list_list, e_ty_list_tuple, e_ty_tuple_int, e_ty_tuple_bool, e_ty_tuple_str, e_ty_tuple_list, e_ty_tuple_tuple, e_pow18, e_pow17, e_pow9, e_nb0, e_nbv, e_nbo, decide_eq_true_eq, Bool.not_eq_true', decide_eq_false_iff_not, ne_eq, not_false_eq_true, not_true_eq_false, atT0, atT1, atT2, atL0, atL1, atL2, eq_self, List.set_cons_succ, List.set_cons_zero, List.getElem?_cons_succ, List.getElem?_cons_zero, List.length_cons, List.length_nil, List.map_cons, List.map_nil, List.isEmpty_cons, List.isEmpty_nil, List.zip_cons_cons, List.zip_nil_right, List.foldl_cons, List.foldl_nil, List.nil_append, List.cons_append, if_true, if_false, Bool.not_true, Bool.not_false, true_and, and_true, exists_eq_left', exists_eq_left, Option.some.injEq, Bool.false_eq_true, Bool.true_eq_false, reduceIte, ex, u_draw]
      refine ⟨by omega, by decide, by decide, ?_⟩
      split
      · exact ⟨by omega, by decide, by decide, (1 + drawF c 2 200).toNat, by rw [Int.toNat_of_nonneg (by omega)], by omega, by omega⟩
      · exact ⟨(1 + drawF c 0 9).toNat, by rw [Int.toNat_of_nonneg (by omega)], by omega, by omega⟩
    rintro ρ ⟨w, rfl, hw, lw⟩
    refine r_seq ?_
    simp only [↓e_f_val, ↓e_f_own, ↓e_f_bor, ↓e_t_val, ↓e_t_own, ↓e_t_bor, ↓e_varC0, ↓e_varC0o, ↓e_varCs, ↓e_cstC, ↓e_binC, ↓e_unC, ↓e_nilA, ↓e_consA, ↓e_tupC, ↓e_lstC, ↓e_callC, ↓e_callX, ↓e_dflA, ↓e_blC, ↓e_truC, ↓e_tstC, ↓e_truB, ↓e_truN, ↓e_truI, ↓e_truL, ↓e_truT, ↓e_truO, ↓e_blF, ↓e_andC, ↓e_orC, ↓e_notC, ↓e_andV, ↓e_orV, ↓e_notV, ↓e_iteC, ↓e_chnC, ↓e_subF, ↓e_mulF, ↓e_fdvF, ↓e_modF, ↓e_fdvZF, ↓e_modZF, ↓e_powF, ↓e_shlF, ↓e_shrF, ↓e_andF, ↓e_orF, ↓e_xorF, ↓e_ltF, ↓e_leF, ↓e_gtF, ↓e_geF, ↓e_addF, ↓e_eqF, ↓e_neF, ↓e_negF, ↓e_addFs, ↓e_eqFs, ↓e_neFs, ↓e_addFll, ↓e_addFlb, ↓e_addFbl, ↓e_addFbb, ↓e_eqFll, ↓e_neFll, ↓e_eqFtt, ↓e_neFtt, ↓e_eqFlb, ↓e_neFlb, ↓e_eqFbl, ↓e_neFbl, ↓e_eqFbb, ↓e_neFbb, ↓e_isF, ↓e_isnF, ↓e_isFb, ↓e_isnFb, ↓e_nx_non, ↓e_nn_non, ↓e_tag_non, ↓e_nx_bl, ↓e_nn_bl, ↓e_tag_bl, ↓e_nx_int, ↓e_nn_int, ↓e_tag_int, ↓e_nx_str, ↓e_nn_str, ↓e_tag_str, ↓e_nx_lst, ↓e_nn_lst, ↓e_tag_lst, ↓e_nx_tup, ↓e_nn_tup, ↓e_tag_tup, ↓e_nx_ins, ↓e_nn_ins, ↓e_ixF, ↓e_sl1, ↓e_sl2, ↓e_lenF, ↓e_lenTl, ↓e_lenTt, ↓e_lenTs, ↓e_absF, ↓e_minF, ↓e_dvmF, ↓e_strIF, ↓e_lstFt, ↓e_lstFl, ↓e_lstFb, ↓e_isiC, ↓e_isiF, ↓e_seqC, ↓e_nextC, ↓e_neverC, ↓e_asgFv, ↓e_asgFo, ↓e_asgC, ↓e_asgV, ↓e_retC, ↓e_retO0, ↓e_retOs, ↓e_retN, ↓e_dropC, ↓e_ifC, ↓e_frzC, ↓e_frz1o, ↓e_frz1v, ↓e_frz1n, ↓e_parC, ↓e_pairF, ↓e_oneF, ↓e_intF, ↓e_upC, ↓e_upF, ↓e_sqFl, ↓e_sqFt, ↓e_valF, ↓e_ownF0, ↓e_ownFs, ↓e_appC, ↓e_appF, ↓e_gN, ↓e_gTs, ↓e_call0, ↓e_call1, ↓e_call2, ↓e_call3, ↓e_call4, ↓e_call5, ↓e_call6, ↓e_call7, e_ty_none_int, e_ty_none_bool, e_ty_none_str, e_ty_none_list, e_ty_none_tuple, e_ty_int_int, e_ty_int_bool, e_ty_int_str, e_ty_int_list, e_ty_int_tuple, e_ty_bool_int, e_ty_bool_bool, e_ty_bool_str, e_ty_bool_list, e_ty_bool_tuple, e_ty_str_int, e_ty_str_bool, e_ty_str_str, e_ty_str_list, e_ty_str_tuple, e_ty_list_int, e_ty_list_bool, e_ty_list_str, e_ty_list_list, e_ty_list_tuple, e_ty_tuple_int, e_ty_tuple_bool, e_ty_tuple_str, e_ty_tuple_list, e_ty_tuple_tuple, e_pow18, e_pow17, e_pow9, e_nb0, e_nbv, e_nbo, decide_eq_true_eq, Bool.not_eq_true', decide_eq_false_iff_not, ne_eq, not_false_eq_true, not_true_eq_false, atT0, atT1, atT2, atL0, atL1, atL2, eq_self, List.set_cons_succ, List.set_cons_zero, List.getElem?_cons_succ, List.getElem?_cons_zero, List.length_cons, List.length_nil, List.map_cons, List.map_nil, List.isEmpty_cons, List.isEmpty_nil, List.zip_cons_cons, List.zip_nil_right, List.foldl_cons, List.foldl_nil, List.nil_append, List.cons_append, if_true, if_false, Bool.not_true, Bool.not_false, true_and, and_true, exists_eq_left', exists_eq_left, Option.some.injEq, Bool.false_eq_true, Bool.true_eq_false, reduceIte]
    refine r_seq (r_forR (fun m ρ => ∃ (n : Nat) (o5 : Option Sl), ρ = [some (.val (.scr ns)), some (.val (.int i)), some (.val (.int c)), some (.val (.int w)), some (.val (.int n)), o5, o6, o7] ∧ n < 2 ^ m) (m := w) ?_ ?_ ⟨0, o5, rfl, by decide⟩ ?_ ?_)
    · intro k h
      simp only [↓e_f_val, ↓e_f_own, ↓e_f_bor, ↓e_t_val, ↓e_t_own, ↓e_t_bor, ↓e_varC0, ↓e_varC0o, ↓e_varCs, ↓e_cstC, ↓e_binC, ↓e_unC, ↓e_nilA, ↓e_consA, ↓e_tupC, ↓e_lstC, ↓e_callC, ↓e_callX, ↓e_dflA, ↓e_blC, ↓e_truC, ↓e_tstC, ↓e_truB, ↓e_truN, ↓e_truI, ↓e_truL, ↓e_truT, ↓e_truO, ↓e_blF, ↓e_andC, ↓e_orC, ↓e_notC, ↓e_andV, ↓e_orV, ↓e_notV, ↓e_iteC, ↓e_chnC, ↓e_subF, ↓e_mulF, ↓e_fdvF, ↓e_modF, ↓e_fdvZF, ↓e_modZF, ↓e_powF, ↓e_shlF, ↓e_shrF, ↓e_andF, ↓e_orF, ↓e_xorF, ↓e_ltF, ↓e_leF, ↓e_gtF, ↓e_geF, ↓e_addF, ↓e_eqF, ↓e_neF, ↓e_negF, ↓e_addFs, ↓e_eqFs, ↓e_neFs, ↓e_addFll, ↓e_addFlb, ↓e_addFbl, ↓e_addFbb, ↓e_eqFll, ↓e_neFll, ↓e_eqFtt, ↓e_neFtt, ↓e_eqFlb, ↓e_neFlb, ↓e_eqFbl, ↓e_neFbl, ↓e_eqFbb, ↓e_neFbb, ↓e_isF, ↓e_isnF, ↓e_isFb, ↓e_isnFb, ↓e_nx_non, ↓e_nn_non, ↓e_tag_non, ↓e_nx_bl, ↓e_nn_bl, ↓e_tag_bl, ↓e_nx_int, ↓e_nn_int, ↓e_tag_int, ↓e_nx_str, ↓e_nn_str, ↓e_tag_str, ↓e_nx_lst, ↓e_nn_lst, ↓e_tag_lst, ↓e_nx_tup, ↓e_nn_tup, ↓e_tag_tup, ↓e_nx_ins, ↓e_nn_ins, ↓e_ixF, ↓e_sl1, ↓e_sl2, ↓e_lenF, ↓e_lenTl, ↓e_lenTt, ↓e_lenTs, ↓e_absF, ↓e_minF, ↓e_dvmF, ↓e_strIF, ↓e_lstFt, ↓e_lstFl, ↓e_lstFb, ↓e_isiC, ↓e_isiF, ↓e_seqC, ↓e_nextC, ↓e_neverC, ↓e_asgFv, ↓e_asgFo, ↓e_asgC, ↓e_asgV, ↓e_retC, ↓e_retO0, ↓e_retOs, ↓e_retN, ↓e_dropC, ↓e_ifC, ↓e_frzC, ↓e_frz1o, ↓e_frz1v, ↓e_frz1n, ↓e_parC, ↓e_pairF, ↓e_oneF, ↓e_intF, ↓e_upC, ↓e_upF, ↓e_sqFl, ↓e_sqFt, ↓e_valF, ↓e_ownF0, ↓e_ownFs, ↓e_appC, ↓e_appF, ↓e_gN, ↓e_gTs, ↓e_call0, ↓e_call1, ↓e_call2, ↓e_call3, ↓e_call4, ↓e_call5, ↓e_call6, ↓e_call7, e_ty_none_int, e_ty_none_bool, e_ty_none_str, e_ty_none_list, e_ty_none_tuple, e_ty_int_int, e_ty_int_bool, e_ty_int_str, e_ty_int_list, e_ty_int_tuple, e_ty_bool_int, e_ty_bool_bool, e_ty_bool_str, e_ty_bool_list, e_ty_bool_tuple, e_ty_str_int, e_ty_str_bool, e_ty_str_str, e_ty_str_list, e_ty_str_tuple, e_ty_list_int, e_ty_list_bool, e_ty_list_str, e_ty_list_list, e_ty_list_tuple, e_ty_tuple_int, e_ty_tuple_bool, e_ty_tuple_str, e_ty_tuple_list, e_ty_tuple_tuple, e_pow18, e_pow17, e_pow9, e_nb0, e_nbv, e_nbo, decide_eq_true_eq, Bool.not_eq_true', decide_eq_false_iff_not, ne_eq, not_false_eq_true, not_true_eq_false, atT0, atT1, atT2, atL0, atL1, atL2, eq_self, List.set_cons_succ, List.set_cons_zero, List.getElem?_cons_succ, List.getElem?_cons_zero, List.length_cons, List.length_nil, List.map_cons, List.map_nil, List.isEmpty_cons, List.isEmpty_nil, List.zip_cons_cons, List.zip_nil_right, List.foldl_cons, List.foldl_nil, List.nil_append, List.cons_append, if_true, if_false, Bool.not_true, Bool.not_false, true_and, and_true, exists_eq_left', exists_eq_left, Option.some.injEq, Bool.false_eq_true, Bool.true_eq_false, reduceIte]
      exact h
    · omega
    · rintro m ρ hm ⟨n, o5, rfl, hn⟩
      rw [Int.toNat_natCast] at hm
      have hd := draw_nn (c := c + 31 * m) (k := 3 + (m : Int) % 3) (show (0 : Int) < 2 by decide)
      have hd2 := draw_lt (c := c + 31 * m) (k := 3 + (m : Int) % 3) (show (0 : Int) < 2 by decide)
      have b31 : bits (31 * (m : Int)) ≤ 14 := bits_b 6200 (by decide) (by omega)
      have b1 : CShl 1 (m : Int) := shlx (m := 1) (bits_le (by decide)) (by omega) (by omega)
      have hb1 := bits_add c (31 * m)
      have e2 : (1 : Int) * 2 ^ m = ((2 ^ m : Nat) : Int) := by rw [pow2_cast, Int.one_mul]
      simp only [↓e_f_val, ↓e_f_own, ↓e_f_bor, ↓e_t_val, ↓e_t_own, ↓e_t_bor, ↓e_varC0, ↓e_varC0o, ↓e_varCs, ↓e_cstC, ↓e_binC, ↓e_unC, ↓e_nilA, ↓e_consA, ↓e_tupC, ↓e_lstC, ↓e_callC, ↓e_callX, ↓e_dflA, ↓e_blC, ↓e_truC, ↓e_tstC, ↓e_truB, ↓e_truN, ↓e_truI, ↓e_truL, ↓e_truT, ↓e_truO, ↓e_blF, ↓e_andC, ↓e_orC, ↓e_notC, ↓e_andV, ↓e_orV, ↓e_notV, ↓e_iteC, ↓e_chnC, ↓e_subF, ↓e_mulF, ↓e_fdvF, ↓e_modF, ↓e_fdvZF, ↓e_modZF, ↓e_powF, ↓e_shlF, ↓e_shrF, ↓e_andF, ↓e_orF, ↓e_xorF, ↓e_ltF, ↓e_leF, ↓e_gtF, ↓e_geF, ↓e_addF, ↓e_eqF, ↓e_neF, ↓e_negF, ↓e_addFs, ↓e_eqFs, ↓e_neFs, ↓e_addFll, ↓e_addFlb, ↓e_addFbl, ↓e_addFbb, ↓e_eqFll, ↓e_neFll, ↓e_eqFtt, ↓e_neFtt, ↓e_eqFlb, ↓e_neFlb, ↓e_eqFbl, ↓e_neFbl, ↓e_eqFbb, ↓e_neFbb, ↓e_isF, ↓e_isnF, ↓e_isFb, ↓e_isnFb, ↓e_nx_non, ↓e_nn_non, ↓e_tag_non, ↓e_nx_bl, ↓e_nn_bl, ↓e_tag_bl, ↓e_nx_int, ↓e_nn_int, ↓e_tag_int, ↓e_nx_str, ↓e_nn_str, ↓e_tag_str, ↓e_nx_lst, ↓e_nn_lst, ↓e_tag_lst, ↓e_nx_tup, ↓e_nn_tup, ↓e_tag_tup, ↓e_nx_ins, ↓e_nn_ins, ↓e_ixF, ↓e_sl1, ↓e_sl2, ↓e_lenF, ↓e_lenTl, ↓e_lenTt, ↓e_lenTs, ↓e_absF, ↓e_minF, ↓e_dvmF, ↓e_strIF, ↓e_lstFt, ↓e_lstFl, ↓e_lstFb, ↓e_isiC, ↓e_isiF, ↓e_seqC, ↓e_nextC, ↓e_neverC, ↓e_asgFv, ↓e_asgFo, ↓e_asgC, ↓e_asgV, ↓e_retC, ↓e_retO0, ↓e_retOs, ↓e_retN, ↓e_dropC, ↓e_ifC, ↓e_frzC, ↓e_frz1o, ↓e_frz1v, ↓e_frz1n, ↓e_parC, ↓e_pairF, ↓e_oneF, ↓e_intF, ↓e_upC, ↓e_upF, ↓e_sqFl, ↓e_sqFt, ↓e_valF, ↓e_ownF0, ↓e_ownFs, ↓e_appC, ↓e_appF, ↓e_gN, ↓e_gTs, ↓e_call0, ↓e_call1, ↓e_call2, ↓e_call3, ↓e_call4, ↓e_call5, ↓e_call6, ↓e_call7, e_ty_none_int, e_ty_none_bool, e_ty_none_str, e_ty_none_list, e_ty_none_tuple, e_ty_int_int, e_ty_int_bool, e_ty_int_str, e_ty_int_list, e_ty_int_tuple, e_ty_bool_int, e_ty_bool_bool, e_ty_bool_str, e_ty_bool_list, e_ty_bool_tuple, e_ty_str_int, e_ty_str_bool, e_ty_str_str, e_ty_str_list, e_ty_str_tuple, e_ty_list_int, e_ty_list_bool, e_ty_list_str, e_ty_list_list, e_ty_list_tuple, e_ty_tuple_int, e_ty_tuple_bool, e_ty_tuple_str, e_ty_tuple_list, e_ty_tuple_tuple, e_pow18, e_pow17, e_pow9, e_nb0, e_nbv, e_nbo, decide_eq_true_eq, Bool.not_eq_true', decide_eq_false_iff_not, ne_eq, not_false_eq_true, not_true_eq_false, atT0, atT1, atT2, atL0, atL1, atL2, eq_self, List.set_cons_succ, List.set_cons_zero, List.getElem?_cons_succ, List.getElem?_cons_zero, List.length_cons, List.length_nil, List.map_cons, List.map_nil, List.isEmpty_cons, List.isEmpty_nil, List.zip_cons_cons, List.zip_nil_right, List.foldl_cons, List.foldl_nil, List.nil_append, List.cons_append, if_true, if_false, Bool.not_true, Bool.not_false, true_and, and_true, exists_eq_left', exists_eq_left, Option.some.injEq, Bool.false_eq_true, Bool.true_eq_false, reduceIte, u_draw, Int.toNat_natCast, e2]
      refine ⟨mulx (m := 5) (n := 8) (bits_le (by decide)) (bits_b 200 (by decide) (by omega)) (by decide), by decide, by omega, bits_b 5 (by decide) (by omega), by decide, b1, mulx (m := 1) (n := m + 1) (bits_b 1 (by decide) (by omega)) (bits_le (by rw [Int.natAbs_natCast, Nat.pow_succ]; have : 0 < 2 ^ m := Nat.pow_pos (by decide); omega)) (by omega), n + (drawF (c + 31 * m) (3 + (m : Int) % 3) 2).toNat * 2 ^ m, some (.val (.int m)), ?_, ?_⟩
      · rw [Int.natCast_add, Int.natCast_mul, Int.toNat_of_nonneg hd]
      · have h3 : (drawF (c + 31 * m) (3 + (m : Int) % 3) 2).toNat ≤ 1 := by omega
        have h4 := Nat.mul_le_mul_right (2 ^ m) h3
        rw [Nat.pow_succ]
        omega
    · rintro ρ ⟨n, o5, rfl, hn⟩
      rw [Int.toNat_natCast] at hn
      have e2 : (1 : Int) * 2 ^ w = ((2 ^ w : Nat) : Int) := by rw [pow2_cast, Int.one_mul]
      have hr := rot_lt n (farF x % w).toNat w
      have f1 : CShl 1 (w : Int) := shlx (m := 1) (bits_le (by decide)) (by omega) (by omega)
      simp only [↓e_f_val, ↓e_f_own, ↓e_f_bor, ↓e_t_val, ↓e_t_own, ↓e_t_bor, ↓e_varC0, ↓e_varC0o, ↓e_varCs, ↓e_cstC, ↓e_binC, ↓e_unC, ↓e_nilA, ↓e_consA, ↓e_tupC, ↓e_lstC, ↓e_callC, ↓e_callX, ↓e_dflA, ↓e_blC, ↓e_truC, ↓e_tstC, ↓e_truB, ↓e_truN, ↓e_truI, ↓e_truL, ↓e_truT, ↓e_truO, ↓e_blF, ↓e_andC, ↓e_orC, ↓e_notC, ↓e_andV, ↓e_orV, ↓e_notV, ↓e_iteC, ↓e_chnC, ↓e_subF, ↓e_mulF, ↓e_fdvF, ↓e_modF, ↓e_fdvZF, ↓e_modZF, ↓e_powF, ↓e_shlF, ↓e_shrF, ↓e_andF, ↓e_orF, ↓e_xorF, ↓e_ltF, ↓e_leF, ↓e_gtF, ↓e_geF, ↓e_addF, ↓e_eqF, ↓e_neF, ↓e_negF, ↓e_addFs, ↓e_eqFs, ↓e_neFs, ↓e_addFll, ↓e_addFlb, ↓e_addFbl, ↓e_addFbb, ↓e_eqFll, ↓e_neFll, ↓e_eqFtt, ↓e_neFtt, ↓e_eqFlb, ↓e_neFlb, ↓e_eqFbl, ↓e_neFbl, ↓e_eqFbb, ↓e_neFbb, ↓e_isF, ↓e_isnF, ↓e_isFb, ↓e_isnFb, ↓e_nx_non, ↓e_nn_non, ↓e_tag_non, ↓e_nx_bl, ↓e_nn_bl, ↓e_tag_bl, ↓e_nx_int, ↓e_nn_int, ↓e_tag_int, ↓e_nx_str, ↓e_nn_str, ↓e_tag_str, ↓e_nx_lst, ↓e_nn_lst, ↓e_tag_lst, ↓e_nx_tup, ↓e_nn_tup, ↓e_tag_tup, ↓e_nx_ins, ↓e_nn_ins, ↓e_ixF, ↓e_sl1, ↓e_sl2, ↓e_lenF, ↓e_lenTl, ↓e_lenTt, ↓e_lenTs, ↓e_absF, ↓e_minF, ↓e_dvmF, ↓e_strIF, ↓e_lstFt, ↓e_lstFl, ↓e_lstFb, ↓e_isiC, ↓e_isiF, ↓e_seqC, ↓e_nextC, ↓e_neverC, ↓e_asgFv, ↓e_asgFo, ↓e_asgC, ↓e_asgV, ↓e_retC, ↓e_retO0, ↓e_retOs, ↓e_retN, ↓e_dropC, ↓e_ifC, ↓e_frzC, ↓e_frz1o, ↓e_frz1v, ↓e_frz1n, ↓e_parC, ↓e_pairF, ↓e_oneF, ↓e_intF, ↓e_upC, ↓e_upF, ↓e_sqFl, ↓e_sqFt, ↓e_valF, ↓e_ownF0, ↓e_ownFs, ↓e_appC, ↓e_appF, ↓e_gN, ↓e_gTs, ↓e_call0, ↓e_call1, ↓e_call2, ↓e_call3, ↓e_call4, ↓e_call5, ↓e_call6, ↓e_call7, e_ty_none_int, e_ty_none_bool, e_ty_none_str, e_ty_none_list, e_ty_none_tuple, e_ty_int_int, e_ty_int_bool, e_ty_int_str, e_ty_int_list, e_ty_int_tuple, e_ty_bool_int, e_ty_bool_bool, e_ty_bool_str, e_ty_bool_list, e_ty_bool_tuple, e_ty_str_int, e_ty_str_bool, e_ty_str_str, e_ty_str_list, e_ty_str_tuple, e_ty_list_int, e_ty_list_bool, e_ty_list_str, e_ty_list_list, e_ty_list_tuple, e_ty_tuple_int, e_ty_tuple_bool, e_ty_tuple_str, e_ty_tuple_list, e_ty_tuple_tuple, e_pow18, e_pow17, e_pow9, e_nb0, e_nbv, e_nbo, decide_eq_true_eq, Bool.not_eq_true', decide_eq_false_iff_not, ne_eq, not_false_eq_true, not_true_eq_false, atT0, atT1, atT2, atL0, atL1, atL2, eq_self, List.set_cons_succ, List.set_cons_zero, List.getElem?_cons_succ, List.getElem?_cons_zero, List.length_cons, List.length_nil, List.map_cons, List.map_nil, List.isEmpty_cons, List.isEmpty_nil, List.zip_cons_cons, List.zip_nil_right, List.foldl_cons, List.foldl_nil, List.nil_append, List.cons_append, if_true, if_false, Bool.not_true, Bool.not_false, true_and, and_true, exists_eq_left', exists_eq_left, Option.some.injEq, Bool.false_eq_true, Bool.true_eq_false, reduceIte, ex, u_far, u_turned, Int.toNat_natCast, e2]
      refine ⟨hw, by omega, hn, ?_⟩
      rw [if_neg (by omega)]
      refine ⟨f1, ?_⟩
      rw [if_neg (by omega)]
      refine r_forR (fun m ρ => ∃ (o5 : Option Sl), ρ = [some (.val (.scr ns)), some (.val (.int i)), some (.val (.int c)), some (.val (.int w)), some (.val (.int n)), o5, some (.val (.int (farF x))), some (.val (.int (rot n (farF x % w).toNat w)))]) (m := w) ?_ ?_ ⟨o5, rfl⟩ ?_ ?_
      · intro k h
        simp only [↓e_f_val, ↓e_f_own, ↓e_f_bor, ↓e_t_val, ↓e_t_own, ↓e_t_bor, ↓e_varC0, ↓e_varC0o, ↓e_varCs, ↓e_cstC, ↓e_binC, ↓e_unC, ↓e_nilA, ↓e_consA, ↓e_tupC, ↓e_lstC, ↓e_callC, ↓e_callX, ↓e_dflA, ↓e_blC, ↓e_truC, ↓e_tstC, ↓e_truB, ↓e_truN, ↓e_truI, ↓e_truL, ↓e_truT, ↓e_truO, ↓e_blF, ↓e_andC, ↓e_orC, ↓e_notC, ↓e_andV, ↓e_orV, ↓e_notV, ↓e_iteC, ↓e_chnC, ↓e_subF, ↓e_mulF, ↓e_fdvF, ↓e_modF, ↓e_fdvZF, ↓e_modZF, ↓e_powF, ↓e_shlF, ↓e_shrF, ↓e_andF, ↓e_orF, ↓e_xorF, ↓e_ltF, ↓e_leF, ↓e_gtF, ↓e_geF, ↓e_addF, ↓e_eqF, ↓e_neF, ↓e_negF, ↓e_addFs, ↓e_eqFs, ↓e_neFs, ↓e_addFll, ↓e_addFlb, ↓e_addFbl, ↓e_addFbb, ↓e_eqFll, ↓e_neFll, ↓e_eqFtt, ↓e_neFtt, ↓e_eqFlb, ↓e_neFlb, ↓e_eqFbl, ↓e_neFbl, ↓e_eqFbb, ↓e_neFbb, ↓e_isF, ↓e_isnF, ↓e_isFb, ↓e_isnFb, ↓e_nx_non, ↓e_nn_non, ↓e_tag_non, ↓e_nx_bl, ↓e_nn_bl, ↓e_tag_bl, ↓e_nx_int, ↓e_nn_int, ↓e_tag_int, ↓e_nx_str, ↓e_nn_str, ↓e_tag_str, ↓e_nx_lst, ↓e_nn_lst, ↓e_tag_lst, ↓e_nx_tup, ↓e_nn_tup, ↓e_tag_tup, ↓e_nx_ins, ↓e_nn_ins, ↓e_ixF, ↓e_sl1, ↓e_sl2, ↓e_lenF, ↓e_lenTl, ↓e_lenTt, ↓e_lenTs, ↓e_absF, ↓e_minF, ↓e_dvmF, ↓e_strIF, ↓e_lstFt, ↓e_lstFl, ↓e_lstFb, ↓e_isiC, ↓e_isiF, ↓e_seqC, ↓e_nextC, ↓e_neverC, ↓e_asgFv, ↓e_asgFo, ↓e_asgC, ↓e_asgV, ↓e_retC, ↓e_retO0, ↓e_retOs, ↓e_retN, ↓e_dropC, ↓e_ifC, ↓e_frzC, ↓e_frz1o, ↓e_frz1v, ↓e_frz1n, ↓e_parC, ↓e_pairF, ↓e_oneF, ↓e_intF, ↓e_upC, ↓e_upF, ↓e_sqFl, ↓e_sqFt, ↓e_valF, ↓e_ownF0, ↓e_ownFs, ↓e_appC, ↓e_appF, ↓e_gN, ↓e_gTs, ↓e_call0, ↓e_call1, ↓e_call2, ↓e_call3, ↓e_call4, ↓e_call5, ↓e_call6, ↓e_call7, e_ty_none_int, e_ty_none_bool, e_ty_none_str, e_ty_none_list, e_ty_none_tuple, e_ty_int_int, e_ty_int_bool, e_ty_int_str, e_ty_int_list, e_ty_int_tuple, e_ty_bool_int, e_ty_bool_bool, e_ty_bool_str, e_ty_bool_list, e_ty_bool_tuple, e_ty_str_int, e_ty_str_bool, e_ty_str_str, e_ty_str_list, e_ty_str_tuple, e_ty_list_int, e_ty_list_bool, e_ty_list_str, e_ty_list_list, e_ty_list_tuple, e_ty_tuple_int, e_ty_tuple_bool, e_ty_tuple_str, e_ty_tuple_list, e_ty_tuple_tuple, e_pow18, e_pow17, e_pow9, e_nb0, e_nbv, e_nbo, decide_eq_true_eq, Bool.not_eq_true', decide_eq_false_iff_not, ne_eq, not_false_eq_true, not_true_eq_false, atT0, atT1, atT2, atL0, atL1, atL2, eq_self, List.set_cons_succ, List.set_cons_zero, List.getElem?_cons_succ, List.getElem?_cons_zero, List.length_cons, List.length_nil, List.map_cons, List.map_nil, List.isEmpty_cons, List.isEmpty_nil, List.zip_cons_cons, List.zip_nil_right, List.foldl_cons, List.foldl_nil, List.nil_append, List.cons_append, if_true, if_false, Bool.not_true, Bool.not_false, true_and, and_true, exists_eq_left', exists_eq_left, Option.some.injEq, Bool.false_eq_true, Bool.true_eq_false, reduceIte]
        exact h
      · omega
      · rintro m ρ hm ⟨o5, rfl⟩
        rw [Int.toNat_natCast] at hm
        have h0 := Int.emod_nonneg (m + farF x) (show (w : Int) ≠ 0 by omega)
        have h1 := Int.emod_lt_of_pos (m + farF x) (show (0 : Int) < w by omega)
        have es : ((m + farF x) % (w : Int)).toNat = (m + (farF x % w).toNat) % w := by
          have h2 := Int.emod_nonneg (farF x) (show (w : Int) ≠ 0 by omega)
          apply Int.ofNat.inj
          show (((m + farF x) % (w : Int)).toNat : Int) = (((m + (farF x % w).toNat) % w : Nat) : Int)
          rw [Int.toNat_of_nonneg h0, Int.natCast_emod, Int.natCast_add, Int.toNat_of_nonneg h2, Int.add_emod_emod]
        have hs : (farF x % (w : Int)).toNat < w := by
          have := Int.emod_lt_of_pos (farF x) (show (0 : Int) < w by omega)
          omega
        have b1 : ∀ j : Nat, j < 200 → CDivW (rot n (farF x % w).toNat w : Nat) ((2 : Int) ^ j) ∧ CDivW (n : Int) ((2 : Int) ^ j) := fun j hj => by
          have hp : (0 : Int) < 2 ^ j := by rw [pow2_cast]; exact Int.natCast_pos.mpr (Nat.pow_pos (by decide))
          have hb : bits ((2 : Int) ^ j) < 9000 := Nat.lt_of_le_of_lt (m := j + 1) (bits_le (by rw [pow2_cast, Int.natAbs_natCast, Nat.pow_succ]; have : 0 < 2 ^ j := Nat.pow_pos (by decide); omega)) (by omega)
          exact ⟨cdivw hp hb, cdivw hp hb⟩
        simp only [↓e_f_val, ↓e_f_own, ↓e_f_bor, ↓e_t_val, ↓e_t_own, ↓e_t_bor, ↓e_varC0, ↓e_varC0o, ↓e_varCs, ↓e_cstC, ↓e_binC, ↓e_unC, ↓e_nilA, ↓e_consA, ↓e_tupC, ↓e_lstC, ↓e_callC, ↓e_callX, ↓e_dflA, ↓e_blC, ↓e_truC, ↓e_tstC, ↓e_truB, ↓e_truN, ↓e_truI, ↓e_truL, ↓e_truT, ↓e_truO, ↓e_blF, ↓e_andC, ↓e_orC, ↓e_notC, ↓e_andV, ↓e_orV, ↓e_notV, ↓e_iteC, ↓e_chnC, ↓e_subF, ↓e_mulF, ↓e_fdvF, ↓e_modF, ↓e_fdvZF, ↓e_modZF, ↓e_powF, ↓e_shlF, ↓e_shrF, ↓e_andF, ↓e_orF, ↓e_xorF, ↓e_ltF, ↓e_leF, ↓e_gtF, ↓e_geF, ↓e_addF, ↓e_eqF, ↓e_neF, ↓e_negF, ↓e_addFs, ↓e_eqFs, ↓e_neFs, ↓e_addFll, ↓e_addFlb, ↓e_addFbl, ↓e_addFbb, ↓e_eqFll, ↓e_neFll, ↓e_eqFtt, ↓e_neFtt, ↓e_eqFlb, ↓e_neFlb, ↓e_eqFbl, ↓e_neFbl, ↓e_eqFbb, ↓e_neFbb, ↓e_isF, ↓e_isnF, ↓e_isFb, ↓e_isnFb, ↓e_nx_non, ↓e_nn_non, ↓e_tag_non, ↓e_nx_bl, ↓e_nn_bl, ↓e_tag_bl, ↓e_nx_int, ↓e_nn_int, ↓e_tag_int, ↓e_nx_str, ↓e_nn_str, ↓e_tag_str, ↓e_nx_lst, ↓e_nn_lst, ↓e_tag_lst, ↓e_nx_tup, ↓e_nn_tup, ↓e_tag_tup, ↓e_nx_ins, ↓e_nn_ins, ↓e_ixF, ↓e_sl1, ↓e_sl2, ↓e_lenF, ↓e_lenTl, ↓e_lenTt, ↓e_lenTs, ↓e_absF, ↓e_minF, ↓e_dvmF, ↓e_strIF, ↓e_lstFt, ↓e_lstFl, ↓e_lstFb, ↓e_isiC, ↓e_isiF, ↓e_seqC, ↓e_nextC, ↓e_neverC, ↓e_asgFv, ↓e_asgFo, ↓e_asgC, ↓e_asgV, ↓e_retC, ↓e_retO0, ↓e_retOs, ↓e_retN, ↓e_dropC, ↓e_ifC, ↓e_frzC, ↓e_frz1o, ↓e_frz1v, ↓e_frz1n, ↓e_parC, ↓e_pairF, ↓e_oneF, ↓e_intF, ↓e_upC, ↓e_upF, ↓e_sqFl, ↓e_sqFt, ↓e_valF, ↓e_ownF0, ↓e_ownFs, ↓e_appC, ↓e_appF, ↓e_gN, ↓e_gTs, ↓e_call0, ↓e_call1, ↓e_call2, ↓e_call3, ↓e_call4, ↓e_call5, ↓e_call6, ↓e_call7, e_ty_none_int, e_ty_none_bool, e_ty_none_str, e_ty_none_list, e_ty_none_tuple, e_ty_int_int, e_ty_int_bool, e_ty_int_str, e_ty_int_list, e_ty_int_tuple, e_ty_bool_int, e_ty_bool_bool, e_ty_bool_str, e_ty_bool_list, e_ty_bool_tuple, e_ty_str_int, e_ty_str_bool, e_ty_str_str, e_ty_str_list, e_ty_str_tuple, e_ty_list_int, e_ty_list_bool, e_ty_list_str, e_ty_list_list, e_ty_list_tuple, e_ty_tuple_int, e_ty_tuple_bool, e_ty_tuple_str, e_ty_tuple_list, e_ty_tuple_tuple, e_pow18, e_pow17, e_pow9, e_nb0, e_nbv, e_nbo, decide_eq_true_eq, Bool.not_eq_true', decide_eq_false_iff_not, ne_eq, not_false_eq_true, not_true_eq_false, atT0, atT1, atT2, atL0, atL1, atL2, eq_self, List.set_cons_succ, List.set_cons_zero, List.getElem?_cons_succ, List.getElem?_cons_zero, List.length_cons, List.length_nil, List.map_cons, List.map_nil, List.isEmpty_cons, List.isEmpty_nil, List.zip_cons_cons, List.zip_nil_right, List.foldl_cons, List.foldl_nil, List.nil_append, List.cons_append, if_true, if_false, Bool.not_true, Bool.not_false, true_and, and_true, exists_eq_left', exists_eq_left, Option.some.injEq, Bool.false_eq_true, Bool.true_eq_false, reduceIte, Int.toNat_natCast, Int.one_mul]
        rw [es, bit_div, bit_div, rot_bit hn hs hm]
        have hq : (m + (farF x % (w : Int)).toNat) % w < w := Nat.mod_lt _ hw
        refine ⟨by omega, shlx (m := 1) (bits_le (by decide)) h0 (by omega), (b1 _ (by omega)).1, by decide, shlx (m := 1) (bits_le (by decide)) (by omega) (by omega), (b1 _ (by omega)).2, by decide, ?_⟩
        rw [if_neg (fun z => z rfl)]
        exact ⟨_, rfl⟩
      · rintro ρ ⟨o5, rfl⟩
        exact ⟨_, _, _, _, _, _, _, rfl⟩
  · rintro ρ ⟨o1, o2, o3, o4, o5, o6, o7, rfl⟩
    simp only [↓e_f_val, ↓e_f_own, ↓e_f_bor, ↓e_t_val, ↓e_t_own, ↓e_t_bor, ↓e_varC0, ↓e_varC0o, ↓e_varCs, ↓e_cstC, ↓e_binC, ↓e_unC, ↓e_nilA, ↓e_consA, ↓e_tupC, ↓e_lstC, ↓e_callC, ↓e_callX, ↓e_dflA, ↓e_blC, ↓e_truC, ↓e_tstC, ↓e_truB, ↓e_truN, ↓e_truI, ↓e_truL, ↓e_truT, ↓e_truO, ↓e_blF, ↓e_andC, ↓e_orC, ↓e_notC, ↓e_andV, ↓e_orV, ↓e_notV, ↓e_iteC, ↓e_chnC, ↓e_subF, ↓e_mulF, ↓e_fdvF, ↓e_modF, ↓e_fdvZF, ↓e_modZF, ↓e_powF, ↓e_shlF, ↓e_shrF, ↓e_andF, ↓e_orF, ↓e_xorF, ↓e_ltF, ↓e_leF, ↓e_gtF, ↓e_geF, ↓e_addF, ↓e_eqF, ↓e_neF, ↓e_negF, ↓e_addFs, ↓e_eqFs, ↓e_neFs, ↓e_addFll, ↓e_addFlb, ↓e_addFbl, ↓e_addFbb, ↓e_eqFll, ↓e_neFll, ↓e_eqFtt, ↓e_neFtt, ↓e_eqFlb, ↓e_neFlb, ↓e_eqFbl, ↓e_neFbl, ↓e_eqFbb, ↓e_neFbb, ↓e_isF, ↓e_isnF, ↓e_isFb, ↓e_isnFb, ↓e_nx_non, ↓e_nn_non, ↓e_tag_non, ↓e_nx_bl, ↓e_nn_bl, ↓e_tag_bl, ↓e_nx_int, ↓e_nn_int, ↓e_tag_int, ↓e_nx_str, ↓e_nn_str, ↓e_tag_str, ↓e_nx_lst, ↓e_nn_lst, ↓e_tag_lst, ↓e_nx_tup, ↓e_nn_tup, ↓e_tag_tup, ↓e_nx_ins, ↓e_nn_ins, ↓e_ixF, ↓e_sl1, ↓e_sl2, ↓e_lenF, ↓e_lenTl, ↓e_lenTt, ↓e_lenTs, ↓e_absF, ↓e_minF, ↓e_dvmF, ↓e_strIF, ↓e_lstFt, ↓e_lstFl, ↓e_lstFb, ↓e_isiC, ↓e_isiF, ↓e_seqC, ↓e_nextC, ↓e_neverC, ↓e_asgFv, ↓e_asgFo, ↓e_asgC, ↓e_asgV, ↓e_retC, ↓e_retO0, ↓e_retOs, ↓e_retN, ↓e_dropC, ↓e_ifC, ↓e_frzC, ↓e_frz1o, ↓e_frz1v, ↓e_frz1n, ↓e_parC, ↓e_pairF, ↓e_oneF, ↓e_intF, ↓e_upC, ↓e_upF, ↓e_sqFl, ↓e_sqFt, ↓e_valF, ↓e_ownF0, ↓e_ownFs, ↓e_appC, ↓e_appF, ↓e_gN, ↓e_gTs, ↓e_call0, ↓e_call1, ↓e_call2, ↓e_call3, ↓e_call4, ↓e_call5, ↓e_call6, ↓e_call7, e_ty_none_int, e_ty_none_bool, e_ty_none_str, e_ty_none_list, e_ty_none_tuple, e_ty_int_int, e_ty_int_bool, e_ty_int_str, e_ty_int_list, e_ty_int_tuple, e_ty_bool_int, e_ty_bool_bool, e_ty_bool_str, e_ty_bool_list, e_ty_bool_tuple, e_ty_str_int, e_ty_str_bool, e_ty_str_str, e_ty_str_list, e_ty_str_tuple, e_ty_list_int, e_ty_list_bool, e_ty_list_str, e_ty_list_list, e_ty_list_tuple, e_ty_tuple_int, e_ty_tuple_bool, e_ty_tuple_str, e_ty_tuple_list, e_ty_tuple_tuple, e_pow18, e_pow17, e_pow9, e_nb0, e_nbv, e_nbo, decide_eq_true_eq, Bool.not_eq_true', decide_eq_false_iff_not, ne_eq, not_false_eq_true, not_true_eq_false, atT0, atT1, atT2, atL0, atL1, atL2, eq_self, List.set_cons_succ, List.set_cons_zero, List.getElem?_cons_succ, List.getElem?_cons_zero, List.length_cons, List.length_nil, List.map_cons, List.map_nil, List.isEmpty_cons, List.isEmpty_nil, List.zip_cons_cons, List.zip_nil_right, List.foldl_cons, List.foldl_nil, List.nil_append, List.cons_append, if_true, if_false, Bool.not_true, Bool.not_false, true_and, and_true, exists_eq_left', exists_eq_left, Option.some.injEq, Bool.false_eq_true, Bool.true_eq_false, reduceIte]
    exact h
theorem e_law (ns : List Int) (hl : ns.length ≤ 63) (hb : ∀ n ∈ ns, bits n ≤ 1048576) : C_law [.scr ns] (fun s => s = .val (.bl true)) (fun _ => False) := ⟨ns, rfl, hb, hl, rfl⟩
end Ff

namespace Hd
open PySem PySem.Spec L2 Ff
def top (i : Nat) : Stmt := PySem.Challenge.pw_farfloor_k03_bits_turned.main.body.getD i (.Pass ⟨0, 0, 0, 0⟩)
abbrev R : PySem.W.OpenRow := PySem.W.OpenLaw.row PySem.Challenge.rw_farfloor_k03_bits_turned
theorem sc__law_draw : FnScope N_draw ["_law_cell", "_law_k", "_law_many"] (defScope (top 4)) := ⟨rfl, rfl, rfl, by decide +kernel, rfl, by decide +kernel, by decide +kernel⟩
theorem nd__law_draw : N_draw.Nodup := by decide +kernel
theorem fo__law_draw {P : Program} {w : World} {K : PySem.W.Frag} {mg : Str → Option Value} {base : Heap} {dvs : List V} {f : Addr} {fd : FuncData} (F : FunD K "_law_draw" "_law_draw" (defArgs (top 4)) (defBody (top 4)) (defScope (top 4)) dvs [] f fd) :
    FnOk P w K mg base (L2.CX P w) 1 f fd ["_law_cell", "_law_k", "_law_many"] (SpC K C_draw) := by
  have hN : N_draw.Nodup := nd__law_draw
  exact okT F sc__law_draw l_draw t_draw (fun cdv A outer s H E hr =>
      (sd_cons (sd_setV 3 (pd_tup (ad_cons pd_int (ad_cons pd_int (ad_cons pd_int (ad_cons pd_int (ad_cons pd_int (ad_cons pd_int (ad_cons pd_int (ad_cons pd_int ad_nil))))))))))
      (sd_cons (sd_setV 4 (pd_add (pd_add (pd_mul (pd_var 0) pd_int) (pd_mul (pd_var 1) pd_int)) (pd_mul (pd_mod (pd_fdv (pd_var 0) pd_int) pd_int) pd_int)))
      (sd_one (sd_ret (pd_mod (pd_mod (pd_var 4) (pd_ix (pd_var 3) (pd_mod (pd_var 1) pd_int))) (pd_var 2)))))))
theorem sc__law_far : FnScope N_far ["_law_cell"] (defScope (top 5)) := ⟨rfl, rfl, rfl, by decide +kernel, rfl, by decide +kernel, by decide +kernel⟩
theorem nd__law_far : N_far.Nodup := by decide +kernel
theorem fo__law_far {P : Program} {w : World} {K : PySem.W.Frag} {mg : Str → Option Value} {base : Heap} {dvs : List V} {f : Addr} {fd : FuncData} (F : FunD K "_law_far" "_law_far" (defArgs (top 5)) (defBody (top 5)) (defScope (top 5)) dvs [] f fd) :
    FnOk P w K mg base (L2.CX P w) 1 f fd ["_law_cell"] (SpC K C_far) := by
  have hN : N_far.Nodup := nd__law_far
  exact okT F sc__law_far l_far t_far (fun cdv A outer s H E hr =>
      (sd_cons (sd_if (qd_lt (pd_mod (pd_var 0) pd_int) pd_int)
      (sd_one (sd_ret (pd_sub (pd_mod (pd_fdv (pd_var 0) pd_int) pd_int) pd_int)))
      sd_nil)
      (sd_one (sd_ret (pd_sub (pd_mod (pd_fdv (pd_var 0) pd_int) (pd_add (pd_mul pd_int (pd_pow pd_int pd_int)) pd_int)) (pd_pow pd_int pd_int))))))
theorem sc_turned : FnScope N_turned ["bits", "by", "width"] (defScope (top 1)) := ⟨rfl, rfl, rfl, by decide +kernel, rfl, by decide +kernel, by decide +kernel⟩
theorem nd_turned : N_turned.Nodup := by decide +kernel
theorem fo_turned {P : Program} {w : World} {K : PySem.W.Frag} {mg : Str → Option Value} {base : Heap} {dvs : List V} {f : Addr} {fd : FuncData} (F : FunD K "turned" "turned" (defArgs (top 1)) (defBody (top 1)) (defScope (top 1)) dvs [] f fd) :
    FnOk P w K mg base (L2.CX P w) 1 f fd ["bits", "by", "width"] (SpC K C_turned) := by
  have hN : N_turned.Nodup := nd_turned
  exact okT F sc_turned l_turned t_turned (fun cdv A outer s H E hr =>
      (sd_cons (sd_setV 1 (pd_mod (pd_var 1) (pd_var 2)))
      (sd_one (sd_ret (pd_band (pd_bor (pd_shl (pd_var 0) (pd_var 1)) (pd_shr (pd_var 0) (pd_sub (pd_var 2) (pd_var 1)))) (pd_sub (pd_shl pd_int (pd_var 2)) pd_int))))))
theorem sc_law : FnScope N_law ["_law_script"] (defScope (top 6)) := ⟨rfl, rfl, rfl, by decide +kernel, rfl, by decide +kernel, by decide +kernel⟩
theorem nd_law : N_law.Nodup := by decide +kernel
theorem fo_law {P : Program} {w : World} {K : PySem.W.Frag} {mg : Str → Option Value} {base : Heap} {dvs : List V} {f : Addr} {fd : FuncData} (F : FunD K "law" "law" (defArgs (top 6)) (defBody (top 6)) (defScope (top 6)) dvs [] f fd) (m_range : mg "range" = none) (m_isinstance : mg "isinstance" = none) (m_int : mg "int" = none) (m_bool : mg "bool" = none) (m_min : mg "min" = none) (m_len : mg "len" = none) (k__law_draw : Cal P w K mg base "_law_draw" 1 C_draw) (k__law_far : Cal P w K mg base "_law_far" 1 C_far) (k_turned : Cal P w K mg base "turned" 1 C_turned) :
    FnOk P w K mg base (L2.CX P w) 2 f fd ["_law_script"] (SpC K C_law) := by
  have hN : N_law.Nodup := nd_law
  exact okT F sc_law l_law t_law (fun cdv A outer s H E hr =>
      (sd_lop (sd_forR 1 (passes_of rfl) m_range (ad_cons (pd_cb (call_min2 rfl) caT_min bb_min m_min (ad_cons (pd_cb call_len caT_len bb_len m_len (ad_cons (pd_var 0) ad_nil)) (ad_cons pd_int ad_nil))) ad_nil)
      (sd_cons (sd_setV 2 (pd_add (pd_ix (pd_var 0) (pd_var 1)) (pd_mul pd_int (pd_var 1))))
      (sd_cons (sd_setV 3 (pd_add pd_int (pd_call k__law_draw hr (by decide) (ad_cons (pd_var 2) (ad_cons pd_int (ad_cons pd_int ad_nil))))))
      (sd_cut (sd_if (qd_eq hr (pd_call k__law_draw hr (by decide) (ad_cons (pd_var 2) (ad_cons pd_int (ad_cons pd_int ad_nil)))) pd_int)
      (sd_one (sd_setV 3 (pd_add pd_int (pd_call k__law_draw hr (by decide) (ad_cons (pd_var 2) (ad_cons pd_int (ad_cons pd_int ad_nil)))))))
      sd_nil)
      (sd_cons (sd_setV 4 pd_int)
      (sd_lop (sd_forR 5 (passes_of rfl) m_range (ad_cons (pd_var 3) ad_nil)
      (sd_one (sd_setV 4 (pd_add (pd_var 4) (pd_mul (pd_call k__law_draw hr (by decide) (ad_cons (pd_add (pd_var 2) (pd_mul pd_int (pd_var 5))) (ad_cons (pd_add pd_int (pd_mod (pd_var 5) pd_int)) (ad_cons pd_int ad_nil)))) (pd_shl pd_int (pd_var 5)))))))
      (sd_cons (sd_setV 6 (pd_call k__law_far hr (by decide) (ad_cons (pd_ix (pd_var 0) (pd_var 1)) ad_nil)))
      (sd_cons (sd_setV 7 (pd_call k_turned hr (by decide) (ad_cons (pd_var 4) (ad_cons (pd_var 6) (ad_cons (pd_var 3) ad_nil)))))
      (sd_cons (sd_if (PW'.pt (wd_or (qd_not (qd_tru (pd_isi .int bb_int m_int m_isinstance (pd_var 7)))) (wd_or (qd_tru (pd_isi .bool bb_bool m_bool m_isinstance (pd_var 7))) (wd_or (qd_lt (pd_var 7) pd_int) (wd_or1 (qd_ge (pd_var 7) (pd_shl pd_int (pd_var 3))))))))
      (sd_one (sd_ret pd_bl))
      sd_nil)
      (sd_one (sd_forR 5 (passes_of rfl) m_range (ad_cons (pd_var 3) ad_nil)
      (sd_one (sd_if (qd_ne hr (pd_mod (pd_fdv (pd_var 7) (pd_shl pd_int (pd_mod (pd_add (pd_var 5) (pd_var 6)) (pd_var 3)))) pd_int) (pd_mod (pd_fdv (pd_var 4) (pd_shl pd_int (pd_var 5))) pd_int))
      (sd_one (sd_ret pd_bl))
      sd_nil)))))))))))))
      (sd_one (sd_ret pd_bl))))
def fn : List He.DefD := ([⟨("_law_draw", none), "_law_draw", "_law_draw", defArgs (top 4), defBody (top 4), defScope (top 4), [], []⟩, ⟨("_law_far", none), "_law_far", "_law_far", defArgs (top 5), defBody (top 5), defScope (top 5), [], []⟩, ⟨("turned", none), "turned", "turned", defArgs (top 1), defBody (top 1), defScope (top 1), [], []⟩, ⟨("law", none), "law", "law", defArgs (top 6), defBody (top 6), defScope (top 6), [], []⟩] : List He.DefD)
def fa : List He.Fa := ([.glo "_law_draw", .glo "_law_far", .glo "turned", .glo "law", .free "range", .free "isinstance", .free "int", .free "bool", .free "min", .free "len"] : List He.Fa)
def names : List PySem.Str := (["turned", "_law_cell_at", "_law_draw", "_law_far"] : List PySem.Str)
abbrev hk : PySem.W.Hook := He.hookX 5 fa fn [] [] (fun _ => true)
def ob (s : PySem.W.SharedT) : He.AlX := He.obsX 5 fa fn [] [] (fun _ => true) (HandSHeadRun.getT s)
theorem ob_eq (s : PySem.W.SharedT) : ob s = hk.obs s.abs := He.obsX_eq (HandSHeadRun.getT_eq s)
theorem run (w : World) : HandSHeadRun.RunEq R (PySem.W.view R.prog [6]) hk ob 6000 names w := by
  intro os
  kernel_rfl
theorem facts {P : Program} {w : World} {K : PySem.W.Frag} {h : Heap} {mg : Str → Option Value} {f : Addr} (X : K.In h) (G : h.Ns mainGlobals mg) (hfa : mg ("law" : Str) = some (.ref f)) (c : He.SaysD fa fn K) :
    ∃ fd : FuncData, (∀ (s : Shared) (v : Value), BindsTo s fd ⟨[v], []⟩ [("_law_script", v)]) ∧ ∀ base : Heap, K.In base → base.Ns mainGlobals mg → FnOk P w K mg base (L2.CX P w) 2 f fd ["_law_script"] (SpC K C_law) := by
  obtain ⟨fd__law_draw, F__law_draw⟩ := c.def_ 0 (d := ⟨("_law_draw", none), "_law_draw", "_law_draw", defArgs (top 4), defBody (top 4), defScope (top 4), [], []⟩) rfl
  have g__law_draw := He.glo_ok X G (c.fact 0 (f := .glo "_law_draw") rfl)
  obtain ⟨fd__law_far, F__law_far⟩ := c.def_ 1 (d := ⟨("_law_far", none), "_law_far", "_law_far", defArgs (top 5), defBody (top 5), defScope (top 5), [], []⟩) rfl
  have g__law_far := He.glo_ok X G (c.fact 1 (f := .glo "_law_far") rfl)
  obtain ⟨fd_turned, F_turned⟩ := c.def_ 2 (d := ⟨("turned", none), "turned", "turned", defArgs (top 1), defBody (top 1), defScope (top 1), [], []⟩) rfl
  have g_turned := He.glo_ok X G (c.fact 2 (f := .glo "turned") rfl)
  obtain ⟨fd_law, F_law⟩ := c.def_ 3 (d := ⟨("law", none), "law", "law", defArgs (top 6), defBody (top 6), defScope (top 6), [], []⟩) rfl
  have g_law := He.glo_ok X G (c.fact 3 (f := .glo "law") rfl)
  have m_range := He.free_ok X G (c.fact 4 (f := .free "range") rfl)
  have m_isinstance := He.free_ok X G (c.fact 5 (f := .free "isinstance") rfl)
  have m_int := He.free_ok X G (c.fact 6 (f := .free "int") rfl)
  have m_bool := He.free_ok X G (c.fact 7 (f := .free "bool") rfl)
  have m_min := He.free_ok X G (c.fact 8 (f := .free "min") rfl)
  have m_len := He.free_ok X G (c.fact 9 (f := .free "len") rfl)
  have e := hfa.symm.trans g_law
  cases e
  have b := FunD.bindsA (ps := ["_law_script"]) F_law fun _ _ _ _ _ _ us hl => match us, hl with | [_], _ => rfl
  refine ⟨fd_law, fun s v => b s [v] rfl, fun base _ _ => ?_⟩
  have k__law_draw : Cal P w K mg base "_law_draw" 1 C_draw := calT F__law_draw g__law_draw (FunD.bindsN F__law_draw fun _ _ _ _ _ _ us hl => match us, hl with | [_, _, _], _ => rfl) (fo__law_draw F__law_draw )
  have k__law_far : Cal P w K mg base "_law_far" 1 C_far := calT F__law_far g__law_far (FunD.bindsN F__law_far fun _ _ _ _ _ _ us hl => match us, hl with | [_], _ => rfl) (fo__law_far F__law_far )
  have k_turned : Cal P w K mg base "turned" 1 C_turned := calT F_turned g_turned (FunD.bindsN F_turned fun _ _ _ _ _ _ us hl => match us, hl with | [_, _, _], _ => rfl) (fo_turned F_turned )
  exact fo_law F_law m_range m_isinstance m_int m_bool m_min m_len k__law_draw k__law_far k_turned
end Hd
open PySem PySem.W PySem.Calls PyProof.Rows
set_option maxRecDepth 100000 in
set_option maxHeartbeats 8000000 in
theorem PySem.Challenge.cw_farfloor_k03_bits_turned_holds : PySem.Challenge.rw_farfloor_k03_bits_turned.Holds := by
  w_on; o_law
  refine HandSHeadRun.head_any (r := OpenLaw.row PySem.Challenge.rw_farfloor_k03_bits_turned) (q := view (OpenLaw.row PySem.Challenge.rw_farfloor_k03_bits_turned).prog [6]) (H := Hd.hk) (ob := Hd.ob) (M := 6000) (loose := Hd.names) (d := HandSHeadRun.topDef (OpenLaw.row PySem.Challenge.rw_farfloor_k03_bits_turned).prog 6) (kwd := []) Hd.ob_eq
    (by kernel_rfl) (fun s => by kernel_rfl) Hd.run (by kernel_rfl) (by kernel_rfl) (by kernel_rfl) (by rfl) (by first | assumption | decide +kernel) (by decide +kernel) ⟨rfl, rfl, rfl, rfl, rfl, by decide +kernel⟩ ?hw ?hc
  case hw => w_witness2
  case hc =>
    refine LamX.walk_ofTsE (l := PySem.Challenge.rw_farfloor_k03_bits_turned) (n := 63) (k := 2) (x := "_law_script") (CX := fun w => L2.CX (PySem.Challenge.rw_farfloor_k03_bits_turned).prog w) rfl (by decide) (by kernel_rfl) ⟨rfl, by decide, by decide⟩ ?F (fun w H s e s' z => Ff.cx_no z)
    intro w mg fa h Y G hmg0
    obtain ⟨K, KX, c⟩ := Y
    have hmg : mg ("law" : PySem.Str) = some (.ref fa) := by
      have e : (HandSHeadRun.topDef (OpenLaw.row PySem.Challenge.rw_farfloor_k03_bits_turned).prog 6).name = ("law" : PySem.Str) := by kernel_rfl
      rw [← e]
      exact hmg0
    obtain ⟨fd, hb, hF⟩ := Hd.facts (P := (PySem.Challenge.rw_farfloor_k03_bits_turned).prog) (w := w) KX G hmg c.t.d
    exact ⟨K, KX, fd, [], Ff.SpC K Ff.C_law, fun _ hp => (nomatch hp), fun _ hp => (nomatch hp), fun _ hp => (nomatch hp), hb, fun H a ns hl hbits _ hS => Ff.law_sp hS (Ff.e_law ns hl hbits), fun base h1 h2 _ => hF base h1 h2⟩
#print axioms PySem.Challenge.cw_farfloor_k03_bits_turned_holds

